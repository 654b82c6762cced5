import PyProof.Rows.All
import Wide.All
import OpenK.AllK
import Wide.FinOn
import HandS.ForMost
import HandS.ForExc
import HandS.Wide
import HandS.IsInst
import KE.KOpsOwn
import KE.KIsAll
import HandS.Property
import HandS.Defaults
import HandS.MakeKw
import HandS.Style
import PyProof.TwoTypes
import PyProof.InstNe
import HandS.EndBits
import PyProof.ReprRoads
import PyProof.ReprLen
import HandS.RaiseMore
import HandS.MakeKwOnly
import HandS.Deep
import HandS.TupAny
import HandS.List
import OpenK.KMeth
import KE.KCallOwn
import HandS.Star
import HandS.Text
import PyProof.Rows.ReprOcc
import HandS.Lambda
import HandS.Nested
import HandS.EndTab
import HandS.Conv
import HandS.ExcInit
import HandS.ExcField
import HandS.ExcIs
import KE.KExcSuper
import HandS.ExcCtx
import HandS.Exc
import KE.KExcIs
import HandS.SortKw
import KE.DataMinMax
import KE.GoesEnum
import HandS.Iter
import PyProof.LongRange
import HandS.DictComp
import PyProof.DictFindH
import HandS.More
import OpenK.KCls
import HandS.Steps
import PyProof.ListStr
import HandS.DeepEq
import KE.KEqNest
import HandS.DictTup
import KE.KIntText
import KE.KDictDisplayH
import PyProof.StrOps2
import HandS.OwnIter
import HandS.IterNext
import KE.GoesZip
import KE.GoesMore
import HandS.Flow
import PyProof.EqKinds
import PyProof.NeKinds
import PyProof.FactsAll.dict
import KE.DataEq
import PyProof.Rows.Range3
import HandS.Head0
import HandS.Head1
import HandS.Head2
import PySem.Challenge.RW_headgap_k01_errors_made
set_option Elab.async false
set_option linter.all false
set_option maxRecDepth 100000
set_option maxHeartbeats 4000000
set_option exponentiation.threshold 3000
namespace HG
open PySem L2
section
variable {X : Cx}
theorem opImp {f : Value → Value → Sem Value} {r r' : R2} (h : OpR X f r) (hi : ∀ x y H Q, r' x y H Q → r x y H Q) : OpR X f r' :=
  fun pins s σ H x y v u Q I rx ry q => h pins s σ H x y v u Q I rx ry (hi x y H Q q)
theorem callImp {f : Value} {r r' : List V → Hp → VK → Prop} (h : CallR X f r) (hi : ∀ xs H Q, r' xs H Q → r xs H Q) : CallR X f r' :=
  fun pins s σ H xs us Q I rx q => h pins s σ H xs us Q I rx (hi xs H Q q)

/-! ### operators, by the kinds of the values -/
def oAdd : R2 := fun x y H Q => match x, y with
  | .int i, .int j => Q (.int (i + j)) H
  | .str a, .str b => a.length + b.length ≤ sizeLine ∧ Q (.str (a ++ b)) H
  | .ref l, .ref b => match H l, H b with
    | some (.lst xs), some (.lst zs) => xs.length + zs.length ≤ sizeLine ∧ ∀ p, H p = none → Q (.ref p) (upd H p (.lst (xs ++ zs)))
    | _, _ => False
  | _, _ => False
theorem op_addU : OpR X (binaryOp .Add) oAdd := opImp (op_add.or (op_add_str.or op_cat)) fun x y H Q h => by
  unfold oAdd at h
  split at h
  · exact .inl ⟨_, _, rfl, rfl, h⟩
  · exact .inr (.inl ⟨_, _, rfl, rfl, h.1, h.2⟩)
  · split at h
    · rename_i e1 e2
      exact .inr (.inr ⟨_, _, _, _, rfl, rfl, e1, e2, h.1, h.2⟩)
    · exact h.elim
  · exact h.elim
def oSub : R2 := fun x y H Q => match x, y with
  | .int i, .int j => Q (.int (i - j)) H
  | _, _ => False
theorem op_subU : OpR X (binaryOp .Sub) oSub := opImp op_sub fun x y H Q h => by
  unfold oSub at h
  split at h
  · exact ⟨_, _, rfl, rfl, h⟩
  · exact h.elim
def oMul : R2 := fun x y H Q => match x, y with
  | .int i, .int j => IntMulOk i j ∧ Q (.int (i * j)) H
  | .ref l, .int k => match H l with
    | some (.lst xs) => -(2 ^ 63) ≤ k ∧ k < 2 ^ 63 ∧ xs.length * k.toNat ≤ sizeLine ∧ ∀ p, H p = none → Q (.ref p) (upd H p (.lst (List.replicate k.toNat xs).flatten))
    | _ => False
  | _, _ => False
theorem op_mulOk : OpR X (binaryOp .Mult) (rI IntMulOk fun i j => .int (i * j)) := opI fun _ _ _ _ _ _ _ hc q => PyProof.Rows.mul_int q hc
theorem op_mulU : OpR X (binaryOp .Mult) oMul := opImp (op_mulOk.or op_rep) fun x y H Q h => by
  unfold oMul at h
  split at h
  · exact .inl ⟨_, _, rfl, rfl, h.1, h.2⟩
  · split at h
    · rename_i e
      exact .inr ⟨_, _, _, rfl, rfl, e, h.1, h.2.1, h.2.2.1, h.2.2.2⟩
    · exact h.elim
  · exact h.elim
def oFdiv : R2 := fun x y H Q => match x, y with
  | .int i, .int j => CDivW i j ∧ Q (.int (i / j)) H
  | _, _ => False
theorem op_fdivU : OpR X (binaryOp .FloorDiv) oFdiv := opImp op_fdivW fun x y H Q h => by
  unfold oFdiv at h
  split at h
  · exact ⟨_, _, rfl, rfl, h.1, h.2⟩
  · exact h.elim
def oMod : R2 := fun x y H Q => match x, y with
  | .int i, .int j => 0 < j ∧ Q (.int (i % j)) H
  | _, _ => False
theorem op_modU : OpR X (binaryOp .Mod) oMod := opImp op_mod fun x y H Q h => by
  unfold oMod at h
  split at h
  · exact ⟨_, _, rfl, rfl, h.1, h.2⟩
  · exact h.elim
def oPow : R2 := fun x y H Q => match x, y with
  | .int i, .int j => CPow i j ∧ Q (.int (i ^ j.toNat)) H
  | _, _ => False
theorem op_powU : OpR X (binaryOp .Pow) oPow := opImp op_pow fun x y H Q h => by
  unfold oPow at h
  split at h
  · exact ⟨_, _, rfl, rfl, h.1, h.2⟩
  · exact h.elim
def uNeg : V → Hp → VK → Prop := fun x H Q => match x with
  | .int i => Q (.int (-i)) H
  | _ => False
theorem un_negU : UnR X (unaryOp .USub) uNeg := fun pins s σ H x v Q I rx h => by
  refine un_neg pins s σ H x v Q I rx ?_
  unfold uNeg at h
  split at h
  · exact ⟨_, rfl, h⟩
  · exact h.elim
def oLt : R2 := fun x y H Q => match x, y with
  | .int i, .int j => Q (.bl (decide (i < j))) H
  | _, _ => False
theorem op_ltU : OpR X (compareOp .Lt) oLt := opImp op_lt fun x y H Q h => by
  unfold oLt at h
  split at h
  · exact ⟨_, _, rfl, rfl, h⟩
  · exact h.elim
def oLe : R2 := fun x y H Q => match x, y with
  | .int i, .int j => Q (.bl (decide (i ≤ j))) H
  | _, _ => False
def oGt : R2 := fun x y H Q => match x, y with
  | .int i, .int j => Q (.bl (decide (j < i))) H
  | _, _ => False
theorem op_gtU : OpR X (compareOp .Gt) oGt := opImp op_gt fun x y H Q h => by
  unfold oGt at h
  split at h
  · exact ⟨_, _, rfl, rfl, h⟩
  · exact h.elim
def oGe : R2 := fun x y H Q => match x, y with
  | .int i, .int j => Q (.bl (decide (j ≤ i))) H
  | _, _ => False
theorem op_geU : OpR X (compareOp .GtE) oGe := opImp op_ge fun x y H Q h => by
  unfold oGe at h
  split at h
  · exact ⟨_, _, rfl, rfl, h⟩
  · exact h.elim
/-! ### data, read off the abstract heap -/
def dataL (f : V → Option PyData) : List V → Option (List PyData)
  | [] => some []
  | x :: xs => match f x with
    | some d => match dataL f xs with
      | some ds => some (d :: ds)
      | none => none
    | none => none
def dataF : Nat → Hp → V → Option PyData
  | _, _, .non => some .none
  | _, _, .bl b => some (.bool b)
  | _, _, .int i => some (.int i)
  | _, _, .str x => some (.str x)
  | n + 1, H, .ref a => match H a with
    | some (.lst xs) => (dataL (dataF n H) xs).map .list
    | some (.tup xs) => (dataL (dataF n H) xs).map .tuple
    | _ => none
  | _, _, _ => none
theorem dpAll_of {K : PySem.W.Frag} {H : Hp} {f : V → Option PyData} (hf : ∀ x d, f x = some d → Dp K H x d) : ∀ {xs : List V} {ds : List PyData}, dataL f xs = some ds → DpAll K H xs ds
  | [], ds, h => by
    cases h
    exact .nil
  | x :: xs, ds, h => by
    simp only [dataL] at h
    split at h
    · rename_i d e
      split at h
      · rename_i ds' e'
        cases h
        exact .cons (hf x d e) (dpAll_of hf e')
      · cases h
    · cases h
theorem dp_of {K : PySem.W.Frag} {H : Hp} : ∀ {n : Nat} {x : V} {d : PyData}, dataF n H x = some d → Dp K H x d
  | n, .non, d, h => by
    have e : some PyData.none = some d := by rw [← h]; cases n <;> rfl
    cases e
    exact .non
  | n, .bl b, d, h => by
    have e : some (PyData.bool b) = some d := by rw [← h]; cases n <;> rfl
    cases e
    exact .bl b
  | n, .int i, d, h => by
    have e : some (PyData.int i) = some d := by rw [← h]; cases n <;> rfl
    cases e
    exact .int i
  | n, .str i, d, h => by
    have e : some (PyData.str i) = some d := by rw [← h]; cases n <;> rfl
    cases e
    exact .str i
  | n, .byt i, d, h => by cases n <;> cases h
  | n, .flt i, d, h => by cases n <;> cases h
  | n, .ty i, d, h => by cases n <;> cases h
  | 0, .ref a, d, h => by cases h
  | n + 1, .ref a, d, h => by
    simp only [dataF] at h
    split at h
    · rename_i xs e
      obtain ⟨ds, e1, rfl⟩ := Option.map_eq_some_iff.mp h
      exact .lst (SqL.of e) (dpAll_of (fun x d q => dp_of q) e1)
    · rename_i xs e
      obtain ⟨ds, e1, rfl⟩ := Option.map_eq_some_iff.mp h
      exact .tup (SqT.of e) (dpAll_of (fun x d q => dp_of q) e1)
    · cases h
def oEq (K : PySem.W.Frag) : R2 := fun x y H Q => match x, y with
  | .int i, .int j => Q (.bl (decide (i = j))) H
  | .str i, .str j => Q (.bl (decide (i = j))) H
  | .bl i, .bl j => Q (.bl (decide (i = j))) H
  | x, y => match dataF 8 H x, dataF 8 H y with
    | some d, some e => SeqAt.shaped d = true ∧ SeqAt.shaped e = true ∧ Q (.bl (PyData.eqv d e)) H
    | _, _ => False
theorem dec_V {α : Type} [DecidableEq α] {f : α → V} (inj : ∀ a b, f a = f b → a = b) (a b : α) : decide (f a = f b) = decide (a = b) := by
  by_cases h : a = b
  · subst h; simp
  · rw [decide_eq_false h, decide_eq_false fun q => h (inj a b q)]
def oNe (K : PySem.W.Frag) : R2 := fun x y H Q => match x, y with
  | .int i, .int j => Q (.bl (!decide (i = j))) H
  | .str i, .str j => Q (.bl (!decide (i = j))) H
  | .bl i, .bl j => Q (.bl (!decide (i = j))) H
  | x, y => match dataF 8 H x, dataF 8 H y with
    | some d, some e => SeqAt.shaped d = true ∧ SeqAt.shaped e = true ∧ Q (.bl (!PyData.eqv d e)) H
    | _, _ => False
theorem op_neU (hu : X.A.units + 64 < cLine) : OpR X (compareOp .NotEq) (oNe X.K) := opImp (op_ne.or (op_neD hu)) fun x y H Q h => by
  unfold oNe at h
  split at h
  · exact .inl ⟨rfl, by rw [dec_V (f := V.int) (fun _ _ q => by injection q)]; exact h⟩
  · exact .inl ⟨rfl, by rw [dec_V (f := V.str) (fun _ _ q => by injection q)]; exact h⟩
  · exact .inl ⟨rfl, by rw [dec_V (f := V.bl) (fun _ _ q => by injection q)]; exact h⟩
  · split at h
    · rename_i e1 e2
      exact .inr ⟨_, _, dp_of e1, dp_of e2, h.1, h.2.1, h.2.2⟩
    · exact h.elim

/-! ### sequences -/
/-- the items of the list or tuple at p -/
def rdSeq (K : PySem.W.Frag) (H : Hp) (p : Addr) (k : List V → Prop) : Prop := match H p with
  | some (.lst xs) => k xs
  | some (.tup xs) => k xs
  | _ => ∃ xs, (SqL K H p xs ∨ SqT K H p xs) ∧ k xs
theorem rdSeq_out {K : PySem.W.Frag} {H : Hp} {p : Addr} {k : List V → Prop} (h : rdSeq K H p k) : ∃ xs, (SqL K H p xs ∨ SqT K H p xs) ∧ k xs := by
  unfold rdSeq at h
  split at h
  · rename_i e; exact ⟨_, .inl (SqL.of e), h⟩
  · rename_i e; exact ⟨_, .inr (SqT.of e), h⟩
  · exact h
/-! ### built-in functions -/
def cLen (K : PySem.W.Frag) : List V → Hp → VK → Prop := fun xs H Q => match xs with
  | [.ref p] => rdSeq K H p fun ys => Q (.int ys.length) H
  | [.str z] => z.length ≤ sizeLine ∧ Q (.int z.length) H
  | _ => False
theorem call_lenU : CallR X (.builtin "len") (cLen X.K) := callImp (call_len_seq.or call_len_str) fun xs H Q h => by
  unfold cLen at h
  split at h
  · obtain ⟨ys, h1, h2⟩ := rdSeq_out h
    exact .inl ⟨_, ys, rfl, h1, h2⟩
  · exact .inr ⟨_, rfl, h.1, h.2⟩
  · exact h.elim
def cAbs : List V → Hp → VK → Prop := fun xs H Q => match xs with
  | [.int i] => Q (.int (if i < 0 then -i else i)) H
  | _ => False
theorem call_absU : CallR X (.builtin "abs") cAbs := callImp call_abs fun xs H Q h => by
  unfold cAbs at h
  split at h
  · exact ⟨_, rfl, h⟩
  · exact h.elim
def cInt : List V → Hp → VK → Prop := fun xs H Q => match xs with
  | [.int i] => Q (.int i) H
  | [.bl b] => Q (.int (if b then 1 else 0)) H
  | [.str a] => ∃ n, PySem.intText? a = some n ∧ a.length ≤ 640 ∧ Q (.int n) H
  | _ => False
theorem call_intU : CallR X (.type "int") cInt := callImp (call_int1.or call_int_str) fun xs H Q h => by
  unfold cInt at h
  split at h
  · exact .inl (.inl ⟨_, rfl, h⟩)
  · exact .inl (.inr ⟨_, rfl, h⟩)
  · obtain ⟨n, h1, h2, h3⟩ := h
    exact .inr ⟨_, n, rfl, h1, h2, h3⟩
  · exact h.elim
def cList (K : PySem.W.Frag) : List V → Hp → VK → Prop := fun xs H Q => match xs with
  | [.ref p] => rdSeq K H p fun ys => ∀ l, H l = none → Q (.ref l) (upd H l (.lst ys))
  | _ => False
theorem call_listU : CallR X (.type "list") (cList X.K) := callImp call_list_of fun xs H Q h => by
  unfold cList at h
  split at h
  · obtain ⟨ys, h1, h2⟩ := rdSeq_out h
    exact ⟨_, ys, rfl, h1, h2⟩
  · exact h.elim
def iIx (K : PySem.W.Frag) : R2 := fun x y H Q => match x, y with
  | .ref p, .int i => rdSeq K H p fun xs => match atI xs i with
    | some v => Q v H
    | none => False
  | .str z, .int i => z.length ≤ sizeLine ∧ match atI z.cps.toList i with
    | some c => Q (.str ⟨#[c]⟩) H
    | none => False
  | _, _ => False
theorem ix_U : IxR X (iIx X.K) := fun value slice pins s σ H x y v u Q I rx ry h hs => by
  refine ix_seq value slice pins s σ H x y v u Q I rx ry ?_ hs
  unfold iIx at h
  split at h
  · obtain ⟨xs, h1, h2⟩ := rdSeq_out h
    split at h2
    · rename_i e
      rcases h1 with h1 | h1
      · exact .inl ⟨_, xs, _, _, rfl, rfl, h1, e, h2⟩
      · exact .inr (.inl ⟨_, xs, _, _, rfl, rfl, h1, e, h2⟩)
    · exact h2.elim
  · obtain ⟨h1, h2⟩ := h
    split at h2
    · rename_i e
      exact .inr (.inr ⟨_, _, _, rfl, rfl, h1, e, h2⟩)
    · exact h2.elim
  · exact h.elim
def setI (xs : List V) (k : Int) (v : V) : Option (List V) := (ixN xs.length k).map fun j => xs.set j v
def stL : V → V → V → Hp → (Hp → Prop) → Prop := fun o i v H Q => match o, i with
  | .ref p, .int k => match H p with
    | some (.lst xs) => match setI xs k v with
      | some ys => Q (upd H p (.lst ys))
      | none => False
    | _ => False
  | _, _ => False
theorem set_U : PSet X stL := fun pins s σ H o i v ov iv u Q I ro ri rv h => by
  refine set_list pins s σ H o i v ov iv u Q I ro ri rv ?_
  unfold stL at h
  split at h
  · split at h
    · rename_i e
      split at h
      · rename_i e2
        unfold setI at e2
        obtain ⟨j, e3, e4⟩ := Option.map_eq_some_iff.mp e2
        subst e4
        exact ⟨_, _, _, _, rfl, rfl, e, e3, h⟩
      · exact h.elim
    · exact h.elim
  · exact h.elim
end
theorem atI_0 {x : V} {xs : List V} : atI (x :: xs) 0 = some x := by
  simp [atI, ixN]
theorem atI_1 {x y : V} {xs : List V} : atI (x :: y :: xs) 1 = some y := by
  have h : (1 : Int) < ((x :: y :: xs).length : Int) := by simp; omega
  simp only [atI, ixN]
  rw [if_pos (by decide), if_pos h]
  rfl
theorem atI_2 {x y z : V} {xs : List V} : atI (x :: y :: z :: xs) 2 = some z := by
  have h : (2 : Int) < ((x :: y :: z :: xs).length : Int) := by simp; omega
  simp only [atI, ixN]
  rw [if_pos (by decide), if_pos h]
  rfl
theorem setI_1 {x y v : V} {xs : List V} : setI (x :: y :: xs) 1 v = some (x :: v :: xs) := by
  have h : (1 : Int) < ((x :: y :: xs).length : Int) := by simp; omega
  simp only [setI, ixN]
  rw [if_pos (by decide), if_pos h]
  rfl
theorem setI_2 {x y z v : V} {xs : List V} : setI (x :: y :: z :: xs) 2 v = some (x :: y :: v :: xs) := by
  have h : (2 : Int) < ((x :: y :: z :: xs).length : Int) := by simp; omega
  simp only [setI, ixN]
  rw [if_pos (by decide), if_pos h]
  rfl
theorem atI_nat' {xs : List V} {i : Int} {v : V} (h0 : 0 ≤ i) (h : xs[i.toNat]? = some v) : atI xs i = some v := by
  have hl : i.toNat < xs.length := (List.getElem?_eq_some_iff.mp h).1
  simp only [atI, ixN]
  rw [if_pos h0, if_pos (by omega)]
  exact h
theorem ite_dec {c A B : Prop} [Decidable c] (h1 : c → A) (h2 : ¬ c → B) : if decide c = true then A else B := by
  by_cases h : c
  · rw [if_pos (decide_eq_true h)]; exact h1 h
  · rw [if_neg (by simp [h])]; exact h2 h
theorem ite_b {b : Bool} {A B : Prop} (h1 : b = true → A) (h2 : b = false → B) : if b = true then A else B := by
  cases b with
  | true => rw [if_pos rfl]; exact h1 rfl
  | false => rw [if_neg (by decide)]; exact h2 rfl
end HG

namespace HG
open PySem L2
section
variable {σ : L2.St} {H : Hp} {D : Ends} {te tv : TE} {t u : TS} {c : TT} {g : TG} {Q : VK}
theorem evE (P : VK → Prop) (h : ∀ Q, P Q → te σ H Q) (hq : P Q) : te σ H Q := h Q hq
theorem evA {ta : TA} {Q : List V → Hp → Prop} (P : (List V → Hp → Prop) → Prop) (h : ∀ Q, P Q → ta σ H Q) (hq : P Q) : ta σ H Q := h Q hq
theorem evT {Q : Bool → Hp → Prop} (P : (Bool → Hp → Prop) → Prop) (h : ∀ Q, P Q → c σ H Q) (hq : P Q) : c σ H Q := h Q hq
theorem evG {v : V} {Q : L2.St → Hp → Prop} (P : (L2.St → Hp → Prop) → Prop) (h : ∀ Q, P Q → g v σ H Q) (hq : P Q) : g v σ H Q := h Q hq
theorem st_seq (h : t { D with nx := u D } σ H) : tSeq t u D σ H := h
theorem st_asg (h : te σ H fun x H1 => g x σ H1 D.nx) : tAsg te g D σ H := h
theorem st_if (h : c σ H fun b H1 => if b = true then t D σ H1 else u D σ H1) : tIfS c t u D σ H := h
theorem st_ret (h : te σ H D.rt) : tRet te D σ H := h
theorem st_drop (h : te σ H fun _ H1 => D.nx σ H1) : tDrop te D σ H := h
end
end HG
namespace HG
open PySem L2
/-! ### lists of ints as data -/
theorem canLay_ints : ∀ ns : List Int, PyData.canLayAll0 (ns.map PyData.int) = true
  | [] => rfl
  | n :: r => by
    show (PyData.canLay0 (PyData.int n) && PyData.canLayAll0 (r.map PyData.int)) = true
    rw [canLay_ints r]; rfl
theorem depth_ints : ∀ ns : List Int, PyData.depthAll (ns.map PyData.int) = 0
  | [] => rfl
  | n :: r => by
    show max (PyData.depth (PyData.int n)) (PyData.depthAll (r.map PyData.int)) = 0
    rw [depth_ints r]; rfl
theorem shaped_ints (ns : List Int) : SeqAt.shaped (.list (ns.map PyData.int)) = true := by
  show (PyData.canLayAll0 (ns.map PyData.int) && decide (PyData.depthAll (ns.map PyData.int) + 1 ≤ 64)) = true
  rw [canLay_ints, depth_ints]; rfl
theorem eqv_nil (ns : List Int) : PyData.eqv (.list (ns.map PyData.int)) (.list []) = ns.isEmpty := by
  cases ns with
  | nil => rfl
  | cons a r => rfl
theorem dataL_ints {f : V → Option PyData} (hf : ∀ i, f (.int i) = some (.int i)) : ∀ ns : List Int, dataL f (ns.map V.int) = some (ns.map PyData.int)
  | [] => rfl
  | n :: r => by
    show (match f (.int n) with | some d => (match dataL f (r.map V.int) with | some ds => some (d :: ds) | none => none) | none => none) = _
    rw [hf, dataL_ints hf r]
    rfl
theorem dataF_int {n : Nat} {H : Hp} {i : Int} : dataF n H (.int i) = some (.int i) := by cases n <;> rfl
theorem dataF_ints {n : Nat} {H : Hp} {l : Addr} {ns : List Int} (h : H l = some (.lst (ns.map V.int))) : dataF (n + 1) H (.ref l) = some (.list (ns.map PyData.int)) := by
  simp only [dataF, h]
  rw [dataL_ints (fun i => dataF_int)]
  rfl
/-- a list of ints is unequal to the empty one -/
theorem ne_nil {K : PySem.W.Frag} {H : Hp} {l q : Addr} {ns : List Int} {Q : VK} (hl : H l = some (.lst (ns.map V.int))) (hq : H q = some (.lst [])) (h : Q (.bl (!ns.isEmpty)) H) : oNe K (.ref l) (.ref q) H Q := by
  have e1 : dataF 8 H (.ref l) = some (.list (ns.map PyData.int)) := dataF_ints hl
  have e2 : dataF 8 H (.ref q) = some (.list []) := dataF_ints (ns := []) hq
  simp only [oNe, e1, e2]
  exact ⟨shaped_ints ns, shaped_ints [], by rw [eqv_nil]; exact h⟩
def Keep (p : Addr) (H H' : Hp) : Prop := ∀ b o, b ≠ p → H b = some o → H' b = some o
theorem mod_range {x m : Int} (h : 0 < m) : 0 ≤ x % m ∧ x % m < m := ⟨Int.emod_nonneg _ (by omega), Int.emod_lt_of_pos _ h⟩
end HG
namespace HG
open PySem L2
/-! ### the draw's arithmetic -/
theorem mulok_left {i j : Int} (h1 : -(2 ^ 64) < i) (h2 : i < 2 ^ 64) : IntMulOk i j := .of_left (intBits_le_64 h1 h2)
theorem draw_pow1 {x t a c : Int} (hx0 : 0 ≤ x) (hx : x < 2147483648) (ht0 : 0 ≤ t) (ht : t ≤ 1000000) (ha0 : 0 ≤ a) (ha : a ≤ 1000000) (hc0 : 0 ≤ c) (hc : c ≤ 1000000) : (x + a * t + c).natAbs < 2 ^ 64 := by
  have h : a * t ≤ 1000000 * 1000000 := Int.mul_le_mul ha ht ht0 (by decide)
  have h0 : 0 ≤ a * t := Int.mul_nonneg ha0 ht0
  omega
theorem draw_pow2 {x t a b c : Int} (hx0 : 0 ≤ x) (hx : x < 2147483648) (ht0 : 0 ≤ t) (ht : t ≤ 1000000) (ha0 : 0 ≤ a) (ha : a ≤ 1000000) (hb0 : 0 ≤ b) (hb : b ≤ 1000000) (hc0 : 0 ≤ c) (hc : c ≤ 1000000) :
    (x * (2 * t + a) + b * t * t + c).natAbs < 2 ^ 64 := by
  have h1 : x * (2 * t + a) ≤ 2147483648 * 3000000 := Int.mul_le_mul (by omega) (by omega) (by omega) (by decide)
  have h10 : 0 ≤ x * (2 * t + a) := Int.mul_nonneg hx0 (by omega)
  have h2 : b * t ≤ 1000000 * 1000000 := Int.mul_le_mul hb ht ht0 (by decide)
  have h20 : 0 ≤ b * t := Int.mul_nonneg hb0 ht0
  have h3 : b * t * t ≤ (1000000 * 1000000) * 1000000 := Int.mul_le_mul h2 ht ht0 (by decide)
  have h30 : 0 ≤ b * t * t := Int.mul_nonneg h20 ht0
  omega
theorem draw_bt {t b : Int} (ht0 : 0 ≤ t) (ht : t ≤ 1000000) (hb0 : 0 ≤ b) (hb : b ≤ 1000000) : IntMulOk (b * t) t := by
  have h2 : b * t ≤ 1000000 * 1000000 := Int.mul_le_mul hb ht ht0 (by decide)
  have h20 : 0 ≤ b * t := Int.mul_nonneg hb0 ht0
  exact mulok_left (by omega) (by omega)
end HG
namespace HG
open PySem L2
section
variable {K : PySem.W.Frag} {H : Hp} {Q : VK} {i j : Int} {a b : Str} {c d : Bool}
theorem oEq_int : oEq K (.int i) (.int j) H Q = Q (.bl (decide (i = j))) H := rfl
theorem oEq_str : oEq K (.str a) (.str b) H Q = Q (.bl (decide (a = b))) H := rfl
theorem oEq_bl : oEq K (.bl c) (.bl d) H Q = Q (.bl (decide (c = d))) H := rfl
theorem oNe_int : oNe K (.int i) (.int j) H Q = Q (.bl (!decide (i = j))) H := rfl
theorem oNe_str : oNe K (.str a) (.str b) H Q = Q (.bl (!decide (a = b))) H := rfl
theorem oNe_bl : oNe K (.bl c) (.bl d) H Q = Q (.bl (!decide (c = d))) H := rfl
end
end HG
namespace HG
open PySem L2
/-! ### the readings at values whose kinds are seen -/
section
variable {K : PySem.W.Frag} {H : Hp} {Q : VK} {i j : Int} {a b : Str} {c d : Bool} {p s : Addr} {v : V} {QH : Hp → Prop}
theorem oAdd_int : oAdd (.int i) (.int j) H Q = Q (.int (i + j)) H := rfl
theorem oAdd_str : oAdd (.str a) (.str b) H Q = (a.length + b.length ≤ sizeLine ∧ Q (.str (a ++ b)) H) := rfl
theorem oSub_int : oSub (.int i) (.int j) H Q = Q (.int (i - j)) H := rfl
theorem oMul_int : oMul (.int i) (.int j) H Q = (IntMulOk i j ∧ Q (.int (i * j)) H) := rfl
theorem oFdiv_int : oFdiv (.int i) (.int j) H Q = (CDivW i j ∧ Q (.int (i / j)) H) := rfl
theorem oMod_int : oMod (.int i) (.int j) H Q = (0 < j ∧ Q (.int (i % j)) H) := rfl
theorem oPow_int : oPow (.int i) (.int j) H Q = (CPow i j ∧ Q (.int (i ^ j.toNat)) H) := rfl
theorem uNeg_int : uNeg (.int i) H Q = Q (.int (-i)) H := rfl
theorem oLt_int : oLt (.int i) (.int j) H Q = Q (.bl (decide (i < j))) H := rfl
theorem oLe_int : oLe (.int i) (.int j) H Q = Q (.bl (decide (i ≤ j))) H := rfl
theorem oGt_int : oGt (.int i) (.int j) H Q = Q (.bl (decide (j < i))) H := rfl
theorem oGe_int : oGe (.int i) (.int j) H Q = Q (.bl (decide (j ≤ i))) H := rfl
theorem cLen_ref : cLen K [.ref p] H Q = rdSeq K H p fun ys => Q (.int ys.length) H := rfl
theorem cAbs_int : cAbs [.int i] H Q = Q (.int (if i < 0 then -i else i)) H := rfl
theorem cInt_int : cInt [.int i] H Q = Q (.int i) H := rfl
theorem cInt_bl : cInt [.bl c] H Q = Q (.int (if c then 1 else 0)) H := rfl
theorem cList_ref : cList K [.ref p] H Q = rdSeq K H p fun ys => ∀ l, H l = none → Q (.ref l) (upd H l (.lst ys)) := rfl
theorem iIx_ref : iIx K (.ref p) (.int i) H Q = rdSeq K H p fun xs => match atI xs i with
    | some v => Q v H
    | none => False := rfl
theorem stL_ref : stL (.ref p) (.int i) v H QH = (match H p with
    | some (.lst xs) => match setI xs i v with
      | some ys => QH (upd H p (.lst ys))
      | none => False
    | _ => False) := rfl
end
end HG
namespace HG
theorem if_yes {A B : Prop} (h : A) : if true = true then A else B := by rw [if_pos rfl]; exact h
theorem if_no {A B : Prop} (h : B) : if false = true then A else B := by rw [if_neg (by decide)]; exact h
end HG

namespace HG
open PySem L2
/-! ### kinds of values -/
/-- the type of a value, by the abstract heap -/
def tyF (H : Hp) : V → Option Value
  | .non => some (.type "NoneType")
  | .bl _ => some (.type "bool")
  | .int _ => some (.type "int")
  | .str _ => some (.type "str")
  | .ref a => match H a with
    | some (.lst _) => some (.type "list")
    | some (.tup _) => some (.type "tuple")
    | some (.dK _) => some (.type "dict")
    | some (.dT _) => some (.type "dict")
    | some (.ins C _ _) => some (.ref C)
    | _ => none
  | _ => none
/-- what isinstance asks of a class of the text -/
structure InsTy (K : PySem.W.Frag) (C : Addr) : Prop where
  cl : Cls K C
  ha : PySem.W.findIn K (.ref C) "__class__" = some (some (.builtin "object.__class__"))
  hn : PySem.W.specialIn K (.builtin "object.__class__") "__get__" = some (some (.builtin "getset_descriptor.__get__"))
  htk : PySem.W.takesIn K (.builtin "object.__class__") = some true
  hm : PySem.W.mroIn K C (.type "object") = some true
def tyOk (K : PySem.W.Frag) : Value → Prop
  | .ref C => InsTy K C
  | _ => True
/-! ### operators of a class of the text -/
/-- a def f of the text, called on values at X.A -/
structure Own (X : Cx) (k : Nat) (f : Addr) (sp : Sp) : Prop where
  run : ∀ {pins : List (Addr × Obj)} {σ : L2.St} {H : Hp} {s : Shared} {Q : VK} {us : List Value} {vs : List V}, Inv X pins σ H s → Vals vs us → sp vs H Q E0 → wpAny (model X.prog X.w) X.A (call (.ref f) us) (EP X pins σ Q) X.xe s
/-- x op y, x of the class at C, y of the same or an int -/
structure BinF (K : PySem.W.Frag) (C f : Addr) (op : Operator) : Prop where
  sf : PySem.W.selfFirst K C = true
  fn : PySem.W.findIn K (.ref C) (PySem.dunder op.info.2) = some (some (.ref f))
  isf : PySem.W.isFn K (.ref f) = true
  rc : ∃ rc, PySem.W.findIn K (.ref C) (dunderR op.info.2) = some rc ∧ (rc = none ∨ ∃ g : Addr, rc = some (.ref g))
  i1 : ∃ fo, PySem.W.findIn K (.type "int") (PySem.dunder op.info.2) = some fo
  i2 : ∃ ro, PySem.W.findIn K (.type "int") (dunderR op.info.2) = some ro
  sub : PySem.W.subIn K (.type "int") (.ref C) = some false
/-- x cmp y, x of the class at C -/
structure CmpF (K : PySem.W.Frag) (C f : Addr) (op : CmpOp) : Prop where
  fn : PySem.W.findIn K (.ref C) (cmpInfo op).2.1 = some (some (.ref f))
  isf : PySem.W.isFn K (.ref f) = true
end HG

namespace HG
open PySem L2
/-! ### n + y, n - y -/
structure ReflF (K : PySem.W.Frag) (C f g : Addr) (op : Operator) : Prop where
  sf : PySem.W.selfFirst K C = true
  fn : PySem.W.findIn K (.ref C) (PySem.dunder op.info.2) = some (some (.ref f))
  rn : PySem.W.findIn K (.ref C) (dunderR op.info.2) = some (some (.ref g))
  isf : PySem.W.isFn K (.ref g) = true
  sub : PySem.W.subIn K (.ref C) (.type "int") = some false
  fo : ∃ fo ro, PySem.W.findIn K (.type "int") (PySem.dunder op.info.2) = some fo ∧ PySem.W.findIn K (.type "int") (dunderR op.info.2) = some ro ∧ ((fo.isSome && !isSeqSlot fo) || (ro.isSome && !isSeqSlot ro)) = true
structure InpF (K : PySem.W.Frag) (C f : Addr) (op : Operator) : Prop where
  sf : PySem.W.selfFirst K C = true
  fn : PySem.W.findIn K (.ref C) (PySem.dunder op.info.2) = some (some (.ref f))
  isf : PySem.W.isFn K (.ref f) = true
  no : ∀ (M : Model) (h : Heap), K.In h → PySem.W.Looks M h (fillsInplaceSlot (.ref C) op.info.2 (op == .Add)) false
/-! ### x != y by the text's == -/
structure NeF (K : PySem.W.Frag) (C f : Addr) : Prop where
  cls : ∃ nm q N bs hdct sn sub ab col dd k0 k1 k2 k3 k5 newId, K.lookup C = some (excClassObj nm q C N bs [.type "object"] hdct sn sub ab col dd k0 k1 k2 k3 k5 newId) ∧ PySem.W.nsOkIn K N = true ∧ PySem.W.nsIn K N "__eq__" = some (some (.ref f)) ∧ PySem.W.nsIn K N "__ne__" = some none
  fn : ∃ of, K.lookup f = some of ∧ of.cls = .type "function"
/-- a def of the text, called one builtin deeper -/
structure Own1 (X : Cx) (k : Nat) (f : Addr) (sp : Sp) : Prop where
  run : ∀ {pins : List (Addr × Obj)} {σ : L2.St} {H : Hp} {s : Shared} {Q : VK} {us : List Value} {vs : List V}, Inv X pins σ H s → Vals vs us → sp vs H Q E0 → wpAny (model X.prog X.w) X.A.in1 (call (.ref f) us) (EP X pins σ Q) X.xe s
end HG

/-! Defs of the text, called where no repr is under way (GA): what the hand layer says of a def (FnOk), with this one premise more. -/
namespace HG
open PySem L2 PyProof.Rows
abbrev GA (A : Around) : Prop := A.guards = some []
structure FnG (P : Program) (w : World) (K : PySem.W.Frag) (mg : Str → Option Value) (base : Heap) (CX : CXT) (k : Nat) (f : Addr) (fd : FuncData) (ps : List Str) (sp : Sp) : Prop where
  len : ∀ vs H Q E, sp vs H Q E → vs.length = ps.length
  run : ∀ (A : Around) (outer : List Env) (s : Shared) (H : Hp) (args : Args) (us : List Value) (vs : List V) (Q : VK) (E : XK), Room k A → GA A → Env0 P w K mg base A outer s H → BindsTo s fd args (ps.zip us) → Vals vs us → sp vs H Q E →
    codeAny (model P w) A (.call (.ref f) args) (CR CX outer P w H s Q E) s
section
variable {P : Program} {w : World} {K : PySem.W.Frag} {mg : Str → Option Value} {base : Heap} {CX : CXT} {j k : Nat} {f : Addr} {fd : FuncData} {ps : List Str} {sp : Sp}
theorem FnG.up (F : FnG P w K mg base CX j f fd ps sp) (h : j ≤ k) : FnG P w K mg base CX k f fd ps sp := ⟨F.len, fun A outer s H args us vs Q E hr => F.run A outer s H args us vs Q E (hr.mono h)⟩
theorem ga_deeper {A : Around} {env : Env} (h : GA A) : GA (A.deeper env) := h
/-- a def by its body -/
theorem fnG_of {name qual : Str} {params : Arguments} {body : List Stmt} {scope : Scope} {dV kV doc pm cdv ct oc : Value} {an od : Option Addr} {osl : Array (Option Value)} {N : List Str}
    (lk : K.lookup f = some ⟨oc, od, .func (PySem.W.fnOf name qual params body scope dV kV doc pm an cdv ct), osl⟩) (hcd : PySem.W.codeIn K cdv qual = true) (S : FnScope N ps scope) (len : ∀ vs H Q E, sp vs H Q E → vs.length = ps.length)
    (hbody : ∀ (A : Around) (outer : List Env) (s : Shared) (H : Hp) (vs : List V) (Q : VK) (E : XK), Room k (A.deeper (envOfC qual scope s.heap.objs.size f cdv)) → GA (A.deeper (envOfC qual scope s.heap.objs.size f cdv)) → sp vs H Q E →
      ∃ t, PSs (cxOf CX P w K mg base N qual scope f cdv A outer s H E) body t ∧ t { nx := fun _ H' => Q .non H', rt := Q } (L2.start N vs) H) :
    FnG P w K mg base CX (k + 1) f (PySem.W.fnOf name qual params body scope dV kV doc pm an cdv ct) ps sp := by
  refine ⟨len, fun A outer s H args us vs Q E hr hG e0 hb r hsp => ?_⟩
  have F : FnOk P w K mg base CX (k + 1) f (PySem.W.fnOf name qual params body scope dV kV doc pm an cdv ct) ps sp → codeAny (model P w) A (.call (.ref f) args) (CR CX outer P w H s Q E) s := fun F => F.run A outer s H args us vs Q E hr e0 hb r hsp
  have KX : K.In s.heap := e0.mod.kin.keeps fun b o e => (e0.bs b o e).1
  have lim : s.heap.NoLimit := e0.mod.nolimit.keeps fun b o e => (e0.bs b o e).1
  refine codeAny_call_function hr.depth (KX _ _ lk) rfl S.co S.gen rfl (PySem.W.codeRec_of KX hcd) (hb _ _ _ _ ?_)
  refine wpAny_newFunctionEnv_cells S.kind (fun y hy => ?_) fun env he s1 x => ?_
  · rcases S.par y.1 (List.of_mem_zip hy).1 with q | q
    · exact .inl q
    · exact .inr ⟨q, PySem.W.cellsFrom_some _ _ _ (.inl q)⟩
  · subst he
    refine ⟨lim.keeps x.toInCall.keep, codeAny_func ?_⟩
    obtain ⟨t, ht, hq⟩ := hbody A outer s H vs Q E (hr.deeper _) (ga_deeper hG) hsp
    have I := inv_start (CX := CX) (E := E) S hr.hd e0 (len _ _ _ _ hsp) r x
    refine wpAny_mono (ht.run [] s1 (L2.start N vs) H _ I hq) (fun fl s' hs => ?_) fun e s' hs => hs
    cases fl with
    | ret u =>
      obtain ⟨v, σ', H', J, rv, q⟩ := hs
      exact ⟨v, H', J.os, J.bare, J.base, J.hok, rv, q⟩
    | next =>
      obtain ⟨σ', H', J, q⟩ := hs
      exact ⟨.non, H', J.os, J.bare, J.base, J.hok, rfl, q⟩
    | brk => exact hs.elim fun _ z => z.elim fun _ z => z.2.elim
    | cont => exact hs.elim fun _ z => z.elim fun _ z => z.2.elim
theorem okG {x qual : Str} {st : Stmt} {N : List Str} (F : Fun K x qual st f fd) (S : FnScope N ps (defScope st)) (len : ∀ vs H Q E, sp vs H Q E → vs.length = ps.length)
    (hbody : ∀ (cdv : Value) (A : Around) (outer : List Env) (s : Shared) (H : Hp) (vs : List V) (Q : VK) (E : XK), Room k (A.deeper (envOfC qual (defScope st) s.heap.objs.size f cdv)) → GA (A.deeper (envOfC qual (defScope st) s.heap.objs.size f cdv)) → sp vs H Q E →
      ∃ t, PSs (cxOf CX P w K mg base N qual (defScope st) f cdv A outer s H E) (defBody st) t ∧ t { nx := fun _ H' => Q .non H', rt := Q } (L2.start N vs) H) : FnG P w K mg base CX (k + 1) f fd ps sp := by
  obtain ⟨oc, od, kV, doc, pm, an, cdv, ct, osl, rfl, lk, hcd⟩ := F.ex
  exact fnG_of lk hcd S len fun A outer s H vs Q E hr hG h => hbody cdv A outer s H vs Q E hr hG h
end
section
variable {X : Cx} {CX : CXT} {k : Nat} {f C : Addr} {fd : FuncData} {ps : List Str} {sp : Sp} {dvs : List V} {ds : List Value} {E : XK} {x m : Str} {p pos apos : Pos} {e o : Expr} {es : List Expr} {ta : TE} {t : TA}
/-- what lies behind the run of a callee -/
theorem behind {pins : List (Addr × Obj)} {σ : L2.St} {H : Hp} {s s' : Shared} {Q : VK} {r : Result} (hx : Passes CX X E) (I : Inv X pins σ H s) (h : CR CX X.stack X.prog X.w H s Q E r s') : wants (EP X pins σ Q) X.xe r s' := by
  cases r with
  | error e => exact hx pins σ H s e s' I h
  | ok fl =>
    cases fl with
    | ret u => exact I.after h
    | next => exact h.elim
    | brk => exact h.elim
    | cont => exact h.elim
theorem runG {pins : List (Addr × Obj)} {σ : L2.St} {H : Hp} {s : Shared} {Q : VK} {us : List Value} {vs : List V} (F : FnG X.prog X.w X.K X.mg X.base CX k f fd ps sp) (hr : Room k X.A) (hG : GA X.A) (hb : Binds X.K fd ps ds) (hd : Vals dvs ds) (hx : Passes CX X E)
    (I : Inv X pins σ H s) (r : Vals vs us) (h : sp (vs ++ dvs) H Q E) : wpAny (model X.prog X.w) X.A (call (.ref f) us) (EP X pins σ Q) X.xe s := by
  have r2 := Vals.append r hd
  have hl : (us ++ ds).length = ps.length := r2.length.symm.trans (F.len _ _ _ _ h)
  exact wpAny_call (codeAny_mono (F.run X.A X.stack s H ⟨us, []⟩ (us ++ ds) (vs ++ dvs) Q E hr hG I.env0 (hb s us I.kIn hl) r2 h) fun r s' hq => behind hx I hq)
theorem pe_callG (F : FnG X.prog X.w X.K X.mg X.base CX k f fd ps sp) (hr : Room k X.A) (hG : GA X.A) (hg : Gl X x) (hm : X.mg x = some (.ref f)) (hk : PySem.W.keepIn X.K (.ref f) = true) (hb : Binds X.K fd ps ds) (hd : Vals dvs ds) (hx : Passes CX X E)
    (ha : PA X (e :: es) t) (hdb : (x == ("__debug__" : Str)) = false := by decide) (he : starEach (e :: es) X.env = (false, eval e X.env) :: starEach es X.env := by rfl) (hpl : (backTo pos (starEach es X.env)).any (·.1) = false := by rfl) :
    PE X (.Call (.Name x p) (e :: es) [] pos) (tCall sp dvs E t) :=
  ⟨fun pins s σ H Q I h => wpAny_Call_Name_kw (ld_glob I hg hm (PySem.W.callWith_K (h₀ := X.base) I.ok.mod.kin hk (thn (ha.run pos pins s σ H _ I h) fun us s1 z => by
    obtain ⟨vs, H1, I1, r, q⟩ := z
    exact ⟨I1.kIn, runG F hr hG hb hd hx I1 r q⟩) he hpl) hdb)⟩
/-- how the values of a call with keywords stand in the parameters' order -/
structure KwB (K : PySem.W.Frag) (fd : FuncData) (ps : List Str) (n : Nat) (ks : List Str) (gV : List V → List V → List V) : Prop where
  to : ∀ (s : Shared) {vs zs : List V} {us ws : List Value}, K.In s.heap → Vals vs us → Vals zs ws → vs.length = n → zs.length = ks.length → ∃ as, BindsTo s fd ⟨us, ks.zip ws⟩ (ps.zip as) ∧ Vals (gV vs zs) as
end
/-! ### the law's end -/
/-- the law's def at an abstract heap in which at most the script is tracked -/
theorem lawAt {P : Program} {w : World} {K : PySem.W.Frag} {mg mb : Str → Option Value} {CX : CXT} {k : Nat} {fa a : Addr} {fd : FuncData} {x : Str} {sp : Sp} {s₁ : Shared} {H : Hp}
    (KX : K.In s₁.heap) (hns : s₁.heap.Ns mainGlobals mg) (hb : s₁.heap.Ns builtinsNs mb) (hbb : ∀ x : Str, x ≠ "__name__" → mb x = bootBuiltins x) (hlim : s₁.heap.NoLimit) (hg : s₁.gens = #[]) (hr : Room k callerA)
    (F : ∀ base : Heap, K.In base → base.Ns mainGlobals mg → FnG P w K mg base CX k fa fd [x] sp) (hbind : ∀ (s : Shared) (u : Value), BindsTo s fd ⟨[u], []⟩ [(x, u)])
    (hsp : sp [.ref a] H (fun v _ => v = .bl true) E0) (hCX : ∀ e s', CX [] H s₁ E0 e s' → False)
    (hok : HOk P w H s₁.heap) (free : ∀ b o, s₁.heap.get? b = some o → (∃ es ep, o.data = .dict es ep) ∨ (K.lookup b).isSome = true → H b = none)
    (frz : ∀ b u, H b = some u → ∃ ob xs, u = .frz ob xs) :
    codeAny (model P w) callerA (.call (.ref fa) ⟨[.ref a], []⟩) (fun r s' => r = .ok (.ret (.bool true)) ∧ OldK s₁.heap s'.heap ∧ s'.os = s₁.os ∧ AllBare s'.gens) s₁ := by
  have ns : ∀ {b : Addr} {m : Str → Option Value}, s₁.heap.Ns b m → (hidT s₁.heap H).Ns b m := fun {b m} z => by
    obtain ⟨o, es, ep, e, d, r⟩ := z
    exact ⟨o, es, ep, hidT_get e (free b o e (.inl ⟨es, ep, d⟩)), d, r⟩
  have kb : K.In (hidT s₁.heap H) := fun b o e => hidT_get (KX b o e) (free b o (KX b o e) (.inr (by rw [e]; rfl)))
  have md : Mod K mg (hidT s₁.heap H) := by
    obtain ⟨mc, h1, h2⟩ := hlim
    exact ⟨kb, ns hns, ⟨mb, ns hb, hbb⟩, mc, ns h1, h2⟩
  have e0 : Env0 P w K mg (hidT s₁.heap H) callerA [] s₁ H :=
    { frames := rfl, mod := md, bs := fun b o e => of_hidT e, bsz := Nat.le_of_eq (hidT_size _ _), funs := trivial, frf := fun b z => (List.not_mem_nil z).elim, hok := hok, bare := .of_eq hg }
  refine codeAny_mono ((F _ kb (ns hns)).run callerA [] s₁ H ⟨[.ref a], []⟩ [.ref a] [.ref a] _ _ hr rfl e0 (hbind s₁ (.ref a)) (.cons rfl .nil) hsp) fun r s' h => ?_
  match r, h with
  | .error e, h => exact (hCX e s' h).elim
  | .ok .next, h => exact h.elim
  | .ok .brk, h => exact h.elim
  | .ok .cont, h => exact h.elim
  | .ok (.ret u), h =>
    obtain ⟨v, H', os, bare, un, hok', rv, q⟩ := h
    have q' : v = .bl true := q
    subst q'
    cases rv
    refine ⟨rfl, OldK.of_keep fun b o e => ?_, os, bare⟩
    cases eb : H b with
    | none => exact un.keep b o e eb (fun z => (List.not_mem_nil z).elim) (fun z => (List.not_mem_nil z).elim)
    | some u =>
      obtain ⟨ob, xs, rfl⟩ := frz b u eb
      have e1 := (hok b _ eb).1
      rw [e] at e1
      cases e1
      exact (hok' b _ (un.frzs b _ xs eb)).1
theorem walkG {l : PySem.W.OpenLaw} {n k : Nat} {q : Program} {loose : List Str} {XP : (Str → Option Value) → Heap → Prop} {YP : World → Heap → Prop} {d : DefRec} {K : Params → PySem.W.Frag} {CX : World → CXT} {sp : World → Sp} {x : Str}
    (hn : l.most = some n) (hn2 : n ≤ sizeLine) (hdf : d.params.defaults = []) (hr : Room k callerA)
    (hY : ∀ (w : World) (h : Heap), YP w h → (K w.params).In h)
    (F : ∀ (w : World) (mg : Str → Option Value) (fa : Addr) (h : Heap), (K w.params).In h → h.Ns mainGlobals mg → mg d.name = some (.ref fa) →
      ∃ fd : FuncData, (∀ (s : Shared) (u : Value), BindsTo s fd ⟨[u], []⟩ [(x, u)]) ∧
        ∀ base : Heap, (K w.params).In base → base.Ns mainGlobals mg → FnG l.prog w (K w.params) mg base (CX w) k fa fd [x] (sp w))
    (hsp : ∀ (w : World) (H : Hp) (a : Addr) (ns : List Int), ns.length ≤ n → SqL (K w.params) H a (ns.map V.int) → (H a = none ∨ (∃ o u, H a = some (.frz o u)) ∨ H a = some (.lst (ns.map V.int))) → sp w [.ref a] H (fun v _ => v = .bl true) E0)
    (hCX : ∀ (w : World) (H : Hp) (s : Shared) (e : Value) (s' : Shared), CX w [] H s E0 e s' → False) :
    PySem.W.WalkO q loose XP YP l.row.toRowW d [] (fun f vs => PySem.call f vs) := by
  refine Att.attach_call hn hdf fun w s₀ s₁ mg mb fa o pm cd doc a vs ns G Y ho hd hcd hmg hobj hints hlen hg => ?_
  have KX := hY w _ Y
  obtain ⟨fd, hb, hF⟩ := F w mg fa _ KX G.T.g hmg
  have rv := vals_ints hints
  have lv := hints.length
  have hl : ns.length ≤ sizeLine := Nat.le_trans hlen hn2
  cases hk : (K w.params).lookup a with
  | some ob =>
    have e := KX a ob hk
    rw [hobj] at e
    cases e
    have sq : SqL (K w.params) (fun _ => none) a (ns.map V.int) := .inr ⟨_, vs.toArray, _, hk, rfl, rfl, rfl, by rw [List.size_toArray, lv]; exact hl, by simpa using rv⟩
    exact lawAt (H := fun _ => none) KX G.T.g G.T.b G.T.builtins G.T.nolimit hg hr hF hb (hsp w _ a ns hlen sq (.inl rfl)) (fun e s' => hCX w _ s₁ e s') (fun b u z => by cases z) (fun _ _ _ _ => rfl) (fun b u z => by cases z)
  | none =>
    let Hs : Hp := fun b => if b = a then some (.frz { cls := .type "list", data := .seq vs.toArray } (.lst (ns.map V.int))) else none
    have ha : Hs a = some (.frz { cls := .type "list", data := .seq vs.toArray } (.lst (ns.map V.int))) := if_pos rfl
    have only : ∀ b u, Hs b = some u → b = a ∧ u = .frz { cls := .type "list", data := .seq vs.toArray } (.lst (ns.map V.int)) := fun b u z => by
      by_cases hb : b = a
      · have z' := (if_pos hb).symm.trans z
        exact ⟨hb, (Option.some.inj z').symm⟩
      · have z' := (if_neg hb).symm.trans z
        cases z'
    have sq : SqL (K w.params) Hs a (ns.map V.int) := .inl (.inr ⟨_, ha⟩)
    refine lawAt (H := Hs) KX G.T.g G.T.b G.T.builtins G.T.nolimit hg hr hF hb (hsp w _ a ns hlen sq (.inr (.inl ⟨_, _, ha⟩))) (fun e s' => hCX w _ s₁ e s') (fun b u z => ?_) (fun b o e z => ?_) (fun b u z => ?_)
    · obtain ⟨rfl, rfl⟩ := only b u z
      exact ⟨hobj, by rw [List.length_map]; exact hl, vs, _, rv, hobj⟩
    · by_cases hb : b = a
      · subst hb
        rcases z with ⟨es, ep, z⟩ | z
        · rw [hobj] at e
          cases e
          cases z
        · rw [hk] at z
          cases z
      · exact if_neg hb
    · obtain ⟨_, rfl⟩ := only b u z
      exact ⟨_, _, rfl⟩
end HG

namespace HG
open PySem L2
theorem never0 {CX : CXT} {P : Program} {w : World} {K : PySem.W.Frag} {mg : Str → Option Value} {base : Heap} {N : List Str} {qual : Str} {scope : Scope} {f : Addr} {cdv : Value} {A : Around} {outer : List Env} {s : Shared} {H : Hp} {E : XK} :
    PassesOwn (model (cxOf CX P w K mg base N qual scope f cdv A outer s H E).prog (cxOf CX P w K mg base N qual scope f cdv A outer s H E).w) (cxOf CX P w K mg base N qual scope f cdv A outer s H E).A (cxOf CX P w K mg base N qual scope f cdv A outer s H E).env (cxOf CX P w K mg base N qual scope f cdv A outer s H E).xe :=
  PassesOwn.leaving
end HG

namespace HG
open PySem L2
end HG

namespace HG
open PySem L2
/-- -x -/
structure NegF (K : PySem.W.Frag) (C f : Addr) : Prop where
  fn : PySem.W.findIn K (.ref C) "__neg__" = some (some (.ref f))
  isf : PySem.W.isFn K (.ref f) = true
/-! C(k = v, ..) -/
section
variable {X : Cx} {CX : CXT} {k : Nat} {f C : Addr} {fd : FuncData} {ps ks : List Str} {sp : Sp} {E : XK} {x : Str} {p pos : Pos} {kws : List Keyword} {tk : TA} {g : List Value → List Value → List Value} {gV : List V → List V → List V}
end
end HG
namespace HG
end HG
namespace HG
open PySem L2
/-! ### attributes -/
end HG

/-! Sizes of numbers; fractions in lowest terms. No program in sight. -/
namespace HG
open PySem L2
def Bn (m : Nat) (x : Int) : Prop := x.natAbs < 2 ^ m
section
variable {m n : Nat} {x y : Int}
theorem Bn.bits (h : Bn m x) : Builtin.Int.intBits x ≤ m := intBits_le_iff.mpr h
theorem Bn.of_bits (h : Builtin.Int.intBits x ≤ m) : Bn m x := intBits_le_iff.mp h
theorem Bn.up (h : Bn m x) (q : m ≤ n) : Bn n x := Nat.lt_of_lt_of_le h (Nat.pow_le_pow_right (by decide) q)
theorem Bn.sub (h : Bn m x) (q : Bn m y) : Bn (m + 1) (x - y) := by have z := intBits_sub_le h.bits q.bits; rw [Nat.max_self] at z; exact .of_bits z
theorem Bn.le (h : Bn m x) (q : y.natAbs ≤ x.natAbs) : Bn m y := Nat.lt_of_le_of_lt q h
end
/-- lowest terms -/
def ru (p q : Int) : Int := p / (Int.gcd p q : Int)
def rl (p q : Int) : Int := q / (Int.gcd p q : Int)
section
variable {p q k r s : Int}
end
end HG

/-! The pen of the laws' scripts: what the laws' drawing defs are asked. -/
namespace HG
open PySem L2
/-- the pen at p, at most n cells used -/
def Pen (H : Hp) (p : Addr) (n : Nat) : Prop := ∃ (l : Addr) (cells : List Int) (turn rest : Int), H p = some (.lst [.ref l, .int turn, .int rest]) ∧ H l = some (.lst (cells.map V.int)) ∧ cells.length ≤ 63 ∧ 0 ≤ turn ∧ turn ≤ n ∧ 0 ≤ rest
def Grow (H H' : Hp) : Prop := ∀ b o, H b = some o → H' b = some o
theorem Grow.refl {H : Hp} : Grow H H := fun _ _ h => h
theorem Grow.trans {H H1 H2 : Hp} (h : Grow H H1) (q : Grow H1 H2) : Grow H H2 := fun b o e => q b o (h b o e)
theorem Grow.new {H : Hp} {p : Addr} {o : HO} (h : H p = none) : Grow H (upd H p o) := fun b u e => by
  rw [upd_ne (fun z => by rw [z, h] at e; cases e)]; exact e
theorem Grow.keep {p : Addr} {H H' : Hp} (h : Grow H H') : Keep p H H' := fun b o _ e => h b o e
theorem Keep.refl {p : Addr} {H : Hp} : Keep p H H := fun _ _ _ e => e
theorem Keep.trans {p : Addr} {H H1 H2 : Hp} (h : Keep p H H1) (q : Keep p H1 H2) : Keep p H H2 := fun b o n e => q b o n (h b o n e)
theorem Pen.grow {H H' : Hp} {p : Addr} {n : Nat} (h : Pen H p n) (g : Grow H H') : Pen H' p n := by
  obtain ⟨l, c, t, r, h1, h2, h3⟩ := h
  exact ⟨l, c, t, r, g _ _ h1, g _ _ h2, h3⟩
theorem Pen.up {H : Hp} {p : Addr} {m n : Nat} (h : Pen H p m) (g : m ≤ n) : Pen H p n := by
  obtain ⟨l, c, t, r, h1, h2, h3, h4, h5, h6⟩ := h
  exact ⟨l, c, t, r, h1, h2, h3, h4, by omega, h6⟩
theorem Pen.lst {H : Hp} {p : Addr} {n : Nat} (h : Pen H p n) : ∃ xs, H p = some (.lst xs) := by
  obtain ⟨l, c, t, r, h1, h2, h3⟩ := h
  exact ⟨_, h1⟩
/-- what is no list is not the pen -/
theorem Pen.other {H : Hp} {p b : Addr} {n : Nat} {C dx : Addr} {fs : List (Str × V)} (h : Pen H p n) (q : H b = some (.ins C dx fs)) : b ≠ p := by
  obtain ⟨xs, e⟩ := h.lst
  rintro rfl
  rw [e] at q
  cases q
theorem Pen.fresh {H : Hp} {p b : Addr} {n : Nat} (h : Pen H p n) (q : H b = none) : b ≠ p := by
  obtain ⟨xs, e⟩ := h.lst
  rintro rfl
  rw [e] at q
  cases q
theorem log_small {m : Int} (h0 : 0 < m) (h : m ≤ 1000000) : m.natAbs.log2 < 9000 := by
  have h1 : m.natAbs < 2 ^ 20 := by omega
  have h2 : m.natAbs.log2 < 20 := (Nat.log2_lt (by omega)).mpr h1
  omega
end HG
namespace HG
open PySem L2
/-- the law's def -/
def spLaw (K : PySem.W.Frag) : Sp := fun vs H Q _ => match vs with
  | [.ref a] => (∃ ns : List Int, SqL K H a (ns.map V.int)) ∧ ∀ H', Q (.bl true) H'
  | _ => False
end HG

namespace HG
open PySem L2
end HG

namespace HG
open PySem L2
/-! ### new instances, properties: folded readings -/
/-! ### a comprehension over a list -/
end HG

/-! What the top has written, in the forms that the rules want. -/
namespace HG
open PySem L2 PyProof.Rows
section
variable {K : PySem.W.Frag} {C f g : Addr} {op : Operator} {nm : Str}
end
end HG
namespace HG
open PySem L2
end HG
namespace HG
open PySem L2
theorem kit_rt {K : PySem.W.Frag} {C : Addr} {T : String} {b : Bool} (hm : PySem.W.kitMeta T = true) (hs : PySem.W.subIn K (.ref C) (.type T) = some b) : PySem.W.kitOne K (.ref C) (.type T) = some b := by
  have hne : (Value.ref C == Value.type T) = false := Bool.eq_false_iff.mpr fun q => by cases beq_iff_eq.mp q
  unfold PySem.W.kitOne PySem.W.kitCls
  simp only [hne, hm, hs, Bool.false_eq_true, if_false, if_true]
theorem kit_rr {K : PySem.W.Frag} {C : Addr} : PySem.W.kitOne K (.ref C) (.ref C) = some true := by
  unfold PySem.W.kitOne
  simp only [beq_self_eq_true, if_true]
end HG

namespace HG
open PySem L2 PyProof.Rows
section
variable {X : Cx}
/-! ### in, by data -/
/-! ### is None -/
/-! ### built-ins over sequences -/
/-! ### isinstance by a tuple of types -/
theorem kitLT_l {K : PySem.W.Frag} : PySem.W.kitAny K (.type "list") [.type "list", .type "tuple"] = some true := kitAny_cons (b := true) (kit_ty (by decide +kernel)) (fun z => by cases z) (fun _ => rfl)
theorem kitLT_t {K : PySem.W.Frag} : PySem.W.kitAny K (.type "tuple") [.type "list", .type "tuple"] = some true := kitAny_cons (b := false) (kit_ty (by decide +kernel)) (fun _ => kitAny_cons (b := true) (kit_ty (by decide +kernel)) (fun z => by cases z) (fun _ => rfl)) (fun z => by cases z)
/-! ### an attribute as a target -/
/-! ### for x in a list or a tuple -/
def iSeq (K : PySem.W.Frag) (tl : TE) : TI := fun σ H R => tl σ H fun x H1 => ∃ a, x = .ref a ∧ (((∃ xs, SqL K H1 a xs) ∧ R (Itl K a) H1) ∨ ((∃ xs, SqT K H1 a xs) ∧ R (Itt K a) H1))
theorem pi_seq {tg l : Expr} {tl : TE} (hl : PE X l tl) : PI X tg l (iSeq X.K tl) := by
  refine ⟨fun pins s σ H R I h => ?_⟩
  refine thn (hl.run pins s σ H _ I h) fun v s1 ⟨x, H1, I1, r1, q1⟩ => ?_
  obtain ⟨a, e, q1⟩ := q1
  subst e
  cases r1
  rcases q1 with ⟨⟨xs, hq⟩, q⟩ | ⟨⟨xs, hq⟩, q⟩
  · obtain ⟨its, rv, p, hz⟩ := I1.list hq
    refine wpAny_pyIter_list p.isList ?_
    refine ⟨s1.heap.objs.size, [s1.heap.objs.size], _, _, H1, rfl, I1.kept (t' := s1.toks) fun b o e => Heap.get?_push_of_some _ e, turn_list a _, ⟨_, Heap.get?_push_size _ rfl, rfl, rfl⟩, fun b hb => ?_, q⟩
    have e : b = s1.heap.objs.size := by simpa using hb
    subst e
    exact I1.fpOk (Nat.le_refl _) (I1.hok.fresh (Nat.le_refl _))
  · obtain ⟨its, rv, p, hz⟩ := I1.tuple hq
    refine wpAny_pyIter_tuple (show s1.heap.IsTuple a its.toArray from p) ?_
    refine ⟨s1.heap.objs.size, [s1.heap.objs.size], _, _, H1, rfl, I1.kept (t' := s1.toks) fun b o e => Heap.get?_push_of_some _ e, turn_tuple a _, ⟨_, Heap.get?_push_size _ rfl, rfl, rfl⟩, fun b hb => ?_, q⟩
    have e : b = s1.heap.objs.size := by simpa using hb
    subst e
    exact I1.fpOk (Nat.le_refl _) (I1.hok.fresh (Nat.le_refl _))
end
end HG

/-! Comprehensions over numbers and over sequences: what they make. -/
namespace HG
open PySem L2
/-- the iterator hands out xs 0 .. xs (n - 1), as long as what stood stands -/
structure JOk (J : It) (H1 : Hp) (n : Nat) (xs : Nat → V) : Prop where
  go : ∀ H, Grow H1 H → ∀ j, j < n → J.go j H
  yld : ∀ H, Grow H1 H → ∀ j, j < n → ∀ x H', J.yld j H x H' → H' = H ∧ x = xs j
  stop : ∀ H, Grow H1 H → J.stop n H
theorem jok_lst {K : PySem.W.Frag} {a : Addr} {H1 : Hp} {xs : List V} (h : H1 a = some (.lst xs)) : JOk (Itl K a) H1 xs.length (fun j => xs.getD j .non) := by
  refine ⟨fun H g j hj => ⟨xs, _, SqL.of (g _ _ h), List.getElem?_eq_getElem hj⟩, fun H g j hj x H' y => ⟨y.1, ?_⟩, fun H g => ⟨xs, SqL.of (g _ _ h), Nat.le_refl _⟩⟩
  have e := y.2 xs (SqL.of (g _ _ h))
  rw [List.getD_eq_getElem?_getD, e]
  rfl
theorem jok_tup {K : PySem.W.Frag} {a : Addr} {H1 : Hp} {xs : List V} (h : H1 a = some (.tup xs)) : JOk (Itt K a) H1 xs.length (fun j => xs.getD j .non) := by
  refine ⟨fun H g j hj => ⟨xs, _, SqT.of (g _ _ h), List.getElem?_eq_getElem hj⟩, fun H g j hj x H' y => ⟨y.1, ?_⟩, fun H g => ⟨xs, SqT.of (g _ _ h), Nat.le_refl _⟩⟩
  have e := y.2 xs (SqT.of (g _ _ h))
  rw [List.getD_eq_getElem?_getD, e]
  rfl
end HG

/-! The pen, its list of cells named. -/
namespace HG
open PySem L2
/-- the pen at p with its cells at l, at most n cells used -/
def PenL (H : Hp) (p l : Addr) (n : Nat) : Prop := ∃ (cells : List Int) (turn rest : Int), H p = some (.lst [.ref l, .int turn, .int rest]) ∧ H l = some (.lst (cells.map V.int)) ∧ cells.length ≤ 63 ∧ 0 ≤ turn ∧ turn ≤ n ∧ 0 ≤ rest
section
variable {H H' : Hp} {p l b : Addr} {m n : Nat}
theorem PenL.grow (h : PenL H p l n) (g : Grow H H') : PenL H' p l n := by
  obtain ⟨c, t, r, h1, h2, h3⟩ := h
  exact ⟨c, t, r, g _ _ h1, g _ _ h2, h3⟩
theorem PenL.up (h : PenL H p l m) (g : m ≤ n) : PenL H p l n := by
  obtain ⟨c, t, r, h1, h2, h3, h4, h5, h6⟩ := h
  exact ⟨c, t, r, h1, h2, h3, h4, by omega, h6⟩
theorem PenL.lst (h : PenL H p l n) : ∃ xs, H p = some (.lst xs) := by
  obtain ⟨c, t, r, h1, h2, h3⟩ := h
  exact ⟨_, h1⟩
theorem PenL.fresh (h : PenL H p l n) (q : H b = none) : b ≠ p := by
  obtain ⟨xs, e⟩ := h.lst
  rintro rfl
  rw [e] at q
  cases q
theorem PenL.upd {o : HO} (h : PenL H p l n) (h1 : b ≠ p) (h2 : b ≠ l) : PenL (L2.upd H b o) p l n := by
  obtain ⟨c, t, r, e1, e2, e3⟩ := h
  exact ⟨c, t, r, by rw [upd_ne h1.symm]; exact e1, by rw [upd_ne h2.symm]; exact e2, e3⟩
end
def spPenL (K : PySem.W.Frag) : Sp := fun vs H Q _ => match vs with
  | [.ref a] => ∃ ns : List Int, SqL K H a (ns.map V.int) ∧ ∀ p l H', PenL H' p l 0 → Grow H H' → H p = none → Q (.ref p) H'
  | _ => False
def spDrawL : Sp := fun vs H Q _ => match vs with
  | [.ref p, .int many] => ∃ (l : Addr) (n : Nat), PenL H p l n ∧ n ≤ 999999 ∧ 0 < many ∧ many.natAbs.log2 < 9000 ∧ ∀ (d : Int) (H' : Hp), 0 ≤ d → d < many → PenL H' p l (n + 1) → Keep p H H' → Q (.int d) H'
  | _ => False
def spPickL : Sp := fun vs H Q _ => match vs with
  | [.ref p, .ref s] => ∃ (l : Addr) (n : Nat) (xs : List V), PenL H p l n ∧ n ≤ 999999 ∧ H s = some (.lst xs) ∧ s ≠ p ∧ xs ≠ [] ∧ xs.length ≤ 100000 ∧ ∀ (x : V) (H' : Hp), x ∈ xs → PenL H' p l (n + 1) → Keep p H H' → Q x H'
  | _ => False
end HG

/-! Static methods, called off the class. -/
namespace HG
open PySem L2 PyProof.Rows
structure SMet (K : PySem.W.Frag) (C : Addr) (m : Str) (p g : Addr) : Prop where
  rd : ∃ mc, PySem.W.readsIn K C mc = true ∧ PySem.W.findCls K (.ref C) mc m = some (.get (.builtin "staticmethod.__get__") (.ref p) .none (.ref C))
  ga : PySem.W.specialIn K (.ref C) "__getattribute__" = some (some (.builtin "type.__getattribute__"))
  rc : ∃ rest, PySem.W.recIn K p "staticmethod" = some (.ref g :: rest)
  kp : PySem.W.keepIn K (.ref g) = true
section
variable {X : Cx} {CX : CXT} {k : Nat} {f C p' : Addr} {fd : FuncData} {ps : List Str} {sp : Sp} {dvs : List V} {ds : List Value} {E : XK} {m : Str} {pos apos : Pos} {e o : Expr} {es : List Expr} {ta : TE} {t : TA} {pl : Sem Bool}
end
end HG

/-! Sequences by evidence: tracked lists and tuples, tuples of the written part. -/
namespace HG
open PySem L2
inductive Sq (K : PySem.W.Frag) (H : Hp) (p : Addr) (xs : List V) : Prop where
  | l (h : H p = some (.lst xs)) : Sq K H p xs
  | t (h : H p = some (.tup xs)) : Sq K H p xs
  | k (o : Obj) (its : Array Value) (n : Nat) (h : K.lookup p = some o) (c : o.cls = .type "tuple") (d : o.data = .seq its n) (z : its.size ≤ sizeLine) (r : Vals xs its.toList) : Sq K H p xs
inductive St (K : PySem.W.Frag) (H : Hp) (p : Addr) (xs : List V) : Prop where
  | t (h : H p = some (.tup xs)) : St K H p xs
  | k (o : Obj) (its : Array Value) (n : Nat) (h : K.lookup p = some o) (c : o.cls = .type "tuple") (d : o.data = .seq its n) (z : its.size ≤ sizeLine) (r : Vals xs its.toList) : St K H p xs
section
variable {K : PySem.W.Frag} {H H' : Hp} {p : Addr} {xs : List V} {Q : VK}
theorem St.sq (h : St K H p xs) : Sq K H p xs := by
  cases h with
  | t h => exact .t h
  | k o its n h c d z r => exact .k o its n h c d z r
theorem Sq.grow (h : Sq K H p xs) (g : Grow H H') : Sq K H' p xs := by
  cases h with
  | l h => exact .l (g _ _ h)
  | t h => exact .t (g _ _ h)
  | k o its n h c d z r => exact .k o its n h c d z r
theorem St.grow (h : St K H p xs) (g : Grow H H') : St K H' p xs := by
  cases h with
  | t h => exact .t (g _ _ h)
  | k o its n h c d z r => exact .k o its n h c d z r
theorem Sq.or (h : Sq K H p xs) : SqL K H p xs ∨ SqT K H p xs := by
  cases h with
  | l h => exact .inl (SqL.of h)
  | t h => exact .inr (SqT.of h)
  | k o its n h c d z r => exact .inr (.inr ⟨o, its, n, h, c, d, z, r⟩)
theorem Sq.ty (h : Sq K H p xs) : ∃ t, TyX K H (.ref p) t ∧ PySem.W.kitAny K t [.type "list", .type "tuple"] = some true := by
  cases h with
  | l h => exact ⟨_, .base (.lst h), kitLT_l⟩
  | t h => exact ⟨_, .base (.tup h), kitLT_t⟩
  | k o its n h c d z r => exact ⟨_, .kTuple h c, kitLT_t⟩
/-! readings by evidence -/
def cLenE (K : PySem.W.Frag) : List V → Hp → VK → Prop := fun xs H Q => ∃ p ys, xs = [.ref p] ∧ (SqL K H p ys ∨ SqT K H p ys) ∧ Q (.int ys.length) H
theorem call_lenE {X : Cx} : CallR X (.builtin "len") (cLenE X.K) := call_len_seq
theorem lenE (h : Sq K H p xs) (k : Q (.int xs.length) H) : cLenE K [.ref p] H Q := ⟨p, xs, rfl, h.or, k⟩
theorem ixE {i : Int} {v : V} (h : Sq K H p xs) (e : atI xs i = some v) (k : Q v H) : rIx K (.ref p) (.int i) H Q := by
  rcases h.or with h | h
  · exact .inl ⟨p, xs, i, v, rfl, rfl, h, e, k⟩
  · exact .inr (.inl ⟨p, xs, i, v, rfl, rfl, h, e, k⟩)
theorem jok_sq {a : Addr} {H1 : Hp} {R : It → Hp → Prop} (h : Sq K H1 a xs) (k : ∀ J, JOk J H1 xs.length (fun j => xs.getD j .non) → R J H1) : ∃ a', V.ref a = .ref a' ∧ (((∃ xs, SqL K H1 a' xs) ∧ R (Itl K a') H1) ∨ ((∃ xs, SqT K H1 a' xs) ∧ R (Itt K a') H1)) := by
  refine ⟨a, rfl, ?_⟩
  cases h with
  | l h => exact .inl ⟨⟨_, SqL.of h⟩, k _ (jok_lst h)⟩
  | t h => exact .inr ⟨⟨_, SqT.of h⟩, k _ (jok_tup h)⟩
  | k o its n h c d z r =>
    have sq : ∀ H, SqT K H a xs := fun H => .inr ⟨o, its, n, h, c, d, z, r⟩
    refine .inr ⟨⟨_, sq _⟩, k _ ⟨fun H g j hj => ⟨xs, _, sq H, List.getElem?_eq_getElem hj⟩, fun H g j hj x H' y => ⟨y.1, ?_⟩, fun H g => ⟨xs, sq H, Nat.le_refl _⟩⟩⟩
    have e := y.2 xs (sq H)
    rw [List.getD_eq_getElem?_getD, e]
    rfl
end
/-! ### numbers or None -/
section
variable {K : PySem.W.Frag} {H : Hp} {Q : VK}
end
end HG
namespace HG
open PySem L2
section
variable {K : PySem.W.Frag} {H : Hp} {Q : VK} {p : Addr} {xs : List V}
def oD : Option Int → PyData
  | none => .none
  | some i => .int i
end
end HG

/-! x[i], v in x, str(x) by a class's own methods. -/
namespace HG
open PySem L2 PyProof.Rows
structure Own2 (X : Cx) (k : Nat) (f : Addr) (sp : Sp) : Prop where
  run : ∀ {pins : List (Addr × Obj)} {σ : L2.St} {H : Hp} {s : Shared} {Q : VK} {us : List Value} {vs : List V}, Inv X pins σ H s → Vals vs us → sp vs H Q E0 → wpAny (model X.prog X.w) X.A.in1.in1 (call (.ref f) us) (EP X pins σ Q) X.xe s
section
variable {X : Cx} {CX : CXT} {k : Nat} {f C : Addr} {fd : FuncData} {ps : List Str} {sp : Sp} {ta tb : TE} {a b : Expr} {pos : Pos}
/-- x[i] -/
structure IxF (K : PySem.W.Frag) (C f : Addr) : Prop where
  fn : PySem.W.findIn K (.ref C) "__getitem__" = some (some (.ref f))
  fi : PySem.W.fnIn K f = true
  isf : PySem.W.isFn K (.ref f) = true
/-- v in x -/
structure InF (K : PySem.W.Frag) (C f : Addr) : Prop where
  fn : PySem.W.findIn K (.ref C) "__contains__" = some (some (.ref f))
  isf : PySem.W.isFn K (.ref f) = true
/-- str(x) -/
structure StrF (K : PySem.W.Frag) (C f : Addr) : Prop where
  fn : PySem.W.findIn K (.ref C) "__str__" = some (some (.ref f))
  isf : PySem.W.isFn K (.ref f) = true
end
end HG
namespace HG
open PySem L2
/-- a tracked list or tuple -/
inductive Sr (H : Hp) (p : Addr) (xs : List V) : Prop where
  | l (h : H p = some (.lst xs)) : Sr H p xs
  | t (h : H p = some (.tup xs)) : Sr H p xs
section
variable {K : PySem.W.Frag} {H H' : Hp} {p : Addr} {xs : List V} {Q : VK}
theorem Sr.sq (h : Sr H p xs) : Sq K H p xs := by
  cases h with
  | l h => exact .l h
  | t h => exact .t h
theorem Sr.grow (h : Sr H p xs) (g : Grow H H') : Sr H' p xs := by
  cases h with
  | l h => exact .l (g _ _ h)
  | t h => exact .t (g _ _ h)
end
end HG
namespace HG
open PySem L2
/-! folded readings: str of a number or a text, join, append, list -/
section
variable {X : Cx}
end
section
variable {K : PySem.W.Frag} {H : Hp} {p : Addr} {xs : List V} {Q : VK}
end
end HG

/-! Growths, plainly: values, normal forms. No program in sight. -/
namespace HG
section
variable {told : List (Option Int)} {gains : List Int} {n : Nat}
/-- f is the growth of told and gains -/
structure Gr (told : List (Option Int)) (gains : List Int) (f : Nat → Option Int) : Prop where
  pos : 0 < gains.length
  le : gains.length ≤ told.length
  lo : ∀ n, n < told.length → f n = told.getD n none
  hi : ∀ n, told.length ≤ n → f n = (f (n - gains.length)).map (· + gains.getD (n % gains.length) 0)
/-- from the last period of the told values on: a step of one period -/
theorem Gr.step {f : Nat → Option Int} (h : Gr told gains f) (hn : told.length - gains.length ≤ n) : f (n + gains.length) = (f n).map (· + gains.getD (n % gains.length) 0) := by
  have := h.hi (n + gains.length) (by have := h.le; omega)
  rw [Nat.add_sub_cancel, Nat.add_mod_right] at this
  exact this
theorem Gr.none {f : Nat → Option Int} (h : Gr told gains f) (hn : told.length - gains.length ≤ n) : f (n + gains.length) = none ↔ f n = none := by
  rw [h.step hn, Option.map_eq_none_iff]
end
/-! ### steps, gains -/
section
variable {told : List (Option Int)} {gains : List Int} {f : Nat → Option Int}
/-! ### trimming keeps the values -/
/-! ### the gains of a shorter period -/
end
end HG

/-! The normal form is the least one, and there is one alone. -/
namespace HG
/-- from N on, f goes on by l with the gains c, which repeat -/
structure Per (f : Nat → Option Int) (l N : Nat) (c : Nat → Int) : Prop where
  pos : 0 < l
  st : ∀ n, N ≤ n → f (n + l) = (f n).map (· + c n)
  cp : ∀ n, N ≤ n → c (n + l) = c n
  z : ∀ n, N ≤ n → f n = none → c n = 0
section
variable {f : Nat → Option Int} {l l1 l2 N M : Nat} {c c1 c2 : Nat → Int}
theorem Per.up (h : Per f l N c) (g : N ≤ M) : Per f l M c := ⟨h.pos, fun n hn => h.st n (by omega), fun n hn => h.cp n (by omega), fun n hn => h.z n (by omega)⟩
theorem Per.cps (h : Per f l N c) {n : Nat} (hn : N ≤ n) : ∀ k, c (n + k * l) = c n
  | 0 => by rw [Nat.zero_mul, Nat.add_zero]
  | k + 1 => by
    rw [Nat.add_mul, Nat.one_mul, ← Nat.add_assoc, h.cp _ (by omega), h.cps hn k]
theorem Per.sts (h : Per f l N c) {n : Nat} (hn : N ≤ n) : ∀ k : Nat, f (n + k * l) = (f n).map (· + (k : Int) * c n)
  | 0 => by
    rw [Nat.zero_mul, Nat.add_zero]
    cases f n with
    | none => rfl
    | some v => simp
  | k + 1 => by
    rw [Nat.add_mul, Nat.one_mul, ← Nat.add_assoc, h.st _ (by omega), h.cps hn k, h.sts hn k]
    cases f n with
    | none => rfl
    | some v =>
      simp only [Option.map_some, Option.some.injEq]
      rw [Int.natCast_add, Int.add_mul]
      omega
theorem Per.no (h : Per f l N c) {n : Nat} (hn : N ≤ n) : f (n + l) = none ↔ f n = none := by rw [h.st n hn, Option.map_eq_none_iff]
theorem Per.both (h1 : Per f l1 N c1) (h2 : Per f l2 N c2) {n : Nat} (hn : N ≤ n) : (l2 : Int) * c1 n = (l1 : Int) * c2 n := by
  have e1 := h1.sts hn l2
  have e2 := h2.sts hn l1
  rw [Nat.mul_comm l1 l2] at e2
  rw [e1] at e2
  cases ef : f n with
  | none => rw [h1.z n hn ef, h2.z n hn ef, Int.mul_zero, Int.mul_zero]
  | some v =>
    rw [ef] at e2
    simp only [Option.map_some, Option.some.injEq] at e2
    omega
theorem mul_inj {a : Nat} {x y : Int} (ha : 0 < a) (h : (a : Int) * x = (a : Int) * y) : x = y := Int.eq_of_mul_eq_mul_left (by omega) h
theorem Per.sub (h1 : Per f l1 N c1) (h2 : Per f l2 N c2) (hl : l2 < l1) : ∃ c, Per f (l1 - l2) N c := by
  have e1 : ∀ n, N ≤ n → c1 (n + (l1 - l2)) = c1 n := fun n hn => by
    refine mul_inj h2.pos ?_
    rw [h1.both h2 (n := n + (l1 - l2)) (by omega), ← h2.cp (n + (l1 - l2)) (by omega), show n + (l1 - l2) + l2 = n + l1 from by omega, ← h1.both h2 (n := n + l1) (by omega), h1.cp n hn]
  have e2 : ∀ n, N ≤ n → c2 (n + (l1 - l2)) = c2 n := fun n hn => by
    refine mul_inj h1.pos ?_
    rw [← h2.cp (n + (l1 - l2)) (by omega), show n + (l1 - l2) + l2 = n + l1 from by omega, ← h1.both h2 (n := n + l1) (by omega), h1.cp n hn, h1.both h2 hn]
  have nn : ∀ n, N ≤ n → (f (n + (l1 - l2)) = none ↔ f n = none) := fun n hn => by
    rw [← h2.no (n := n + (l1 - l2)) (by omega), show n + (l1 - l2) + l2 = n + l1 from by omega, h1.no hn]
  refine ⟨fun n => if f n = none then 0 else c1 n - c2 n, by omega, fun n hn => ?_, fun n hn => ?_, fun n hn ef => by rw [if_pos ef]⟩
  · cases ef : f n with
    | none => exact (nn n hn).mpr ef
    | some v =>
      rw [if_neg (by simp)]
      have a1 := h1.st n hn
      rw [ef] at a1
      have a2 := h2.st (n + (l1 - l2)) (by omega)
      rw [show n + (l1 - l2) + l2 = n + l1 from by omega, a1, e2 n hn] at a2
      cases eg : f (n + (l1 - l2)) with
      | none => rw [(nn n hn).mp eg] at ef; cases ef
      | some w =>
        rw [eg] at a2
        simp only [Option.map_some, Option.some.injEq] at a2 ⊢
        omega
  · show (if f (n + (l1 - l2)) = none then 0 else c1 (n + (l1 - l2)) - c2 (n + (l1 - l2))) = if f n = none then 0 else c1 n - c2 n
    rw [e1 n hn, e2 n hn]
    by_cases ef : f n = none
    · rw [if_pos ef, if_pos ((nn n hn).mpr ef)]
    · rw [if_neg ef, if_neg (fun z => ef ((nn n hn).mp z))]
/-- the least period -/
def Lst (f : Nat → Option Int) (p : Nat) : Prop := ∀ l N c, Per f l N c → p ≤ l
end
section
variable {told : List (Option Int)} {gains : List Int} {f : Nat → Option Int}
/-- told and gains are the normal form of f -/
structure Nf (told : List (Option Int)) (gains : List Int) (f : Nat → Option Int) : Prop where
  gr : Gr told gains f
  lst : Lst f gains.length
  z : ∀ n, told.length - gains.length ≤ n → f n = none → gains.getD (n % gains.length) 0 = 0
  cut : gains.length < told.length → told.getD (told.length - 1) none ≠ (told.getD (told.length - 1 - gains.length) none).map (· + gains.getD ((told.length - 1) % gains.length) 0)
/-! ### what is found is the normal form -/
end
end HG

/-! Growths as functions: periods, bounds, sums and multiples. -/
namespace HG
section
variable {f g : Nat → Option Int} {l N M : Nat} {c : Nat → Int}
/-! ### a function with a period is told by its first values -/
/-! ### bounds of values -/
def FB (M : Nat) (f : Nat → Option Int) : Prop := ∀ n v, f n = some v → v.natAbs ≤ M * (n + 1)
theorem FB.up {M M' : Nat} (h : FB M f) (g : M ≤ M') : FB M' f := fun n v e => Nat.le_trans (h n v e) (Nat.mul_le_mul_right _ g)
/-! ### sums -/
end
end HG
namespace HG
section
variable {f g : Nat → Option Int} {l N M : Nat} {c : Nat → Int}
end
end HG

/-! Texts of growths, equality of rows. -/
namespace HG
open PySem L2
/-! ### rows of numbers and Nones compared -/
section
variable {K : PySem.W.Frag} {H : Hp} {p q : Addr} {Q : VK}
end
/-! ### texts -/
end HG

/-! Wide periods; pairs and triples compared. -/
namespace HG
open PySem L2
section
variable {f F : Nat → Option Int} {P N : Nat} {C : Nat → Int} {x : Int} {told : List (Option Int)} {gains g0 : List Int}
end
/-! ### pairs and triples of rows -/
section
variable {K : PySem.W.Frag} {H : Hp} {p q x y x' y' : Addr} {Q : VK} {os ps : List (Option Int)} {gs hs : List Int} {u v : Str}
end
end HG

/-! Lambdas handed to a def: the callee runs over a greater base, the whole heap at the call that nobody tracks. -/
namespace HG
open PySem L2 PyProof.Rows LamX
/-! ### the base at a moment -/
section
variable {X : Cx} {pins : List (Addr × Obj)} {σ : L2.St} {H : Hp} {s : Shared}
end
/-! ### function objects of a base -/
/-- the object at f in the base is a function that does as sp says -/
structure FnB (P : Program) (w : World) (K : PySem.W.Frag) (mg : Str → Option Value) (base : Heap) (CX : CXT) (k : Nat) (f : Addr) (sp : Sp) : Prop where
  at_ : ∀ h : Heap, (∀ b o, base.get? b = some o → h.get? b = some o) → PySem.W.FnAt f h
  run : ∀ (A : Around) (outer : List Env) (s : Shared) (H : Hp) (us : List Value) (vs : List V) (Q : VK) (E : XK), Room k A → GA A → Env0 P w K mg base A outer s H → Vals vs us → sp vs H Q E →
    codeAny (model P w) A (.call (.ref f) ⟨us, []⟩) (CR CX outer P w H s Q E) s
abbrev Lams := Addr → Option Sp
section
variable {X : Cx} {CX : CXT} {k i : Nat} {E : XK} {a : Str} {p1 p2 : Pos} {e : Expr} {es : List Expr} {t : TA} {L : Lams}
end
/-! ### the lambda's own run -/
/-- the parameters are its only own names -/
structure LamP (sc scope : Scope) (ps : List Str) : Prop where
  kind : scope.kind = .function
  co : scope.isCoroutine = false
  gen : scope.isGenerator = false
  nocell : ∀ y ∈ scope.names, y.2 ≠ .cell
  loc : ∀ y ∈ scope.names, y.2 = .local → y.1 ∈ ps
  par : ∀ p ∈ ps, scope.names.lookup p = some .local
  free : ∀ y ∈ scope.names, y.2 = .free → sc.names.lookup y.1 = some .cell ∨ sc.names.lookup y.1 = some .free
section
variable {X : Cx} {pins : List (Addr × Obj)} {σ : L2.St} {H : Hp} {s : Shared} {CX : CXT}
section
variable {k : Nat} {f c' : Addr} {pm ctv : Value} {params : Arguments} {body : Expr} {scope : Scope} {tb : XK → TE}
end
end
end HG

/-! Calls of a def with a lambda among the values. -/
namespace HG
open PySem L2 PyProof.Rows LamX
def one (f : Addr) (sp : Sp) : Lams := fun a => if a = f then some sp else none
section
variable {X : Cx} {CX CXl : CXT} {k kg i : Nat} {g c P : Addr} {gd : FuncData} {ps : List Str} {spg : Lams → Sp} {E : XK} {x y q : Str} {T : List (Addr × Str)} {params : Arguments} {body e1 e3 : Expr} {scope : Scope} {tb : XK → TE} {t1 t3 : TE} {p lpos pos : Pos}
theorem Inv.pinOne {pins : List (Addr × Obj)} {σ : L2.St} {H : Hp} {s : Shared} {f : Addr} {o : Obj} (I : Inv X pins σ H s) (h1 : s.heap.get? f = some o) (h2 : H f = none) (h3 : f ≠ X.env.locals) (h4 : f ∉ X.fs) (h5 : ∀ v, o.data ≠ .cell v) : Inv X ((f, o) :: pins) σ H s := by
  refine ⟨I.ok, I.os, I.bare, I.base, I.loc, I.cell, I.free, I.freeC, fun p hp => ?_, I.hok, I.len⟩
  rcases List.mem_append.mp hp with hp | hp
  · exact I.pin p (List.mem_append_left _ hp)
  · rcases List.mem_cons.mp hp with hp | hp
    · rw [hp]; exact ⟨h1, h2, h3, h4, h5⟩
    · exact I.pin p (List.mem_append_right _ hp)
theorem Inv.unpin {pins : List (Addr × Obj)} {σ : L2.St} {H : Hp} {s : Shared} {p : Addr × Obj} (I : Inv X (p :: pins) σ H s) : Inv X pins σ H s := by
  refine ⟨I.ok, I.os, I.bare, I.base, I.loc, I.cell, I.free, I.freeC, fun r hr => I.pin r ?_, I.hok, I.len⟩
  rcases List.mem_append.mp hr with hr | hr
  · exact List.mem_append_left _ hr
  · exact List.mem_append_right _ (List.mem_cons_of_mem _ hr)
end
end HG

/-! The law's end where defs make lambdas: their code objects' tables are tracked. -/
namespace HG
open PySem L2 PyProof.Rows LamX
/-- a def of the top, its code object c, the table P of that -/
structure TabAt (K : PySem.W.Frag) (h : Heap) (c P : Addr) : Prop where
  tab : h.get? P = some { cls := .none, data := .fields #[] }
  no : K.lookup P = none
  code : PySem.W.CodeHd h c P
end HG
namespace HG
open PySem L2 PyProof.Rows LamX
section
variable {P : Program} {w : World} {K : PySem.W.Frag} {mg : Str → Option Value} {base : Heap} {CX : CXT} {k : Nat} {f : Addr} {fd : FuncData} {ps : List Str} {sp : Sp}
end
/-! ### what stays where tables grow -/
section
variable {H H' H2 : Hp} {p l : Addr} {n : Nat}
theorem _root_.LamX.ExtN.lst (e : ExtN H H') {xs : List V} (h : H p = some (.lst xs)) : H' p = some (.lst xs) := e _ _ h fun _ z => by cases z
theorem _root_.LamX.ExtN.tup (e : ExtN H H') {xs : List V} (h : H p = some (.tup xs)) : H' p = some (.tup xs) := e _ _ h fun _ z => by cases z
theorem _root_.LamX.ExtN.ins (e : ExtN H H') {C dx : Addr} {fs : List (Str × V)} (h : H p = some (.ins C dx fs)) : H' p = some (.ins C dx fs) := e _ _ h fun _ z => by cases z
/-- all but the pen and the tables stays -/
def KeepT (p : Addr) (H H' : Hp) : Prop := ∀ b o, b ≠ p → H b = some o → (∀ ps, o ≠ .tbl ps) → H' b = some o
theorem KeepT.trans (a : KeepT p H H') (b : KeepT p H' H2) : KeepT p H H2 := fun c o n h t => b c o n (a c o n h t) t
end
end HG

/-! x op= n, x of an own class, n an int. -/
namespace HG
open PySem L2 PyProof.Rows
end HG
namespace HG
open PySem L2 PyProof.Rows
end HG

/-! repr of None, of a bool; reading an optional whole number. -/
namespace HG
open PySem L2 PyProof.Rows
/-- what a loop over J asks -/
def ForW (J : It) (g : TG) (tb : TS) (D : Ends) (σ : L2.St) (H1 : Hp) : Prop := ∃ W : Nat → Nat → L2.St → Hp → Prop, (∃ m, W 0 m σ H1) ∧ ∀ i m σ H, W i m σ H →
      (J.stop i H ∧ D.nx σ H) ∨ (J.go i H ∧ ∃ N : L2.St → Hp → Prop, (∀ σ' H', N σ' H' → ∃ m', m' < m ∧ W (i + 1) m' σ' H') ∧ ∀ x H', J.yld i H x H' → g x σ H' fun σ2 H2 => tb { D with nx := N, ct := N, bk := D.nx } σ2 H2)
/-- what is asked of x for a loop over a sequence -/
def SeqW (K : PySem.W.Frag) (x : V) (H1 : Hp) (R : It → Hp → Prop) : Prop := ∃ a, x = .ref a ∧ (((∃ xs, SqL K H1 a xs) ∧ R (Itl K a) H1) ∨ ((∃ xs, SqT K H1 a xs) ∧ R (Itt K a) H1))
theorem for_seq {K : PySem.W.Frag} {te : TE} {g : TG} {tb : TS} {D : Ends} {σ : L2.St} {H : Hp} (h : te σ H fun x H1 => SeqW K x H1 fun J H1 => ForW J g tb D σ H1) : tFor (iSeq K te) g tb D σ H := h
theorem seqW {K : PySem.W.Frag} {a : Addr} {H1 : Hp} {xs : List V} {R : It → Hp → Prop} (h : Sq K H1 a xs) (k : ∀ J, JOk J H1 xs.length (fun j => xs.getD j .non) → R J H1) : SeqW K (.ref a) H1 R := jok_sq h k
/-- a loop over items that stay -/
theorem for_jok {J : It} {H1 : Hp} {n : Nat} {xs : Nat → V} {g : TG} {tb : TS} {D : Ends} {σ : L2.St} (hJ : JOk J H1 n xs) (W : Nat → L2.St → Hp → Prop) (w0 : W 0 σ H1) (gr : ∀ i σ H, W i σ H → Grow H1 H) (fin : ∀ σ H, W n σ H → D.nx σ H)
    (step : ∀ i σ H, i < n → W i σ H → g (xs i) σ H fun σ2 H2 => tb { D with nx := W (i + 1), ct := W (i + 1), bk := D.nx } σ2 H2) : ForW J g tb D σ H1 := by
  refine ⟨fun i m σ H => i ≤ n ∧ m = n - i ∧ W i σ H, ⟨n, by omega, by omega, w0⟩, ?_⟩
  rintro i m σ H ⟨hi, hm, w⟩
  by_cases e : i = n
  · subst e
    exact .inl ⟨hJ.stop H (gr _ _ _ w), fin _ _ w⟩
  · have hl : i < n := by omega
    refine .inr ⟨hJ.go H (gr _ _ _ w) i hl, W (i + 1), fun σ' H' q => ⟨n - (i + 1), by omega, by omega, rfl, q⟩, fun x H' y => ?_⟩
    obtain ⟨rfl, rfl⟩ := hJ.yld H (gr _ _ _ w) i hl x H' y
    exact step i σ H' hl w
end HG

/-! An own exception class whose __init__ says super().__init__(text), then sets fields: its __init__ as a def. -/
namespace HG
open PySem L2 PyProof.Rows
/-- what is asked of the class C, its __init__'s code object and cell of the class -/
structure SupF (P : Program) (K : PySem.W.Frag) (C cda cc : Addr) : Prop where
  cls : OexC K C
  code : ∃ ccl cdd vs ccs file tf, K.lookup cda = some ⟨ccl, cdd, .fields vs, ccs⟩ ∧ vs[2]? = some (.str file tf) ∧ ((P.main.file : Str) == file) = true
  cell : ∃ cl cld csl, K.lookup cc = some ⟨cl, cld, .cell (some (.ref C)), csl⟩
  sup : PySem.W.ks_superIn K C C "__init__" = some (some (.builtin "ValueError.__init__"))
  self : PySem.W.mroIn K C (.ref C) = some true
  opq : PySem.W.nsIn K cStatics "thirdparty.any" = some none
  ve : PySem.W.subIn K (.ref C) (.type "ValueError") = some true
  top : (P.main.scope.names.lookup ("super" : Str)).isSome = false
/-- the names of such a method -/
structure ScX (ps : List Str) (scope : Scope) : Prop where
  kind : scope.kind = .function
  co : scope.isCoroutine = false
  gen : scope.isGenerator = false
  nocell : ∀ x ∈ scope.names, x.2 ≠ .cell
  free : ∀ x ∈ scope.names, x.2 = .free → x.1 = "__class__"
  par : ∀ p ∈ ps, scope.names.lookup p = some .local
  nd : ps.Nodup
  sup : scope.names.lookup ("super" : Str) = some .globalImplicit
  cl : scope.names.lookup ("__class__" : Str) = some .free
/-- the context of the body -/
def cxX (CX : CXT) (P : Program) (w : World) (K : PySem.W.Frag) (mg : Str → Option Value) (base : Heap) (N : List Str) (qual : Str) (scope : Scope) (f cda cc : Addr) (A : Around) (outer : List Env) (s : Shared) (H : Hp) (E : XK) : Cx where
  prog := P
  w := w
  K := K
  mg := mg
  base := base
  A := A.deeper (PySem.W.ksEnv qual scope s.heap.objs.size f (.ref cda) cc)
  N := N
  s_0 := s
  H_0 := H
  env := PySem.W.ksEnv qual scope s.heap.objs.size f (.ref cda) cc
  outer := outer
  stack := PySem.W.ksEnv qual scope s.heap.objs.size f (.ref cda) cc :: outer
  ex := []
  calm := true
  fn := fun _ => false
  pn := []
  xe := fun e s' => wpAny (model P w) (A.deeper (PySem.W.ksEnv qual scope s.heap.objs.size f (.ref cda) cc)) (leaving (PySem.W.ksEnv qual scope s.heap.objs.size f (.ref cda) cc) e) (fun _ s'' => CX outer H s E e s'') (fun e' s'' => CX outer H s E e' s'') s'
theorem lookup_of_mem {α : Type} {y : Str} {u : α} : ∀ {l : List (Str × α)}, (l.map (·.1)).Nodup → (y, u) ∈ l → l.lookup y = some u
  | [], _, h => absurd h (by simp)
  | (z, v) :: r, nd, h => by
    rw [List.map_cons, List.nodup_cons] at nd
    rcases List.mem_cons.mp h with e | e
    · cases e
      simp [List.lookup_cons]
    · have ne : (y == z) = false := by
        refine Bool.eq_false_iff.mpr fun q => nd.1 ?_
        rw [← beq_iff_eq.mp q]
        exact List.mem_map_of_mem (f := (·.1)) e
      rw [List.lookup_cons, ne]
      exact lookup_of_mem nd.2 e
theorem zip_rev {α : Type} {ps : List Str} {us : List α} {y : Str} {u : α} {i : Nat} (nd : ps.Nodup) (hl : ps.length = us.length) (hp : ps[i]? = some y) (hu : us[i]? = some u) : (ps.zip us).reverse.lookup y = some u := by
  refine lookup_of_mem ?_ ?_
  · rw [List.map_reverse, List.map_fst_zip (by omega)]
    exact List.pairwise_reverse.mpr (nd.imp Ne.symm)
  · rw [List.mem_reverse]
    exact List.mem_of_getElem? (i := i) (by rw [List.getElem?_zip_eq_some]; exact ⟨hp, hu⟩)
section
variable {CX : CXT} {P : Program} {w : World} {K : PySem.W.Frag} {mg : Str → Option Value} {base : Heap} {ps : List Str} {qual : Str} {scope : Scope} {f cda cc : Addr} {A : Around} {outer : List Env} {s : Shared} {H : Hp} {E : XK} {us : List Value} {vs : List V} {h₁ : Heap} {tk : Nat}
theorem inv_startX {cl : Value} {cld : Option Addr} {csl : Array (Option Value)} {cv : Option Value} (S : ScX ps scope) (hd : A.handled = none) (e0 : Env0 P w K mg base A outer s H) (hl : vs.length = ps.length) (r : Vals vs us) (hc : K.lookup cc = some ⟨cl, cld, .cell cv, csl⟩)
    (hns : h₁.Ns s.heap.objs.size fun y => (ps.zip us).reverse.lookup y) (kp : ∀ b o, s.heap.get? b = some o → h₁.get? b = some o) :
    Inv (cxX CX P w K mg base ps qual scope f cda cc A outer s H E) [] (vs.map some) H { s with heap := h₁, toks := tk } := by
  have noA : ∀ b : Addr, b ∉ (cxX CX P w K mg base ps qual scope f cda cc A outer s H E).ex := fun b z => absurd (show b ∈ ([] : List Addr) from z) (by simp)
  have one : ∀ {y : Str} {c : Addr}, ([("__class__", cc)] : List (Str × Addr)).lookup y = some c → y = "__class__" ∧ c = cc := fun {y c} e => by
    have := PySem.mem_of_lookup e
    rw [List.mem_singleton] at this
    exact Prod.mk.inj this
  have hcb := e0.mod.kin _ _ hc
  have hcs := e0.bs _ _ hcb
  refine ⟨⟨e0.mod, S.kind, rfl, rfl, Nat.le_refl _, fun y z c e1 e2 => ?_, fun y hy => ?_, fun y c z _ => ?_, fun _ => hd, Around.frames_deeper e0.frames, .inr ⟨rfl, rfl⟩, fun b z => absurd z (noA b), e0.bs, e0.bsz, fun b _ _ => noA b, fun b z => absurd z (noA b), e0.funs, e0.frf⟩,
    rfl, e0.bare, Un.kept kp, ⟨_, hns, fun i y v e1 e2 e3 => ?_⟩, fun y c e => ?_, e0.hok.fresh (Nat.le_refl _), fun y c e => ?_, fun q hq => absurd (show q ∈ ([] : List (Addr × Obj)) ++ [] from hq) (by simp), e0.hok.kept kp, ?_⟩
  · rw [(one e1).1, (one e2).1]
  · have hy : scope.names.lookup y = some .cell ∨ scope.names.lookup y = some .free := hy
    rcases hy with hy | hy
    · exact absurd rfl (S.nocell _ (PySem.mem_of_lookup hy))
    · have e := S.free _ (PySem.mem_of_lookup hy) rfl
      have e : y = "__class__" := e
      rw [e]
      exact ⟨cc, rfl⟩
  · have z : false = true := z
    cases z
  · rw [List.getElem?_map] at e2
    have ha : vs[i]? = some v := by
      cases q : vs[i]? with
      | none => rw [q] at e2; cases e2
      | some x => rw [q] at e2; cases e2; rfl
    obtain ⟨u, hu, rv⟩ := r.get ha
    have hm : y ∈ ps := List.mem_of_getElem? e1
    exact ⟨u, rv, .inl ⟨S.par y hm, zip_rev S.nd (by rw [← hl]; exact r.length) e1 hu⟩⟩
  · obtain ⟨rfl, rfl⟩ := one e
    exact ⟨cv, _, kp _ _ hcs.1, rfl⟩
  · obtain ⟨rfl, rfl⟩ := one e
    exact hcs.2
  · show (vs.map some).length = ps.length
    rw [List.length_map]
    exact hl
end
section
variable {X : Cx} {pins : List (Addr × Obj)} {σ : L2.St} {H : Hp} {s : Shared} {a C u : Addr}
open PySem.W in
/-- ValueError.__init__ bound to an exception, called: nothing of it is told -/
theorem call_mw {us : List Value} {Q : Value → Shared → Prop} {A : Around} {E : Value → Shared → Prop} (T : OexC X.K C) (I : Inv X pins σ H s) (e : H a = some (exo a C none)) (hu : s.heap.get? u = some (kxs_mw "ValueError.__init__" a)) (hl : us.length ≤ sizeLine)
    (h : ∀ s', Inv X pins σ H s' → Q .none s') : wpAny (model X.prog X.w) A (call (.ref u) us) Q E s := by
  obtain ⟨nm, q, N, bs, bm, sn, sub, ab, col, dd, k0, k1, k2, k3, k5, hC, hbm⟩ := T.cls
  obtain ⟨t1, ho⟩ := exo_at I.hok e
  have kin := I.kIn
  obtain ⟨hp, g, d, t, os⟩ := s
  refine wpAny_call (codeAny_of_tree ?_)
  show wpAny _ A.in1 (callAny (.ref u) ⟨us, []⟩) _ _ _
  simp only [callAny]
  refine wpAny_bind (wpAny_load hu ?_)
  simp only [kxs_mw, show (Value.type "method-wrapper" == Value.type "method" || Value.type "method-wrapper" == Value.type "builtin_function_or_method" || Value.type "method-wrapper" == Value.type "method-wrapper") = true by decide, if_true]
  refine KFB.if_so (by decide) ?_
  refine wpAny_bind (check_bound_init F.excBase_ValueError.toExcCallFacts (kin _ _ hC) ho rfl ?_)
  refine wpAny_bind (wpAny_pure (wpAny_pure ?_))
  refine ⟨plainId_quiet F.excBase_ValueError.init.plain _, codeAny_builtin F.excBase_ValueError.initEntry ?_⟩
  refine exc_init_tree (cls := .ref C) (t0 := t1) (dv := none) (c2 := .none) (c3 := .none) (b4 := .bool false) ho hl fun h' k hx _ => ?_
  have J := I.write (t' := t) (x := a) (e := a) (o := exo a C none) (by rw [e]; exact True.intro) (.inl rfl) k ⟨_, hx⟩ (exo_ok hx)
  have eu : upd H a (exo a C none) = H := by
    funext b
    by_cases hb : b = a
    · rw [hb, upd_same, e]
    · rw [upd_ne hb]
  rw [eu] at J
  exact h _ J
end
section
variable {CX : CXT} {P : Program} {w : World} {K : PySem.W.Frag} {mg : Str → Option Value} {base : Heap} {k : Nat} {ps : List Str} {name qual : Str} {scope : Scope} {C f cda cc : Addr} {sp : Sp} {params : Arguments} {dV kV doc pm ct oc : Value} {an od : Option Addr} {osl : Array (Option Value)} {rest : List Stmt} {p0 p1 p2 p3 p4 pc : Pos} {text : Str} {j : Nat}
open PySem.W in
theorem fnOk_exc {ar : Arg} (lk : K.lookup f = some ⟨oc, od, .func (ksFn name qual params (.Expr (.Call (.Attribute (.Call (.Name "super" p0) [] [] p1) "__init__" p2) [.Constant (.str text) j pc] [] p3) p4 :: rest) scope dV kV doc pm an (.ref cda) ct cc), osl⟩)
    (hcd : codeIn K (.ref cda) qual = true) (S : ScX ps scope) (F : SupF P K C cda cc) (hmg : mg "super" = none) (hp : (params.posonlyargs ++ params.args).head? = some ar) (har : ps[0]? = some ar.arg)
    (he : ∀ L, ∃ pl, eval (.Call (.Attribute (.Call (.Name "super" p0) [] [] p1) "__init__" p2) [.Constant (.str text) j pc] [] p3) (ksEnv qual scope L f (.ref cda) cc) = (do
      let ov ← attributeBase (.Call (.Name "super" p0) [] [] p1) "__init__" (ksEnv qual scope L f (.ref cda) cc) (eval (.Call (.Name "super" p0) [] [] p1) (ksEnv qual scope L f (.ref cda) cc))
      standAt p2.atName
      let (g, first) ← holding [ov] (getMethod ov "__init__" pl)
      callWith p3 g first (backTo p3 (starEach [.Constant (.str text) j pc] (ksEnv qual scope L f (.ref cda) cc))) []))
    (hi : ∀ L, interactive (ksEnv qual scope L f (.ref cda) cc) = false) (hs : ∀ L, swapsWith (.Call (.Attribute (.Call (.Name "super" p0) [] [] p1) "__init__" p2) [.Constant (.str text) j pc] [] p3) none p4.line (ksEnv qual scope L f (.ref cda) cc) = pure false)
    (len : ∀ vs H Q E, sp vs H Q E → vs.length = ps.length)
    (hbody : ∀ (A : Around) (outer : List Env) (s : Shared) (H : Hp) (vs : List V) (Q : VK) (E : XK), sp vs H Q E → ∃ (a : Addr) (ws : List V), vs = .ref a :: ws ∧ H a = some (exo a C none) ∧
      ∃ t, PSs (cxX CX P w K mg base ps qual scope f cda cc A outer s H E) rest t ∧ t { nx := fun _ H' => Q .non H', rt := Q } (vs.map some) H) :
    FnOk P w K mg base CX (k + 1) f (ksFn name qual params (.Expr (.Call (.Attribute (.Call (.Name "super" p0) [] [] p1) "__init__" p2) [.Constant (.str text) j pc] [] p3) p4 :: rest) scope dV kV doc pm an (.ref cda) ct cc) ps sp := by
  refine ⟨len, fun A outer s H args us vs Q E hr e0 hb r hsp => ?_⟩
  have KX : K.In s.heap := e0.mod.kin.keeps fun b o e => (e0.bs b o e).1
  have lim : s.heap.NoLimit := e0.mod.nolimit.keeps fun b o e => (e0.bs b o e).1
  obtain ⟨ccl, cdd, cvs, ccs, file, tf, c1, c2, c3⟩ := F.code
  obtain ⟨cl, cld, csl, hcell⟩ := F.cell
  obtain ⟨a, ws, rfl, ha, t, ht, hq⟩ := hbody A outer s H vs Q E hsp
  have hl := len _ _ _ _ hsp
  refine ks_codeAny_call_defAt (fd := ksFn name qual params _ scope dV kV doc pm an (.ref cda) ct cc) (binds := ps.zip us) hr.depth (KX _ _ lk) rfl lim (codeRec_of KX hcd) rfl hb S.nocell (fun x hx => S.par _ (List.of_mem_zip hx).1) (fun h₁ hns kp => ?_) S.co S.gen S.kind
  have I : Inv (cxX CX P w K mg base ps qual scope f cda cc A outer s H E) [] ((V.ref a :: ws).map some) H { s with heap := h₁, toks := s.toks + (ps.zip us).length } := inv_startX S hr.hd e0 hl r hcell hns kp
  have KX1 : K.In h₁ := KX.keeps kp
  obtain ⟨cd, hcd1⟩ : ∃ cd, clsIn K C = some cd := by
    have := F.sup
    unfold ks_superIn at this
    cases q : clsIn K C with
    | none => rw [q] at this; cases this
    | some cd => exact ⟨cd, rfl⟩
  have hal := F.sup
  unfold ks_superIn at hal
  rw [hcd1, Option.bind_some] at hal
  obtain ⟨oD, hD1, hD2⟩ : ∃ oD, K.lookup C = some oD ∧ oD.data = .cls cd := by
    unfold clsIn at hcd1
    split at hcd1
    · rename_i c d cd' sl ho
      cases hcd1
      exact ⟨_, ho, rfl⟩
    · cases hcd1
  obtain ⟨pl, he⟩ := he s.heap.objs.size
  show PySem.wpAt (model P w) (A.deeper (ksEnv qual scope s.heap.objs.size f (.ref cda) cc)) (.func _ (ksEnv qual scope s.heap.objs.size f (.ref cda) cc)) (execs _ (ksEnv qual scope s.heap.objs.size f (.ref cda) cc)) _ (fun e s' => wpAny (model P w) (A.deeper (ksEnv qual scope s.heap.objs.size f (.ref cda) cc)) (leaving (ksEnv qual scope s.heap.objs.size f (.ref cda) cc) e) _ _ s') _
  refine ks_wpAt_execs_cons (ks_wpAt_Expr_any (ks_wpAt_MethodCall (pl := pl) (ks_wpAt_super_base (env := ksEnv qual scope s.heap.objs.size f (.ref cda) cc) S.sup S.cl (by decide) rfl (KX1 _ _ lk) rfl hp rfl (KX1 _ _ c1) rfl c2 c3 F.top ?_) he) (hi _) (hs _))
  have hmod := I.mod
  obtain ⟨mb, b1, b2⟩ := hmod.blt
  refine ks_loadName_global S.kind S.sup (Calls.loadGlobal_builtin (env := ksEnv qual scope s.heap.objs.size f (.ref cda) cc) (hmod.glob.keeps I.bk) hmg (b1.keeps I.bk) ((b2 "super" (by decide)).trans (by decide +kernel : bootBuiltins "super" = some (.type "super"))) ⟨rfl, ?_⟩)
  refine wpAny_loadName_free S.kind S.cl rfl ⟨_, KX1 _ _ hcell, rfl⟩ ?_
  have hself := S.par _ (List.mem_of_getElem? har)
  obtain ⟨m, hn, hlk⟩ := I.loc
  obtain ⟨u0, r0, l0⟩ := hlk 0 ar.arg (.ref a) har rfl (.inl hself)
  obtain rfl : u0 = Value.ref a := r0
  have hv : m ar.arg = some (.ref a) := by
    rcases l0 with ⟨_, q⟩ | ⟨q, _⟩
    · exact q
    · rcases q with q | q
      · have q : scope.names.lookup ar.arg = some .cell := q
        rw [hself] at q; cases q
      · have q : scope.names.lookup ar.arg = some .free := q
        rw [hself] at q; cases q
  refine wpAny_loadName_local S.kind hself hn hv ?_
  refine ks_wpAny_isType_cls (KX1 _ _ hD1) hD2 ⟨rfl, ?_⟩
  obtain ⟨t1, ho⟩ := exo_at I.hok ha
  have hne : a ≠ C := fun z => by
    have q := KX1 _ _ hD1
    rw [← z] at q
    rw [show h₁.get? a = _ from ho] at q
    cases q
    cases hD2
  refine ks_wpAny_call_super (KX1 _ _ hD1) hD2 ho rfl (fun c z => by cases z) (looks_mroIn KX1 F.self) (fun h2 hso k2 => ?_)
  have I2 : Inv (cxX CX P w K mg base ps qual scope f cda cc A outer s H E) [] ((V.ref a :: ws).map some) H ⟨h2, s.gens, s.drawn, s.toks + (ps.zip us).length, s.os⟩ := I.kept (t' := s.toks + (ps.zip us).length) k2
  have KX2 : K.In h2 := KX1.keeps k2
  have hI : Looks (model P w) h2 (isInstance (.ref a) (.type "ValueError")) true := by
    obtain ⟨t2, ho2⟩ := exo_at I2.hok ha
    have J : InstAt h2 a _ C none := ⟨ho2, rfl, rfl, trivial⟩
    exact J.type.andThen (looks_subIn KX2 F.ve)
  refine kxs_getMethod kxs_ValueError hso (looks_opaque KX2 F.opq) (l₀ := cd.mro) (fun A Q E s k q => wpAny_bind ((looks_clsIn KX2 hcd1) A _ E s k (wpAny_pure q))) rfl KX2 hal hI hne (by decide) ?_
  have k3 : ∀ b o, h2.get? b = some o → (h2.push (kxs_mw "ValueError.__init__" a)).get? b = some o := fun b o e => Heap.get?_push_of_some _ e
  have hmw : (h2.push (kxs_mw "ValueError.__init__" a)).get? h2.objs.size = some (kxs_mw "ValueError.__init__" a) := Heap.get?_push_size _ rfl
  have I3 : Inv (cxX CX P w K mg base ps qual scope f cda cc A outer s H E) [] ((V.ref a :: ws).map some) H ⟨h2.push (kxs_mw "ValueError.__init__" a), s.gens, s.drawn, s.toks + (ps.zip us).length + 1, s.os⟩ := I2.kept (t' := s.toks + (ps.zip us).length + 1) k3
  have hlt : ∀ {b : Addr} {o : Obj}, h2.get? b = some o → h2.objs.size ≠ b := fun {b o} e z => by
    have := Heap.lt_size e
    rw [← z] at this
    exact absurd this (Nat.lt_irrefl _)
  have hloc : h2.objs.size ≠ s.heap.objs.size := by
    obtain ⟨m2, n2, _⟩ := I2.loc
    obtain ⟨o, es, ep, e, _⟩ := n2
    exact hlt e
  have hfs : h2.objs.size ∉ frs outer := fun z => by
    obtain ⟨_, o, e, _⟩ := e0.funs.mem z
    exact hlt (k2 _ _ (kp _ _ e)) rfl
  have I4 := Inv.pinOne I3 hmw (I2.hok.fresh (Nat.le_refl _)) hloc hfs (fun v z => by cases z)
  have pa : PA (cxX CX P w K mg base ps qual scope f cda cc A outer s H E) [.Constant (.str text) j pc] (tCons (tC (.str text)) tNil) := pa_cons pe_str pa_nil
  have hev : starEach [.Constant (.str text) j pc] (ksEnv qual scope s.heap.objs.size f (.ref cda) cc) = [(false, eval (.Constant (.str text) j pc) (ksEnv qual scope s.heap.objs.size f (.ref cda) cc))] := rfl
  refine kxs_callWith (i := "ValueError.__init__") (x := a) (by rfl) ?_
  refine Calls.evalArgs_plain (wpAny_mono (pa.run p3 _ _ _ _ (fun vs H' => vs = [.str text] ∧ H' = H) I4 ⟨rfl, rfl⟩) (fun vs s5 z => ?_) (fun _ _ z => z))
  obtain ⟨vs5, H5, I5, r5, e5, rfl⟩ := z
  obtain ⟨q1, _⟩ := I5.pin (h2.objs.size, _) (List.mem_append_right _ (List.mem_cons_self ..))
  refine ⟨q1, ?_⟩
  have hl5 : ([] ++ vs : List Value).length ≤ sizeLine := by
    rw [List.nil_append, ← r5.length, e5]
    show 1 ≤ sizeLine
    decide
  refine call_mw F.cls (Inv.unpin I5) ha q1 hl5 fun s6 I6 => ?_
  refine wpAt_of_wpAny (wpAny_mono (ht.run [] s6 _ _ _ I6 hq) (fun fl s' z => ?_) fun e s' z => z)
  cases fl with
  | ret u =>
    obtain ⟨v, σ', H', J, rv, q⟩ := z
    exact ⟨v, H', J.os, J.bare, J.base, J.hok, rv, q⟩
  | next =>
    obtain ⟨σ', H', J, q⟩ := z
    exact ⟨.non, H', J.os, J.bare, J.base, J.hok, rfl, q⟩
  | brk => exact z.elim fun _ z => z.elim fun _ z => z.2.elim
  | cont => exact z.elim fun _ z => z.elim fun _ z => z.2.elim
end
end HG

/-! C(e, ..) of an own exception class with an __init__, made where nothing is handled: its context is None. -/
namespace HG
open PySem L2 PyProof.Rows
section
variable {X : Cx} {CX : CXT} {x : Str} {e : Expr} {es : List Expr} {ta : TA} {p pos : Pos} {C fI : Addr} {k : Nat} {fd : FuncData} {ps : List Str} {sp : Sp} {ds : List Value} {dvs : List V}
end
end HG

/-! try .. except X as e, where the exception outlives the clause: it is tracked behind. -/
namespace HG
open PySem L2 PyProof.Rows
section
variable {X : Cx} {pins : List (Addr × Obj)} {σ : L2.St} {H : Hp} {s : Shared} {a : Addr} {oe : Obj} {vs : Array Value} {cls : Value} {d : Option Addr}
end
section
variable {X : Cx} {x n : Str} {c : Value} {i : Nat} {body suite : List Stmt} {b₀ : Stmt} {np pos pos' : Pos} {tb : WX → TS} {ts : Addr → Value → Option Addr → TS}
end
end HG
namespace HG
open PySem L2 PyProof.Rows
/-! ### a tracked exception: its class, its fields -/
section
variable {X : Cx} {pins : List (Addr × Obj)} {σ : L2.St} {H : Hp} {s : Shared} {a D dd : Addr} {fs : List (Str × V)}
end
end HG
namespace HG
open PySem L2 PyProof.Rows
end HG

/-! Calls that may raise: of a name that holds a function, in a try; of a class's own methods. -/
namespace HG
open PySem L2 PyProof.Rows
section
variable {X : Cx} {CX : CXT} {k : Nat} {f : Addr} {fd : FuncData} {ps : List Str} {sp : Sp} {E : XK}
end
end HG
namespace HG
open PySem L2 PyProof.Rows
end HG

/-! Own exception classes of one or two fields. -/
namespace HG
open PySem L2 PyProof.Rows
structure FunX (K : PySem.W.Frag) (x qual : Str) (st : Stmt) (f : Addr) (fd : FuncData) (cda cc : Addr) : Prop where
  ex : ∃ oc od kV doc pm an ct osl, fd = PySem.W.ksFn x qual (defArgs st) (defBody st) (defScope st) .none kV doc pm an (.ref cda) ct cc ∧ K.lookup f = some ⟨oc, od, .func fd, osl⟩ ∧ PySem.W.codeIn K (.ref cda) qual = true
def spX1 (C : Addr) (g : Str) : Sp := fun vs H Q _ => match vs with
  | [.ref a, v] => H a = some (exo a C none) ∧ ∀ dx, H dx = none → dx ≠ a → Q .non (upd (upd H dx (exd dx [(g, v)])) a (exo a C (some dx)))
  | _ => False
def spX2 (C : Addr) (g g' : Str) : Sp := fun vs H Q _ => match vs with
  | [.ref a, v, u] => H a = some (exo a C none) ∧ ∀ dx, H dx = none → dx ≠ a → Q .non (upd (upd (upd H dx (exd dx [(g, v)])) a (exo a C (some dx))) dx (exd dx [(g', u), (g, v)]))
  | _ => False
section
variable {P : Program} {w : World} {K : PySem.W.Frag} {mg : Str → Option Value} {base : Heap} {x qual self p p' g g' : Str} {st : Stmt} {C f cda cc : Addr} {fd : FuncData} {p0 p1 p2 p3 p4 p5 p6 p7 p8 p9 p10 p11 p12 pc : Pos} {text : Str} {j : Nat} {ar : Arg}
open PySem.W in
theorem okX1 (FX : FunX K x qual st f fd cda cc) (S : ScX [self, p] (defScope st)) (F : SupF P K C cda cc) (hmg : mg "super" = none) (hno : PySem.W.findIn K (.ref C) g = some none) (hd1 : (self == ("__debug__" : Str)) = false) (hd2 : (p == ("__debug__" : Str)) = false) (hc1 : (self == ("__classdict__" : Str)) = false) (hc2 : (p == ("__classdict__" : Str)) = false)
    (hst : defBody st = .Expr (.Call (.Attribute (.Call (.Name "super" p0) [] [] p1) "__init__" p2) [.Constant (.str text) j pc] [] p3) p4 :: [.Assign [.Attribute (.Name self p5) g p6] (.Name p p7) p8])
    (hp : ((defArgs st).posonlyargs ++ (defArgs st).args).head? = some ar) (har : self = ar.arg)
    (he : ∀ L, ∃ pl, eval (.Call (.Attribute (.Call (.Name "super" p0) [] [] p1) "__init__" p2) [.Constant (.str text) j pc] [] p3) (ksEnv qual (defScope st) L f (.ref cda) cc) = (do
      let ov ← attributeBase (.Call (.Name "super" p0) [] [] p1) "__init__" (ksEnv qual (defScope st) L f (.ref cda) cc) (eval (.Call (.Name "super" p0) [] [] p1) (ksEnv qual (defScope st) L f (.ref cda) cc))
      standAt p2.atName
      let (g, first) ← holding [ov] (getMethod ov "__init__" pl)
      callWith p3 g first (backTo p3 (starEach [.Constant (.str text) j pc] (ksEnv qual (defScope st) L f (.ref cda) cc))) []))
    (hi : ∀ L, interactive (ksEnv qual (defScope st) L f (.ref cda) cc) = false) (hs : ∀ L, swapsWith (.Call (.Attribute (.Call (.Name "super" p0) [] [] p1) "__init__" p2) [.Constant (.str text) j pc] [] p3) none p4.line (ksEnv qual (defScope st) L f (.ref cda) cc) = pure false)
    (hs2 : ∀ L, swapsWith (.Name p p7) (some (.Attribute (.Name self p5) g p6)) p8.line (ksEnv qual (defScope st) L f (.ref cda) cc) = pure false) :
    FnOk P w K mg base CX0 1 f fd [self, p] (spX1 C g) := by
  obtain ⟨oc, od, kV, doc, pm, an, ct, osl, e, lk, hcd⟩ := FX.ex
  rw [hst] at e
  rw [e] at lk ⊢
  refine fnOk_exc (k := 0) lk hcd S F hmg hp (by rw [← har]; rfl) he hi hs (fun vs H Q E h => ?_) (fun A outer s H vs Q E h => ?_)
  · unfold spX1 at h
    split at h
    · rfl
    · exact h.elim
  · unfold spX1 at h
    split at h
    · rename_i a v
      obtain ⟨h1, h2⟩ := h
      refine ⟨a, [v], rfl, h1, _, pss_one (ps_ost (pe_var (i := 0) rfl (.inl (S.par _ (by simp))) hd1 hc1) (pe_var (i := 1) rfl (.inl (S.par _ (by simp))) hd2 hc2) (hs2 _)), ?_⟩
      refine ⟨v, rfl, .ref a, rfl, a, C, rfl, F.cls, hno, .inl ⟨h1, h2⟩⟩
    · exact h.elim
open PySem.W in
theorem okX2 (FX : FunX K x qual st f fd cda cc) (S : ScX [self, p, p'] (defScope st)) (F : SupF P K C cda cc) (hmg : mg "super" = none) (hno : PySem.W.findIn K (.ref C) g = some none) (hno' : PySem.W.findIn K (.ref C) g' = some none) (hd3 : (p' == ("__debug__" : Str)) = false) (hc3 : (p' == ("__classdict__" : Str)) = false) (hd1 : (self == ("__debug__" : Str)) = false) (hd2 : (p == ("__debug__" : Str)) = false) (hc1 : (self == ("__classdict__" : Str)) = false) (hc2 : (p == ("__classdict__" : Str)) = false)
    (hst : defBody st = .Expr (.Call (.Attribute (.Call (.Name "super" p0) [] [] p1) "__init__" p2) [.Constant (.str text) j pc] [] p3) p4 :: [.Assign [.Attribute (.Name self p5) g p6] (.Name p p7) p8, .Assign [.Attribute (.Name self p9) g' p10] (.Name p' p11) p12])
    (hp : ((defArgs st).posonlyargs ++ (defArgs st).args).head? = some ar) (har : self = ar.arg)
    (he : ∀ L, ∃ pl, eval (.Call (.Attribute (.Call (.Name "super" p0) [] [] p1) "__init__" p2) [.Constant (.str text) j pc] [] p3) (ksEnv qual (defScope st) L f (.ref cda) cc) = (do
      let ov ← attributeBase (.Call (.Name "super" p0) [] [] p1) "__init__" (ksEnv qual (defScope st) L f (.ref cda) cc) (eval (.Call (.Name "super" p0) [] [] p1) (ksEnv qual (defScope st) L f (.ref cda) cc))
      standAt p2.atName
      let (g, first) ← holding [ov] (getMethod ov "__init__" pl)
      callWith p3 g first (backTo p3 (starEach [.Constant (.str text) j pc] (ksEnv qual (defScope st) L f (.ref cda) cc))) []))
    (hi : ∀ L, interactive (ksEnv qual (defScope st) L f (.ref cda) cc) = false) (hs : ∀ L, swapsWith (.Call (.Attribute (.Call (.Name "super" p0) [] [] p1) "__init__" p2) [.Constant (.str text) j pc] [] p3) none p4.line (ksEnv qual (defScope st) L f (.ref cda) cc) = pure false)
    (hs2 : ∀ L, swapsWith (.Name p p7) (some (.Attribute (.Name self p5) g p6)) p8.line (ksEnv qual (defScope st) L f (.ref cda) cc) = pure false)
    (hs3 : ∀ L, swapsWith (.Name p' p11) (some (.Attribute (.Name self p9) g' p10)) p12.line (ksEnv qual (defScope st) L f (.ref cda) cc) = pure false) :
    FnOk P w K mg base CX0 1 f fd [self, p, p'] (spX2 C g g') := by
  obtain ⟨oc, od, kV, doc, pm, an, ct, osl, e, lk, hcd⟩ := FX.ex
  rw [hst] at e
  rw [e] at lk ⊢
  refine fnOk_exc (k := 0) lk hcd S F hmg hp (by rw [← har]; rfl) he hi hs (fun vs H Q E h => ?_) (fun A outer s H vs Q E h => ?_)
  · unfold spX2 at h
    split at h
    · rfl
    · exact h.elim
  · unfold spX2 at h
    split at h
    · rename_i a v u
      obtain ⟨h1, h2⟩ := h
      refine ⟨a, [v, u], rfl, h1, _, pss_cons (ps_ost (pe_var (i := 0) rfl (.inl (S.par _ (by simp))) hd1 hc1) (pe_var (i := 1) rfl (.inl (S.par _ (by simp))) hd2 hc2) (hs2 _)) (pss_one (ps_ost (pe_var (i := 0) rfl (.inl (S.par _ (by simp))) hd1 hc1) (pe_var (i := 2) rfl (.inl (S.par _ (by simp))) hd3 hc3) (hs3 _))), ?_⟩
      refine ⟨v, rfl, .ref a, rfl, a, C, rfl, F.cls, hno, .inl ⟨h1, fun dx hdx ne => ?_⟩⟩
      refine ⟨u, rfl, .ref a, rfl, a, C, rfl, F.cls, hno', .inr ⟨dx, _, upd_same, ?_, by show 1 ≤ 900; decide, h2 dx hdx ne⟩⟩
      rw [upd_ne ne, upd_same]
    · exact h.elim
end
end HG

/-! min(ints, default=v). -/
namespace HG
open PySem L2 PyProof.Rows
end HG

/-! Methods called with keywords alone. -/
namespace HG
open PySem L2 PyProof.Rows
section
variable {X : Cx} {CX : CXT} {k n : Nat} {f C p' : Addr} {fd : FuncData} {ps ks : List Str} {sp : Sp} {E : XK} {m : Str} {pos apos : Pos} {o : Expr} {kws : List Keyword} {ta : TE} {tk : TA} {pl : Sem Bool} {g : List Value → List Value → List Value} {gV : List V → List V → List V}
end
/-- a loop over a range -/
theorem for_rng1 {ta : TA} {g : TG} {tb : TS} {D : Ends} {σ : L2.St} {H : Hp} (h : ta σ H fun vs H1 => ∃ j : Int, vs = [.int j] ∧ -(2 ^ 62) ≤ j ∧ j < 2 ^ 62 ∧ ForW (Itr 0 j.toNat) g tb D σ H1) : tFor (iRng1 ta) g tb D σ H := h
end HG

/-! What a call is heard to do. -/
namespace HG
open PySem L2 PyProof.Rows
end HG

/-! Lists kept, repeated, stored into. -/
namespace HG
open PySem L2
end HG

/-! What the top has written of exception classes, in the forms that the rules want. -/
namespace HG
open PySem L2 PyProof.Rows
section
variable {K : PySem.W.Frag} {C R N NR : Addr} {nm q nmR qR : Str} {bs bm bsR bmR : List Value} {hd hdR ab abR : Bool} {sn snR : List Str} {sub subR : List Value} {col colR : Option Bool} {dd ddR : Option Addr} {k0 k1 k2 k3 k5 j0 j1 j2 j3 j5 : Option Value} {ni niR : String}
theorem sup_mk {n : Str} {r : Option Value} (lC : K.lookup C = some (excClassObj nm q C N bs bm hd sn sub ab col dd k0 k1 k2 k3 k5 ni)) (lR : K.lookup R = some (excClassObj nmR qR R NR bsR bmR hdR snR subR abR colR ddR j0 j1 j2 j3 j5 niR)) (e : bm = .ref R :: bmR) (f : PySem.W.findIn K (.ref R) n = some r) : PySem.W.ks_superIn K C C n = some r := by
  have e1 : PySem.W.findIn K (.ref R) n = PySem.W.alongIn K n (.ref R :: bmR) := by
    unfold PySem.W.findIn
    dsimp only
    rw [lR]
  have hc : ∃ cd, PySem.W.clsIn K C = some cd ∧ cd.mro = .ref C :: bm := by
    unfold PySem.W.clsIn
    rw [lC]
    exact ⟨_, rfl, rfl⟩
  obtain ⟨cd, h1, h2⟩ := hc
  unfold PySem.W.ks_superIn
  rw [h1, Option.bind_some, h2, e]
  have e2 : ((Value.ref C :: Value.ref R :: bmR).dropWhile (· != .ref C)).drop 1 = .ref R :: bmR := by
    rw [List.dropWhile_cons]
    simp
  rw [e2, ← e1]
  exact f
end
end HG

/-! Growths compared: where one first exceeds another one. -/
namespace HG
section
variable {f g : Nat → Option Int} {p N : Nat} {c d : Nat → Int}
end
end HG

/-! enumerate(tuple). -/
namespace HG
open PySem L2 PyProof.Rows
section
variable {prog : Program} {w : World} {A : Around} {E : Value → Shared → Prop} {s : Shared}
end
/-- a loop over a range: nothing need stay -/
theorem for_itr {lo : Int} {n : Nat} {H1 : Hp} {g : TG} {tb : TS} {D : Ends} {σ : L2.St} (W : Nat → L2.St → Hp → Prop) (w0 : W 0 σ H1) (fin : ∀ σ H, W n σ H → D.nx σ H)
    (step : ∀ i σ H, i < n → W i σ H → g (.int (lo + (i : Nat))) σ H fun σ2 H2 => tb { D with nx := W (i + 1), ct := W (i + 1), bk := D.nx } σ2 H2) : ForW (Itr lo n) g tb D σ H1 := by
  refine ⟨fun i m σ H => i ≤ n ∧ m = n - i ∧ W i σ H, ⟨n, by omega, by omega, w0⟩, ?_⟩
  rintro i m σ H ⟨hi, hm, w⟩
  by_cases e : i = n
  · subst e
    exact .inl ⟨Nat.le_refl _, fin _ _ w⟩
  · have hl : i < n := by omega
    refine .inr ⟨hl, W (i + 1), fun σ' H' q => ⟨n - (i + 1), by omega, by omega, rfl, q⟩, fun x H' y => ?_⟩
    obtain ⟨rfl, rfl⟩ := y
    exact step i σ H' hl w
end HG

/-! range(i, j) over whole numbers of any size. -/
namespace HG
open PySem L2 PyProof.Rows
end HG

/-! Dicts whose keys are tuples of texts. -/
namespace HG
open PySem L2 PySem.Spec PyProof.Rows
section
variable {X : Cx}
end
end HG

/-! A dict among starred arguments. -/
namespace HG
open PySem L2 PySem.Spec PyProof.Rows
section
variable {X : Cx} {pins : List (Addr × Obj)} {σ : L2.St} {H : Hp} {s : Shared}
end
section
variable {X : Cx} {e : Expr} {es : List Expr} {te : TE} {t : TA} {p : Pos}
end
end HG

/-! Class attributes; instances called; walks of locked dicts. -/
namespace HG
open PySem L2 PyProof.Rows
/-- a number that stands in a class -/
structure CInt (K : PySem.W.Frag) (C : Addr) (m : Str) (i : Int) : Prop where
  rd : ∃ mc t, PySem.W.readsIn K C mc = true ∧ PySem.W.findCls K (.ref C) mc m = some (.val (.int i t))
section
variable {X : Cx} {CX : CXT} {k : Nat} {g C : Addr} {fd : FuncData} {ps : List Str} {sp : Sp} {E : XK} {e fe : Expr} {es : List Expr} {tf : TE} {t : TA} {pos : Pos}
end
/-! ### walks of locked dicts -/
/-- the iterator hands out at turn j what P j tells -/
structure JOkR (J : It) (H1 : Hp) (n : Nat) (P : Nat → V → Hp → Prop) : Prop where
  go : ∀ H, Grow H1 H → ∀ j, j < n → J.go j H
  yld : ∀ H, Grow H1 H → ∀ j, j < n → ∀ x H', J.yld j H x H' → H' = H ∧ P j x H
  stop : ∀ H, Grow H1 H → J.stop n H
  on : ∀ j x H H', P j x H → Grow H H' → P j x H'
end HG

/-! enumerate(text). -/
namespace HG
open PySem L2 PyProof.Rows
end HG

/-! A dict that is made to be walked; signs of a text. -/
namespace HG
open PySem L2 PyProof.Rows
section
variable {X : Cx} {tg e : Expr} {td : TE}
end
end HG

/-! Loops over texts and dicts. -/
namespace HG
open PySem L2 PyProof.Rows
end HG

/-! Defs called with keywords alone. -/
namespace HG
open PySem L2 PyProof.Rows
section
variable {X : Cx} {CX : CXT} {k n : Nat} {f : Addr} {fd : FuncData} {ps ks : List Str} {sp : Sp} {E : XK} {x : Str} {p pos : Pos} {kws : List Keyword} {tk : TA} {g : List Value → List Value → List Value} {gV : List V → List V → List V}
end
/-! list(text): its signs -/
end HG

/-! == of dicts whose keys are tuples. -/
namespace HG
open PySem PySem.W PySem.Calls PyProof.Rows PyProof.V PySem.Spec
open PySem.SeqAt (EqIn EqAt rcIn_lists rcIn_tuples)
section
variable {prog : Program} {w : World} {K : Type} [DecidableEq K] {knd : HeapKind prog w K} {A : Around} {E : Value → Shared → Prop} {s : Shared}
inductive HitsH (prog : Program) (w : World) {K : Type} [DecidableEq K] (A : Around) (s : Shared) (kb : List (K × Addr × Value)) : List (K × Addr × Value) → Bool → Prop
  | nil : HitsH prog w A s kb [] true
  | miss {k : K} {p : Addr × Value} {r : List (K × Addr × Value)} : atKey kb k = none → HitsH prog w A s kb ((k, p) :: r) false
  | hit {k : K} {p q : Addr × Value} {r : List (K × Addr × Value)} {e b : Bool} : atKey kb k = some q → EqIn prog w A s p.2 q.2 e → HitsH prog w A s kb r b → HitsH prog w A s kb ((k, p) :: r) (e && b)
end
end HG
namespace HG
open PySem PySem.Spec PyProof.Rows L2
open PySem.SeqAt (EqIn)
section
variable {X : Cx} {pins : List (Addr × Obj)} {σ : L2.St} {H : Hp} {s : Shared}
end
end HG

/-! Defs with a star parameter, called as methods. -/
namespace HG
open PySem L2 PyProof.Rows StX
structure FnGR (P : Program) (w : World) (K : PySem.W.Frag) (mg : Str → Option Value) (base : Heap) (CX : CXT) (k : Nat) (f : Addr) (sp : Sp) : Prop where
  run : ∀ (A : Around) (outer : List Env) (s : Shared) (H : Hp) (us : List Value) (vs : List V) (Q : VK) (E : XK), Room k A → GA A → Env0 P w K mg base A outer s H → Vals vs us → sp vs H Q E →
    codeAny (model P w) A (.call (.ref f) ⟨us, []⟩) (CR CX outer P w H s Q E) s
section
variable {P : Program} {w : World} {K : PySem.W.Frag} {mg : Str → Option Value} {base : Heap} {CX : CXT} {k : Nat} {f : Addr} {fd : FuncData} {ps : List Str} {sp : Sp}
end
section
variable {X : Cx} {CX : CXT} {k : Nat} {f C : Addr} {sp : Sp} {E : XK} {m : Str} {pos apos : Pos} {e o : Expr} {es : List Expr} {ta : TE} {t : TA} {pl : Sem Bool}
end
end HG

/-! for k, v in d.items(), d with tuple keys. -/
namespace HG
open PySem L2 PyProof.Rows
end HG

/-! Dict comprehensions whose walk makes new tuples, told by a relation. -/
namespace HG
open PySem L2
/-- the iterator may make what it hands out -/
structure JOkG (J : It) (H1 : Hp) (n : Nat) (P : Nat → V → Hp → Prop) : Prop where
  go : ∀ H, Grow H1 H → ∀ j, j < n → J.go j H
  yld : ∀ H, Grow H1 H → ∀ j, j < n → ∀ x H', J.yld j H x H' → Grow H H' ∧ P j x H'
  stop : ∀ H, Grow H1 H → J.stop n H
theorem JOkR.g {J : It} {H1 : Hp} {n : Nat} {P : Nat → V → Hp → Prop} (h : JOkR J H1 n P) : JOkG J H1 n P := ⟨h.go, fun H g j hj x H' y => by
  obtain ⟨rfl, p⟩ := h.yld H g j hj x H' y
  exact ⟨.refl, p⟩, h.stop⟩
theorem JOk.r {J : It} {H1 : Hp} {n : Nat} {xs : Nat → V} (h : JOk J H1 n xs) : JOkR J H1 n (fun j x _ => x = xs j) := ⟨h.go, h.yld, h.stop, fun j x H H' p g => p⟩
end HG

/-! len(o) by an own __len__; for i, x in enumerate(tuple). -/
namespace HG
open PySem L2 PyProof.Rows
structure LenF (K : PySem.W.Frag) (C f : Addr) : Prop where
  fn : PySem.W.findIn K (.ref C) "__len__" = some (some (.ref f))
  isf : PySem.W.isFn K (.ref f) = true
section
variable {X : Cx} {k : Nat} {C f : Addr} {sp : Sp}
end
end HG

/-! name = {comprehension with tuple keys}, the name a local. -/
namespace HG
open PySem L2 PySem.Spec PyProof.Rows
section
variable {X : Cx}
end
end HG

/-! Instances called with keywords alone. -/
namespace HG
open PySem L2 PyProof.Rows
section
variable {X : Cx} {CX : CXT} {k n : Nat} {f C : Addr} {fd : FuncData} {ps ks : List Str} {sp : Sp} {E : XK} {pos : Pos} {fe : Expr} {kws : List Keyword} {tf : TE} {tk : TA} {g : List Value → List Value → List Value} {gV : List V → List V → List V}
end
end HG

/-! repr of a text. -/
namespace HG
open PySem L2 PyProof.Rows
end HG

/-! repr of a bool and of an empty dict, too; values that are no text. -/
namespace HG
open PySem L2 PyProof.Rows
/-- no text -/
def NotStr (K : PySem.W.Frag) (H : Hp) (v : V) : Prop := (∀ x, v ≠ .str x) ∧ ∃ t, tyF H v = some t ∧ tyOk K t ∧ PySem.W.kitOne K t (.type "str") = some false
theorem tyF_grow {H H' : Hp} (g : Grow H H') {v : V} {t : Value} (h : tyF H v = some t) : tyF H' v = some t := by
  cases v with
  | ref a =>
    simp only [tyF] at h ⊢
    cases e : H a with
    | none => rw [e] at h; cases h
    | some o => rw [e] at h; rw [g _ _ e]; exact h
  | _ => exact h
theorem NotStr.grow {K : PySem.W.Frag} {H H' : Hp} {v : V} (h : NotStr K H v) (g : Grow H H') : NotStr K H' v := ⟨h.1, by
  obtain ⟨_, t, h1, h2, h3⟩ := h
  exact ⟨t, tyF_grow g h1, h2, h3⟩⟩
end HG

/-! {(a, b): v, ..}: a display with tuple keys. -/
namespace HG
open PySem L2 PySem.Spec PyProof.Rows
end HG

/-! A text some times. -/
namespace HG
open PySem L2 PyProof.Rows
end HG

/-! for x in o, o's own __iter__ being: return iter(a tuple). -/
namespace HG
open PySem L2 PyProof.Rows
/-- what stands there is forgotten -/
theorem _root_.L2.Inv.drop {X : Cx} {pins : List (Addr × Obj)} {σ : L2.St} {H : Hp} {s : Shared} {p : Addr} {φ : Heap → Prop} (I : Inv X pins σ H s) (h : H p = some (.ext φ)) (h0 : X.s_0.heap.objs.size ≤ p) : Inv X pins σ (del H p) s := by
  have ne : ∀ {b : Addr} {o : HO}, H b = some o → (∀ ψ, o ≠ .ext ψ) → b ≠ p := fun {b o} e n z => by rw [z, h] at e; cases e; exact n _ rfl
  have dn : ∀ {b : Addr}, H b = none → del H p b = none := fun {b} e => by
    by_cases z : b = p
    · rw [z, del_same]
    · rw [del_ne z]; exact e
  refine ⟨I.ok, I.os, I.bare, ⟨I.base.keep, I.base.slot, fun b o q n x => dn (I.base.free b o q n x), I.base.there, fun b xs q => ?_, fun b o xs q => ?_, fun b ps q => ?_⟩, I.loc, I.cell, dn I.free, fun y c e => dn (I.freeC y c e), fun r hr => ?_, fun b o q => ?_, I.len⟩
  · have := I.base.tups b xs q
    rw [del_ne (ne this (fun _ z => by cases z))]
    exact this
  · have := I.base.frzs b o xs q
    rw [del_ne (ne this (fun _ z => by cases z))]
    exact this
  · obtain ⟨more, this⟩ := I.base.tbls b ps q
    exact ⟨more, by rw [del_ne (ne this (fun _ z => by cases z))]; exact this⟩
  · obtain ⟨p1, p2, p3⟩ := I.pin r hr
    exact ⟨p1, dn p2, p3⟩
  · have hb : b ≠ p := fun z => by rw [z, del_same] at q; cases q
    rw [del_ne hb] at q
    exact (I.hok b o q).stay (fun c v hc z => z) (fun c hc => by rw [del_ne (ne hc (fun _ z => by cases z))]; exact hc) (fun c xs hc => by rw [del_ne (ne hc (fun _ z => by cases z))]; exact hc)
/-- a def whose promise speaks of where new things lie -/
structure FnGN (P : Program) (w : World) (K : PySem.W.Frag) (mg : Str → Option Value) (base : Heap) (CX : CXT) (k : Nat) (f : Addr) (fd : FuncData) (ps : List Str) (sp : Nat → Sp) : Prop where
  len : ∀ n vs H Q E, sp n vs H Q E → vs.length = ps.length
  run : ∀ (A : Around) (outer : List Env) (s : Shared) (H : Hp) (args : Args) (us : List Value) (vs : List V) (Q : VK) (E : XK), Room k A → GA A → Env0 P w K mg base A outer s H → BindsTo s fd args (ps.zip us) → Vals vs us → sp s.heap.objs.size vs H Q E → codeAny (model P w) A (.call (.ref f) args) (CR CX outer P w H s Q E) s
section
variable {P : Program} {w : World} {K : PySem.W.Frag} {mg : Str → Option Value} {base : Heap} {CX : CXT} {j k : Nat} {f : Addr} {fd : FuncData} {ps : List Str} {sp : Nat → Sp}
end
/-- __iter__ of the class at C -/
structure ItF (K : PySem.W.Frag) (C f : Addr) : Prop where
  fn : PySem.W.findIn K (.ref C) "__iter__" = some (some (.ref f))
  isf : PySem.W.isFn K (.ref f) = true
end HG

/-! dict([..]) of pairs; texts compared by order. -/
namespace HG
open PySem L2 PyProof.Rows
end HG

/-! Comprehensions whose results are told by a relation, over any walk; loops over a locked dict's keys; dicts whose values are all True. -/
namespace HG
open PySem L2 PyProof.Rows
end HG

/-! Sorted texts, each once. -/
namespace HG
open PySem L2
theorem JOk.gg {J : It} {H1 : Hp} {n : Nat} {xs : Nat → V} (h : JOk J H1 n xs) : JOkG J H1 n (fun j x _ => x = xs j) := h.r.g
end HG

/-! isinstance(e, (C, D)), e a tracked exception. -/
namespace HG
open PySem L2 PyProof.Rows
end HG

/-! zip of a list or tuple and a text. -/
namespace HG
open PySem L2 PyProof.Rows
end HG

/-! t[a::k] of a tuple, a of it or less, k two or more. -/
namespace HG
open PySem PySem.Spec L2 PyProof.Rows HT
section
variable {prog : Program} {w : World} {A : Around} {E : Value → Shared → Prop} {s : Shared}
end
end HG

/-! *text among the items of a display. -/
namespace HG
open PySem L2 PySem.Spec PyProof.Rows
section
variable {X : Cx} {pins : List (Addr × Obj)} {σ : L2.St} {H : Hp} {s : Shared}
end
end HG

/-! == and != of a dict beside a value of another kind. -/
namespace HG
open PySem PySem.SeqAt
open AutoSeq1 (wpAny_loadPart')
open MeetsSeq MeetsSeq2 MeetsSeq3
section
variable {prog : Program} {w : World} {A : Around} {E : Value → Shared → Prop} {s : Shared}
end
end HG

/-! nine values of all kinds: ==, !=, repr of lists of them. -/
namespace HG
open PySem L2 PyProof.Rows
open PySem.SeqAt (EqIn EqAt RcAt RcNeAt)
inductive W9 | non | zero | five | emp | aa | tup | lst | dic | big deriving DecidableEq
structure Thr where
  t : Addr
  l : Addr
  d : Addr
def W9.v (w : Thr) : W9 → V
  | .non => .non | .zero => .int 0 | .five => .int 5 | .emp => .str "" | .aa => .str "a" | .tup => .ref w.t | .lst => .ref w.l | .dic => .ref w.d | .big => .int (-(10 ^ 40))
def W9.p : W9 → PyData
  | .non => .none | .zero => .int 0 | .five => .int 5 | .emp => .str "" | .aa => .str "a" | .tup => .tuple [.int 1, .str "x"] | .lst => .list [.int 2] | .dic => .dict [(.str "k", .none)] | .big => .int (-(10 ^ 40))
structure Sts (H : Hp) (w : Thr) : Prop where
  ht : H w.t = some (.tup [.int 1, .str "x"])
  hl : H w.l = some (.lst [.int 2])
  hd : H w.d = some (.dK [(.inr "k", .non)])
theorem Sts.grow {H H' : Hp} {w : Thr} (S : Sts H w) (g : Grow H H') : Sts H' w := ⟨g _ _ S.ht, g _ _ S.hl, g _ _ S.hd⟩
theorem W9.ty {i : W9} {H : Hp} {w : Thr} (S : Sts H w) : ∃ n, n ∈ ["NoneType", "int", "str", "tuple", "list", "dict"] ∧ tyF H (i.v w) = some (.type n) := by
  cases i
  case non => exact ⟨"NoneType", by decide, rfl⟩
  case zero => exact ⟨"int", by decide, rfl⟩
  case five => exact ⟨"int", by decide, rfl⟩
  case big => exact ⟨"int", by decide, rfl⟩
  case emp => exact ⟨"str", by decide, rfl⟩
  case aa => exact ⟨"str", by decide, rfl⟩
  case tup => exact ⟨"tuple", by decide, by simp only [W9.v, tyF, S.ht]⟩
  case lst => exact ⟨"list", by decide, by simp only [W9.v, tyF, S.hl]⟩
  case dic => exact ⟨"dict", by decide, by simp only [W9.v, tyF, S.hd]⟩
section
variable {X : Cx} {pins : List (Addr × Obj)} {σ : L2.St} {H : Hp} {s : Shared} {w : Thr}
end
section
variable {X : Cx}
end
end HG

/-! repr of lists of the nine; new lists that are not sys.modules; bool(x) by an own __bool__; lists of tuples of the same things. -/
namespace HG
open PySem L2 PyProof.Rows
open PySem.SeqAt (EqIn EqAt RcAt RcNeAt)
/-- [..], knowing that it is no list of before -/
def tLstN (t : TA) : TE := fun σ H Q => t σ H fun xs H1 => xs.length ≤ sizeLine ∧ ∀ p, H1 p = none → p ≠ sysModules → Q (.ref p) (upd H1 p (.lst xs))
section
variable {X : Cx} {es : List Expr} {t : TA} {pos : Pos}
theorem pe_lstN (h : PA X es t) : PE X (.List es pos) (tLstN t) := by
  refine ⟨fun pins s σ H Q I hq => ?_⟩
  refine wpAny_List_spliced (thn (h.run pos pins s σ H _ I hq) fun us s1 ⟨xs, H1, I1, r, z, q⟩ => ⟨by rw [← r.length]; exact z, ?_⟩)
  have hf : H1 s1.heap.objs.size = none := I1.hok.fresh (Nat.le_refl _)
  refine ⟨.ref s1.heap.objs.size, upd H1 s1.heap.objs.size (.lst xs), I1.laid (t' := s1.toks) (fun b u e => Heap.get?_push_of_some _ e) (Nat.le_refl _) ?_, rfl, q _ hf (Nat.ne_of_gt I1.big)⟩
  exact ⟨z, us, 0, r, Heap.get?_push_size _ rfl⟩
end
section
variable {X : Cx} {pins : List (Addr × Obj)} {σ : L2.St} {H : Hp} {s : Shared} {w : Thr}
theorem w9_reads (I : Inv X pins σ H s) (S : Sts H w) (hn : w.l ≠ sysModules) (i : W9) {u : Value} (rx : RelV (i.v w) u) : ∃ as, Reads s.heap u i.p as ∧ sysModules ∉ as := by
  cases i
  case non => cases (show u = Value.none from rx); exact ⟨[], .none, by simp⟩
  case zero => obtain ⟨t, rfl⟩ := (show ∃ t, u = Value.int 0 t from rx); exact ⟨[], .int _ _, by simp⟩
  case five => obtain ⟨t, rfl⟩ := (show ∃ t, u = Value.int 5 t from rx); exact ⟨[], .int _ _, by simp⟩
  case big => obtain ⟨t, rfl⟩ := (show ∃ t, u = Value.int _ t from rx); exact ⟨[], .int _ _, by simp⟩
  case emp => obtain ⟨t, rfl⟩ := (show ∃ t, u = Value.str _ t from rx); exact ⟨[], .str _ _, by simp⟩
  case aa => obtain ⟨t, rfl⟩ := (show ∃ t, u = Value.str _ t from rx); exact ⟨[], .str _ _, by simp⟩
  case tup =>
    cases (show u = Value.ref w.t from rx)
    obtain ⟨_, us, r1, o1, g1, c1, n1, d1⟩ := (show ObjOk X.prog X.w H s.heap w.t (.tup [.int 1, .str "x"]) from I.hok _ _ S.ht)
    obtain ⟨a, b, rfl, ra, rb⟩ := vals2 r1
    obtain ⟨t1, rfl⟩ := ra
    obtain ⟨t2, rfl⟩ := rb
    exact ⟨_, .tuple g1 c1 d1 (.cons (.int _ _) (.cons (.str _ _) .nil)), by simp⟩
  case lst =>
    cases (show u = Value.ref w.l from rx)
    obtain ⟨_, its, n, r1, g1⟩ := (show ObjOk X.prog X.w H s.heap w.l (.lst [.int 2]) from I.hok _ _ S.hl)
    cases r1 with
    | cons ra rn =>
      cases rn
      obtain ⟨t1, rfl⟩ := ra
      exact ⟨_, .list g1 rfl rfl (.cons (.int _ _) .nil), by simpa using Ne.symm hn⟩
  case dic =>
    cases (show u = Value.ref w.d from rx)
    obtain ⟨z, hs, vs, rel, o, es, ep, h1, h2, h3, h4, h5, h6⟩ := dk_of I.hok S.hd
    have rel' : KV [(.inr "k", .non)] vs := rel
    unfold KV at rel'
    cases rel' with
    | cons h t =>
      rename_i q qs
      cases t
      obtain ⟨e1, e2⟩ := h
      obtain ⟨k, v⟩ := q
      have e1' : (Sum.inr (Str.ofString "k") : Key) = k := e1
      have e2' : v = Value.none := e2
      subst e1' e2'
      obtain ⟨L, hL⟩ : ∃ L, es.toList = L := ⟨_, rfl⟩
      rw [hL] at h5
      cases h5 with
      | cons ek ev er =>
        rename_i e0 es0
        cases er
        have ek' : keyIs (Sum.inr (Str.ofString "k")) e0.key = true := ek
        rcases keyIs_shape ek' with ⟨i, t, e3, e4⟩ | ⟨x, t, e3, e4⟩
        · cases e3
        · cases e3
          have r1 : Reads s.heap e0.key (.str "k") [] := by rw [e4]; exact .str _ _
          have r2 : Reads s.heap e0.val .none [] := by rw [ev]; exact .none
          refine ⟨_, .dict (kvs := [(.str "k", .none)]) (as := []) (bs := []) h1 h2.1 h3 ?_ ?_, ?_⟩
          · rw [hL]; exact .cons r1 .nil
          · rw [hL]; exact .cons r2 .nil
          · intro hm
            rcases List.mem_append.mp hm with hm | hm
            · rcases List.mem_cons.mp hm with e | e
              · rw [← e] at hs; exact absurd hs (by decide)
              · cases e
            · cases hm
end
/-! ### bool(x) -/
structure BoolF (K : PySem.W.Frag) (C f : Addr) : Prop where
  fn : PySem.W.findIn K (.ref C) "__bool__" = some (some (.ref f))
  isf : PySem.W.isFn K (.ref f) = true
section
variable {X : Cx} {k : Nat} {C f : Addr} {sp : Sp}
end
end HG

/-! exceptions of own classes as plain values: made by position, by keywords, with no value; their fields; isinstance. -/
namespace PySem.HandSPX
open PySem.W PySem.Calls PyProof.Rows
/-! ### type.__call__ on such a class: BaseException.__new__, then the own __init__ -/
section
variable {M : Model} {A : Around} {E : Value → Shared → Prop} {h : Heap} {g : Array GenState} {d : Drawn} {t : Nat} {os : OsState}
variable {nm q : Str} {C N : Addr} {bs bm bmB : List Value} {hdct : Bool} {sn : List Str} {sub : List Value} {ab : Bool} {col : Option Bool} {dd : Option Addr} {k0 k1 k2 k3 k5 : Option Value} {B newId initId : String}

theorem check_new_ownK (F : ExcBaseFacts B newId initId bmB) (hT : ∀ X : String, bm.contains (.type X) = bmB.contains (.type X)) {rest : List Value} {kw : List (Str × Value)} {Q : Unit → Shared → Prop}
    (hC : h.get? C = some (excClassObj nm q C N bs bm hdct sn sub ab col dd k0 k1 k2 k3 k5 newId)) (hq : Q () ⟨h, g, d, t, os⟩) : wpAny M A (checkBuiltinCall newId ⟨.ref C :: rest, kw⟩) Q E ⟨h, g, d, t, os⟩ := by
  have hcont : (Value.ref C :: bm).contains (.type B) = true := by rw [List.contains_cons, hT, F.hasB, Bool.or_true]
  have hstar := F.noStar
  simp only [checkBuiltinCall, F.newKind, F.newSplit, F.newRow]
  repeat (first | refine wpAny_loadPart_at hC ?_ | (refine wpAny_isSubtype_exc hC ?_; rw [hcont]) | refine wpAny_staticBase_exc hC ?_ | refine wpAny_madeBy_exc hC ?_ | simp only [bne_self_eq_false, Bool.false_eq_true, if_false] | wp_step)
  exact hq
end

section
variable {prog : Program} {w : World} {A : Around} {E : Value → Shared → Prop} {R : Result → Shared → Prop} {h : Heap} {g : Array GenState} {d : Drawn} {t : Nat} {os : OsState}
variable {nm q : Str} {C N : Addr} {bs bm bmB : List Value} {hdct : Bool} {sn : List Str} {sub : List Value} {ab : Bool} {col : Option Bool} {dd : Option Addr} {k0 k1 k2 k3 k5 : Option Value} {B newId initId : String}

theorem new_ownK (F : ExcBaseFacts B newId initId bmB) (hT : ∀ X : String, bm.contains (.type X) = bmB.contains (.type X)) {rest : List Value} {kw : List (Str × Value)}
    (hC : h.get? C = some (excClassObj nm q C N bs bm hdct sn sub ab col dd k0 k1 k2 k3 k5 newId))
    (hq : R (.ok (.ret (.ref (h.objs.size + 1)))) ⟨(h.push { cls := .type "tuple", data := .seq rest.toArray }).push
      { cls := .ref C, data := .fields #[.ref h.objs.size, .none, .none, .none, .bool false, .none] }, g, d, t, os⟩) (hrest : rest.length ≤ sizeLine) :
    codeAny (model prog w) A (.builtin newId ⟨.ref C :: rest, kw⟩) R ⟨h, g, d, t, os⟩ := by
  have hends := F.ends
  have hcB : (Value.ref C :: bm).contains (.type B) = true := by rw [List.contains_cons, hT, F.hasB, Bool.or_true]
  have hcA : (Value.ref C :: bm).contains (.type "AttributeError") = false := by rw [List.contains_cons, hT, F.noAttr]; rfl
  have hcN : (Value.ref C :: bm).contains (.type "NameError") = false := by rw [List.contains_cons, hT, F.noName]; rfl
  refine codeAny_builtinAt F.entry ?_
  unfold Builtin.«BaseException.__new__»
  refine wpAt_bind ?_
  show wpAt _ _ _ (stack >>= _) _ _ _
  refine wpAt_bind (wpAt_stack fun p below => wpAt_of_wpAny ?_)
  wp_walk
  refine wpAt_of_wpAny ?_
  rw [F.owner]
  repeat (first | with_reducible refine wpAny_madeHere_exc F.canon hC ?_ | with_reducible refine wpAny_loadPart_at hC ?_ | (with_reducible refine wpAny_isSubtype_exc hC ?_; first | rw [hcB] | rw [hcA] | rw [hcN]) | wp_step)
  show R _ _
  rw [Heap.size_push]
  exact hq

theorem type_call_ownK (F : ExcBaseFacts B newId initId bmB) (hT : ∀ X : String, bm.contains (.type X) = bmB.contains (.type X)) {rest : List Value} {kw : List (Str × Value)} {fI : Addr} {Q : Fin → Shared → Prop}
    (hC : h.get? C = some (excClassObj nm q C N bs bm hdct sn sub ab col dd k0 k1 k2 k3 k5 newId))
    (hi : W.Looks (model prog w) h (typeLookup (.ref C) "__init__") (some (.ref fI))) (hb : ∀ self, W.Looks (model prog w) h (bindSpecial (.ref fI) self) (.ref fI, [self])) (hrest : rest.length ≤ sizeLine)
    (hq : codeAny (model prog w) A (.call (.ref fI) ⟨.ref (h.objs.size + 1) :: rest, kw⟩)
      (fun r s' => match r with | .ok (.ret v) => v = .none ∧ Q (.done (.ret (.ref (h.objs.size + 1)))) s' | .ok _ => False | .error e => E e s')
      ⟨(h.push (W.kdv_tup rest)).push (excO C h.objs.size), g, d, t, os⟩) :
    wpAny (model prog w) A (Builtin.«type.__call__» ⟨.ref C :: rest, kw⟩) Q E ⟨h, g, d, t, os⟩ := by
  repeat (first | with_reducible refine wpAny_loadPart_at hC ?_ | with_reducible refine wpAny_madeBy_exc hC ?_ | wp_step)
  refine codeAny_call_builtin_code (Code.quiet_builtin _ F.quiet) (check_new_ownK F hT hC ?_)
  refine new_ownK F hT hC ?_ hrest
  show wpAny _ _ _ _ _ _
  have k : ∀ b o, h.get? b = some o → ((h.push (W.kdv_tup rest)).push (excO C h.objs.size)).get? b = some o := fun b o e => Heap.get?_push_of_some _ (Heap.get?_push_of_some _ e)
  have hC₁ := k _ _ hC
  have hget : ((h.push (W.kdv_tup rest)).push (excO C h.objs.size)).get? (h.objs.size + 1) = some (excO C h.objs.size) := by heap_get
  have hcC : (Value.ref C :: bm).contains (.ref C) = true := by simp
  have i1 := hi.keeps k
  have b1 := (hb (.ref (h.objs.size + 1))).keeps k
  unfold isInstance
  repeat (first | with_reducible refine wpAny_loadPart_at hget ?_ | (with_reducible refine wpAny_isSubtype_exc hC₁ ?_; rw [hcC]) | wp_step)
  show wpAny _ _ (typeLookup (.ref C) _) _ _ _
  refine i1.at ?_
  refine wpAny_holding (wpAny_bind (b1.at ?_))
  refine wpAny_bind (wpAny_call (codeAny_mono hq fun r s' z => ?_))
  rcases r with e | (v | _ | _ | _) <;> first | exact z | exact z.elim | skip
  obtain ⟨rfl, z⟩ := z
  first
    | exact wpAny_pure (wpAny_pure z)
    | (wp_walk; exact z)

theorem call_ownK (F : ExcBaseFacts B newId initId bmB) (hT : ∀ X : String, bm.contains (.type X) = bmB.contains (.type X)) {rest : List Value} {kw : List (Str × Value)} {fI : Addr}
    (hC : h.get? C = some (excClassObj nm q C N bs bm hdct sn sub ab col dd k0 k1 k2 k3 k5 newId))
    (hi : W.Looks (model prog w) h (typeLookup (.ref C) "__init__") (some (.ref fI))) (hb : ∀ self, W.Looks (model prog w) h (bindSpecial (.ref fI) self) (.ref fI, [self])) (hrest : rest.length ≤ sizeLine)
    (hq : codeAny (model prog w) (A.under (.builtin "type.__call__" ⟨.ref C :: rest, kw⟩)) (.call (.ref fI) ⟨.ref (h.objs.size + 1) :: rest, kw⟩) (W.InitBack (h.objs.size + 1) R)
      ⟨(h.push (W.kdv_tup rest)).push (excO C h.objs.size), g, d, t, os⟩) :
    codeAny (model prog w) A (.call (.ref C) ⟨rest, kw⟩) R ⟨h, g, d, t, os⟩ := by
  have f1 := tc_lookup
  have f2 := tc_bind (.ref C)
  have hTy : (⟨h, g, d, t, os⟩ : Shared).TypeIs (.ref C) "type" := ⟨_, hC, rfl⟩
  refine codeAny_of_tree ?_
  show wpAny _ _ (callAny (.ref C) _) _ _ _
  repeat (any_goals (first | assumption | with_reducible refine wpAny_loadPart_at hC ?_ | wp_step))
  refine ⟨rfl, ?_⟩
  refine codeAny_call_builtin_at (Code.quiet_builtin _ (by decide +kernel)) entry_typeCall (wpAny_check_type_call_sub hC (type_call_ownK F hT hC hi hb hrest ?_))
  refine codeAny_mono hq fun r s' z => ?_
  rcases r with e | (v | _ | _ | _) <;> exact z


end
end PySem.HandSPX

namespace HG
open PySem L2 PyProof.Rows
/-- C(v, ..), an exception, as a value -/
def tMkE (C : Addr) (sp : Sp) (ta : TA) : TE := fun σ H Q => ta σ H fun vs H1 => ∀ a, H1 a = none → sp (.ref a :: vs) (upd H1 a (exo a C none)) (fun v H' => v = .non ∧ Q (.ref a) H') (fun _ _ _ => False)
/-- C(k = v, ..) -/
def tMkEK (C : Addr) (n : Nat) (sp : Sp) (gV : List V → List V → List V) (tk : TA) : TE := fun σ H Q => tk σ H fun zs H1 => zs.length = n ∧ ∀ a, H1 a = none → sp (gV [.ref a] zs) (upd H1 a (exo a C none)) (fun v H' => v = .non ∧ Q (.ref a) H') (fun _ _ _ => False)
section
variable {X : Cx} {CX : CXT} {x : Str} {e : Expr} {es : List Expr} {ta : TA} {p pos : Pos} {C fI : Addr} {k : Nat} {fd : FuncData} {ps : List Str} {sp : Sp} {pins : List (Addr × Obj)} {σ : L2.St} {H : Hp} {s : Shared} {Q : VK}
theorem make_e (T : OexC X.K C) (iC : PySem.W.findIn X.K (.ref C) "__init__" = some (some (.ref fI))) (tI : PySem.W.typeIn X.K (.ref fI) = some (.type "function")) (F1 : FnOk X.prog X.w X.K X.mg X.base CX k fI fd ps sp) (hr : Room (k + 1) X.A)
    (hx : Passes CX X (fun _ _ _ => False)) (I : Inv X pins σ H s) {us al : List Value} {kw : List (Str × Value)} {vs : List V} (lu : us.length ≤ sizeLine) (hb : ∀ s' : Shared, X.K.In s'.heap → BindsTo s' fd ⟨.ref (s.heap.objs.size + 1) :: us, kw⟩ (ps.zip al)) (r : Vals vs al)
    (h : sp vs (upd H (s.heap.objs.size + 1) (exo (s.heap.objs.size + 1) C none)) (fun v H' => v = .non ∧ Q (.ref (s.heap.objs.size + 1)) H') (fun _ _ _ => False)) : wpAny (model X.prog X.w) X.A (call (.ref C) us kw) (EP X pins σ Q) X.xe s := by
  obtain ⟨nm, q, N, bs, bm, sn, sub, ab, col, dd, k0, k1, k2, k3, k5, hC, hbm⟩ := T.cls
  obtain ⟨hp, g, dr, tk, os⟩ := s
  have le1 : hp.objs.size ≤ hp.objs.size + 1 := Nat.le_succ _
  obtain ⟨h0, eh0⟩ : ∃ h0 : Heap, h0 = (hp.push (PySem.W.kdv_tup us)).push (PySem.HandSPX.excO C hp.objs.size) := ⟨_, rfl⟩
  have keep0 : ∀ b o, hp.get? b = some o → h0.get? b = some o := fun b o e => by rw [eh0]; exact Heap.get?_push_of_some _ (Heap.get?_push_of_some _ e)
  have at0 : h0.get? (hp.objs.size + 1) = some (PySem.HandSPX.excO C hp.objs.size) := by rw [eh0]; heap_get
  have I2 : Inv X pins σ (upd H (hp.objs.size + 1) (exo (hp.objs.size + 1) C none)) ⟨h0, g, dr, tk, os⟩ := I.laid (t' := tk) (o := exo (hp.objs.size + 1) C none) keep0 le1 (exo_ok at0)
  subst eh0
  refine wpAny_call (PySem.HandSPX.call_ownK F.excBase_ValueError (fun Y => PySem.HandSPX.refsVE_contains Y bm hbm) (I.kIn _ _ hC) (PySem.W.looks_findIn I.kIn iC) (fun self => PySem.W.bind_fn I.kIn self tI) lu
    (codeAny_mono (F1.run _ X.stack _ _ ⟨Value.ref (hp.objs.size + 1) :: us, kw⟩ al vs _ (fun _ _ _ => False) (hr.make C us kw) (I2.env0.make C us kw) (hb _ I2.kIn) r h) fun r s' z => ?_))
  cases r with
  | error er => exact hx pins σ _ _ er s' I2 z
  | ok fl =>
    cases fl with
    | ret u =>
      obtain ⟨v, H', I3, rv, ev, q⟩ := I2.after z
      subst ev
      exact ⟨rv, .ref (hp.objs.size + 1), H', I3, rfl, q⟩
    | next => exact z.elim
    | brk => exact z.elim
    | cont => exact z.elim
theorem pe_mkE (T : OexC X.K C) (iC : PySem.W.findIn X.K (.ref C) "__init__" = some (some (.ref fI))) (tI : PySem.W.typeIn X.K (.ref fI) = some (.type "function")) (F1 : FnOk X.prog X.w X.K X.mg X.base CX k fI fd ps sp) (hr : Room (k + 1) X.A) (hb : Binds X.K fd ps [])
    (hx : Passes CX X (fun _ _ _ => False)) (hg : Gl X x) (hm : X.mg x = some (.ref C)) (ha : PA X (e :: es) ta) (hl : ps.length ≤ 1000)
    (hdb : (x == ("__debug__" : Str)) = false := by decide) (he : starEach (e :: es) X.env = (false, eval e X.env) :: starEach es X.env := by rfl) (hpl : (backTo pos (starEach es X.env)).any (·.1) = false := by rfl) :
    PE X (.Call (.Name x p) (e :: es) [] pos) (tMkE C sp ta) := by
  refine ⟨fun pins s σ H Q I h => wpAny_Call_Name_kw (ld_glob I hg hm (PySem.W.callWith_K (h₀ := X.base) I.ok.mod.kin T.kC (thn (ha.run pos pins s σ H _ I h) fun us s1 z => ?_) he hpl) hdb)⟩
  obtain ⟨vs, H1, I1, r1, q1⟩ := z
  refine ⟨I1.kIn, ?_⟩
  have q := q1 (s1.heap.objs.size + 1) (I1.hok.fresh (Nat.le_succ _))
  have r2 : Vals (V.ref (s1.heap.objs.size + 1) :: vs) (Value.ref (s1.heap.objs.size + 1) :: us) := .cons rfl r1
  have hl2 : (Value.ref (s1.heap.objs.size + 1) :: us).length = ps.length := r2.length.symm.trans (F1.len _ _ _ _ q)
  have lu : us.length ≤ sizeLine := by
    rw [sizeLine_eq]
    simp only [List.length_cons] at hl2
    omega
  refine make_e T iC tI F1 hr hx I1 lu (fun s' ki => ?_) r2 q
  have := hb s' (Value.ref (s1.heap.objs.size + 1) :: us) ki (by rw [List.append_nil]; exact hl2)
  rwa [List.append_nil] at this
theorem pe_mkE0 (T : OexC X.K C) (iC : PySem.W.findIn X.K (.ref C) "__init__" = some (some (.ref fI))) (tI : PySem.W.typeIn X.K (.ref fI) = some (.type "function")) (F1 : FnOk X.prog X.w X.K X.mg X.base CX k fI fd ps sp) (hr : Room (k + 1) X.A) (hb : Binds X.K fd ps [])
    (hx : Passes CX X (fun _ _ _ => False)) (hg : Gl X x) (hm : X.mg x = some (.ref C))
    (hdb : (x == ("__debug__" : Str)) = false := by decide) :
    PE X (.Call (.Name x p) [] [] pos) (tMkE C sp tNil) := by
  refine ⟨fun pins s σ H Q I h => wpAny_Call_Name_kw (ld_glob I hg hm (PySem.W.callWith_K0 I.kIn T.kC ?_) hdb)⟩
  have q : sp [.ref (s.heap.objs.size + 1)] _ _ _ := h (s.heap.objs.size + 1) (I.hok.fresh (Nat.le_succ _))
  have hl2 : [Value.ref (s.heap.objs.size + 1)].length = ps.length := F1.len _ _ _ _ q
  refine make_e (us := []) T iC tI F1 hr hx I (Nat.zero_le _) (vs := [.ref (s.heap.objs.size + 1)]) (al := [.ref (s.heap.objs.size + 1)]) (fun s' ki => ?_) (.cons rfl .nil) q
  have := hb s' [Value.ref (s.heap.objs.size + 1)] ki (by rw [List.append_nil]; exact hl2)
  rwa [List.append_nil] at this
theorem pe_mkEK {n : Nat} {ks : List Str} {kws : List Keyword} {tk : TA} {g : List Value → List Value → List Value} {gV : List V → List V → List V} (T : OexC X.K C) (iC : PySem.W.findIn X.K (.ref C) "__init__" = some (some (.ref fI))) (tI : PySem.W.typeIn X.K (.ref fI) = some (.type "function")) (F1 : FnOk X.prog X.w X.K X.mg X.base CX k fI fd ps sp) (hr : Room (k + 1) X.A) (hb : KBn X.K fd ps 1 ks g gV)
    (hx : Passes CX X (fun _ _ _ => False)) (hg : Gl X x) (hm : X.mg x = some (.ref C)) (hkw : PK X kws tk)
    (hall : (backToKw pos (keywordEach kws X.env)).all (·.1.isSome) = true := by rfl) (hks : (backToKw pos (keywordEach kws X.env)).filterMap (·.1) = ks := by rfl) (hdb : (x == ("__debug__" : Str)) = false := by decide)
    (hpl : ((backTo pos (starEach [] X.env)).any (·.1) || (backToKw pos (keywordEach kws X.env)).any (·.1.isNone)) = false := by rfl)
    (hnl : ks.length = n := by rfl) : PE X (.Call (.Name x p) [] kws pos) (tMkEK C n sp gV tk) := by
  subst hnl
  refine ⟨fun pins s σ H Q I h => wpAny_Call_Name_kw (ld_glob I hg hm (PySem.W.callWith_KW0 (h₀ := X.base) I.ok.mod.kin T.kC hall (thn (hkw.run pos pins s σ H _ I h) fun ws s2 z => ?_) hpl) hdb)⟩
  obtain ⟨zs, H2, I2, rz, l2, q2⟩ := z
  refine ⟨I2.kIn, ?_⟩
  rw [hks]
  have q := q2 (s2.heap.objs.size + 1) (I2.hok.fresh (Nat.le_succ _))
  have r1 : Vals [V.ref (s2.heap.objs.size + 1)] [Value.ref (s2.heap.objs.size + 1)] := .cons rfl .nil
  exact make_e (us := []) T iC tI F1 hr hx I2 (Nat.zero_le _) (fun s' ki => hb.to s' [Value.ref (s2.heap.objs.size + 1)] ws ki rfl (rz.length.symm.trans l2)) (hb.rel r1 rz) q
end
/-! ### such a value: its class, its fields -/
/-- at a: an exception of the class C with these fields -/
def ExV (H : Hp) (C : Addr) (fs : List (Str × V)) (a : Addr) : Prop := (H a = some (exo a C none) ∧ fs = []) ∨ ∃ dx, H a = some (exo a C (some dx)) ∧ H dx = some (exd dx fs)
theorem ExV.grow {H H' : Hp} {C a : Addr} {fs : List (Str × V)} (h : ExV H C fs a) (g : Grow H H') : ExV H' C fs a := by
  rcases h with ⟨h, e⟩ | ⟨dx, h1, h2⟩
  · exact .inl ⟨g _ _ h, e⟩
  · exact .inr ⟨dx, g _ _ h1, g _ _ h2⟩
section
variable {X : Cx} {pins : List (Addr × Obj)} {σ : L2.St} {H : Hp} {s : Shared} {a D dd : Addr} {fs : List (Str × V)}
theorem inst_exo (I : Inv X pins σ H s) (e : H a = some (exo a D (some dd))) (ed : H dd = some (exd dd fs)) : ∃ ox od mA, PySem.W.InstAt s.heap a ox D (some od) ∧ s.heap.get? dd = some od ∧ s.heap.Ns1 dd mA ∧ ∀ f, RelO (fs.lookup f) (mA f) := by
  obtain ⟨t1, h1⟩ := exo_at I.hok e
  obtain ⟨mA, hns, hr⟩ := exd_at I.hok ed
  obtain ⟨od, es, ep, ho, q⟩ := id hns
  exact ⟨_, od, mA, ⟨h1, rfl, rfl, ho⟩, ho, ⟨od, es, ep, ho, q⟩, hr⟩
theorem inst_exv (I : Inv X pins σ H s) (e : ExV H D fs a) : ∃ ox od, PySem.W.InstAt s.heap a ox D od := by
  rcases e with ⟨e, _⟩ | ⟨dd, e, ed⟩
  · obtain ⟨t1, h1⟩ := exo_at I.hok e
    exact ⟨_, none, ⟨h1, rfl, rfl, trivial⟩⟩
  · obtain ⟨ox, od, mA, J, _⟩ := inst_exo I e ed
    exact ⟨ox, some od, J⟩
end
/-- isinstance(e, c), e an exception of one of these classes -/
def rIsV (K : PySem.W.Frag) (cs : List Addr) : List V → Hp → VK → Prop := fun xs H Q => ∃ D, D ∈ cs ∧ ∃ (a : Addr) (fs : List (Str × V)) (c : V) (cv : Value) (b : Bool), xs = [.ref a, c] ∧ ExV H D fs a ∧ (∀ u, RelV c u → u = cv) ∧ PySem.W.kitOne K (.ref D) cv = some b ∧ Q (.bl b) H
theorem call_isV {X : Cx} {cs : List Addr} (hc : ∀ D ∈ cs, ExcC X.K D) : CallR X (.builtin "isinstance") (rIsV X.K cs) := by
  intro pins s σ H xs us Q I r h
  obtain ⟨D, hD, a, fs, c, cv, b, rfl, e, hcv, ek, q⟩ := h
  have C := hc D hD
  cases r with
  | cons rx rr =>
    cases rr with
    | cons rt rr =>
      cases rr
      cases rx
      have ec := hcv _ rt
      subst ec
      obtain ⟨ox, od, J⟩ := inst_exv I e
      exact PySem.W.kia_one (PySem.W.kitx_exc (by obtain ⟨cd, hc, _⟩ := PySem.W.any_some C.hd; rw [hc]; rfl) C.hg C.hk C.hs C.ha C.hn C.ht C.hm) I.kIn J ek (fun z => nomatch z) fun tk => ⟨.bl b, H, I.kept (t' := tk) fun _ _ z => z, rfl, q⟩
/-- e.f, e an exception of the class C -/
def tXfV (C : Addr) (f : Str) (te : TE) : TE := fun σ H Q => te σ H fun x H1 => ∃ (a : Addr) (fs : List (Str × V)) (v : V), x = .ref a ∧ ExV H1 C fs a ∧ fs.lookup f = some v ∧ Q v H1
theorem pe_xfV {X : Cx} {C : Addr} {e : Expr} {te : TE} {pos : Pos} {n : Str} (T : XfC X.K C) (hno : PySem.W.findIn X.K (.ref C) n = some none) (he : PE X e te) (hb : attributeBase e n X.env (eval e X.env) = eval e X.env := by rfl) : PE X (.Attribute e n pos) (tXfV C n te) := by
  refine ⟨fun pins s σ H Q I h => ?_⟩
  refine attr_of hb (thn (he.run pins s σ H _ I h) fun u s1 hh => ?_)
  obtain ⟨x, H1, I1, rx, a, fs, v, ex, ea, l, q⟩ := hh
  subst ex
  obtain rfl : u = Value.ref a := rx
  rcases ea with ⟨_, rfl⟩ | ⟨dd, ea, ed⟩
  · cases l
  obtain ⟨ox, od, mA, J, ho, hns, hr⟩ := inst_exo I1 ea ed
  obtain ⟨od', ho', hl⟩ := lookIn_ns hns
  rw [ho] at ho'
  cases ho'
  obtain ⟨u, hu, ru⟩ := RelO.some_of (v := v) (o := mA n) (by rw [← l]; exact hr n)
  exact HandSPX.exc_get I1.kIn J T.ga T.gg T.exC (PySem.W.findObj_own T.hdC hno rfl (by rw [hl, hu])) (handed_of ru) ⟨v, H1, I1.tok _, ru, q⟩
/-- an __init__ that hands a text on alone -/
def spX0 (C : Addr) : Sp := fun vs H Q _ => match vs with
  | [.ref a] => H a = some (exo a C none) ∧ Q .non H
  | _ => False
open PySem.W in
theorem okX0 {P : Program} {w : World} {K : PySem.W.Frag} {mg : Str → Option Value} {base : Heap} {x qual self : Str} {st : Stmt} {C f cda cc : Addr} {fd : FuncData} {p0 p1 p2 p3 p4 pc : Pos} {text : Str} {j : Nat} {ar : Arg}
    (FX : FunX K x qual st f fd cda cc) (S : ScX [self] (defScope st)) (F : SupF P K C cda cc) (hmg : mg "super" = none)
    (hst : defBody st = [.Expr (.Call (.Attribute (.Call (.Name "super" p0) [] [] p1) "__init__" p2) [.Constant (.str text) j pc] [] p3) p4])
    (hp : ((defArgs st).posonlyargs ++ (defArgs st).args).head? = some ar) (har : self = ar.arg)
    (he : ∀ L, ∃ pl, eval (.Call (.Attribute (.Call (.Name "super" p0) [] [] p1) "__init__" p2) [.Constant (.str text) j pc] [] p3) (ksEnv qual (defScope st) L f (.ref cda) cc) = (do
      let ov ← attributeBase (.Call (.Name "super" p0) [] [] p1) "__init__" (ksEnv qual (defScope st) L f (.ref cda) cc) (eval (.Call (.Name "super" p0) [] [] p1) (ksEnv qual (defScope st) L f (.ref cda) cc))
      standAt p2.atName
      let (g, first) ← holding [ov] (getMethod ov "__init__" pl)
      callWith p3 g first (backTo p3 (starEach [.Constant (.str text) j pc] (ksEnv qual (defScope st) L f (.ref cda) cc))) []))
    (hi : ∀ L, interactive (ksEnv qual (defScope st) L f (.ref cda) cc) = false) (hs : ∀ L, swapsWith (.Call (.Attribute (.Call (.Name "super" p0) [] [] p1) "__init__" p2) [.Constant (.str text) j pc] [] p3) none p4.line (ksEnv qual (defScope st) L f (.ref cda) cc) = pure false) :
    FnOk P w K mg base CX0 1 f fd [self] (spX0 C) := by
  obtain ⟨oc, od, kV, doc, pm, an, ct, osl, e, lk, hcd⟩ := FX.ex
  rw [hst] at e
  rw [e] at lk ⊢
  refine fnOk_exc (k := 0) lk hcd S F hmg hp (by rw [← har]; rfl) he hi hs (fun vs H Q E h => ?_) (fun A outer s H vs Q E h => ?_)
  · unfold spX0 at h
    split at h
    · rfl
    · exact h.elim
  · unfold spX0 at h
    split at h
    · rename_i a
      obtain ⟨h1, h2⟩ := h
      exact ⟨a, [], rfl, h1, _, pss_nil, h2⟩
    · exact h.elim
/-- such an __init__, called with keywords -/
theorem funx_kb {K : PySem.W.Frag} {fd : FuncData} {ps : List Str} (n : Nat) (ks : List Str) (g : {α : Type} → List α → List α → List α)
    (hrel : ∀ {vs zs : List V} {us ws : List Value}, Vals vs us → Vals zs ws → Vals (g vs zs) (g us ws))
    (h : ∀ (us ws : List Value), us.length = n → ws.length = ks.length → bindArgs fd ⟨us, ks.zip ws⟩ = pure (ps.zip (g us ws))) :
    KBn K fd ps n ks (fun us ws => g us ws) (fun vs zs => g vs zs) :=
  ⟨fun s us ws _ l1 l2 => .of_eq (h us ws l1 l2), fun r1 r2 => hrel r1 r2⟩
end HG

/-! nine other values of all kinds: repr of lists of them, of lists of one pair of a text and such a list. -/
namespace HG
open PySem L2 PyProof.Rows
inductive U9 | non | zero | tru | emp | ab | big | tup | lst | dic deriving DecidableEq
def U9.v (w : Thr) : U9 → V
  | .non => .non | .zero => .int 0 | .tru => .bl true | .emp => .str "" | .ab => .str "a b" | .big => .int (-(10 ^ 40)) | .tup => .ref w.t | .lst => .ref w.l | .dic => .ref w.d
def U9.p : U9 → PyData
  | .non => .none | .zero => .int 0 | .tru => .bool true | .emp => .str "" | .ab => .str "a b" | .big => .int (-(10 ^ 40)) | .tup => .tuple [.int 1, .str "x"] | .lst => .list [.int 2] | .dic => .dict [(.str "k", .none)]
section
variable {X : Cx} {pins : List (Addr × Obj)} {σ : L2.St} {H : Hp} {s : Shared} {w : Thr}
theorem u9_reads (I : Inv X pins σ H s) (S : Sts H w) (hn : w.l ≠ sysModules) (i : U9) {u : Value} (rx : RelV (i.v w) u) : ∃ as, Reads s.heap u i.p as ∧ sysModules ∉ as := by
  cases i
  case non => cases (show u = Value.none from rx); exact ⟨[], .none, by simp⟩
  case zero => obtain ⟨t, rfl⟩ := (show ∃ t, u = Value.int 0 t from rx); exact ⟨[], .int _ _, by simp⟩
  case tru => cases (show u = Value.bool true from rx); exact ⟨[], .bool _, by simp⟩
  case big => obtain ⟨t, rfl⟩ := (show ∃ t, u = Value.int _ t from rx); exact ⟨[], .int _ _, by simp⟩
  case emp => obtain ⟨t, rfl⟩ := (show ∃ t, u = Value.str _ t from rx); exact ⟨[], .str _ _, by simp⟩
  case ab => obtain ⟨t, rfl⟩ := (show ∃ t, u = Value.str _ t from rx); exact ⟨[], .str _ _, by simp⟩
  case tup => exact w9_reads I S hn .tup rx
  case lst => exact w9_reads I S hn .lst rx
  case dic => exact w9_reads I S hn .dic rx
theorem u9_readsAll (I : Inv X pins σ H s) (S : Sts H w) (hn : w.l ≠ sysModules) : ∀ {is : List U9} {us : List Value}, Vals (is.map (U9.v w)) us → ∃ as, ReadsAll s.heap us (is.map U9.p) as ∧ sysModules ∉ as
  | [], us, r => by cases r; exact ⟨[], .nil, by simp⟩
  | i :: is, us, r => by
    cases r with
    | cons a b =>
      obtain ⟨as, r1, n1⟩ := u9_reads I S hn i a
      obtain ⟨bs, r2, n2⟩ := u9_readsAll I S hn b
      exact ⟨as ++ bs, .cons r1 r2, by simp [n1, n2]⟩
end
theorem u9_shw (is : List U9) : PyData.showableAll (is.map U9.p) = true ∧ PyData.leavesShortAll 60 (is.map U9.p) = true ∧ PyData.weightAll (is.map U9.p) ≤ 201 * is.length ∧ PyData.depthAll (is.map U9.p) ≤ 2 := by
  induction is with
  | nil => exact ⟨rfl, rfl, by decide, by decide⟩
  | cons i r ih =>
    obtain ⟨h1, h2, h3, h4⟩ := ih
    have g : PyData.showable i.p = true ∧ PyData.leavesShort 60 i.p = true ∧ PyData.weight i.p ≤ 200 ∧ PyData.depth i.p ≤ 2 := by cases i <;> decide +kernel
    obtain ⟨g1, g2, g3, g4⟩ := g
    refine ⟨?_, ?_, ?_, ?_⟩
    · show (PyData.showable _ && PyData.showableAll _) = true
      rw [g1, h1]; rfl
    · show (PyData.leavesShort 60 _ && PyData.leavesShortAll 60 _) = true
      rw [g2, h2]; rfl
    · show PyData.weight i.p + 1 + PyData.weightAll (r.map U9.p) ≤ 201 * (r.length + 1)
      omega
    · show max (PyData.depth i.p) (PyData.depthAll (r.map U9.p)) ≤ 2
      omega
/-- repr of a list of these; of a list of one pair of a text and such a list -/
def cReprU9 : List V → Hp → VK → Prop := fun xs H Q => ∃ w is, Sts H w ∧ w.l ≠ sysModules ∧ List.length is ≤ 4 ∧ ∃ r, xs = [.ref r] ∧ r ≠ sysModules ∧
  ((H r = some (.lst (is.map (U9.v w))) ∧ Q (.str (PyData.shown (.list (is.map U9.p)))) H) ∨
   (∃ t q nm, H r = some (.lst [.ref t]) ∧ H t = some (.tup [.str nm, .ref q]) ∧ q ≠ sysModules ∧ H q = some (.lst (is.map (U9.v w))) ∧ PyData.leavesShort 60 (.str nm) = true ∧ PyData.weight (.str nm) ≤ 100 ∧ Q (.str (PyData.shown (.list [.tuple [.str nm, .list (is.map U9.p)]]))) H))
theorem call_reprU9 {X : Cx} (hG : GA X.A) (hu : X.A.units + 64 < cLine) : CallR X (.builtin "repr") cReprU9 := by
  intro pins s σ H xs us Q I r h
  obtain ⟨w, is, S, hn, hl, a, rfl, hr, h⟩ := h
  obtain ⟨s1, s2, s3, s4⟩ := u9_shw is
  have hz : sizeLine = 16777216 := rfl
  cases r with
  | cons r1 rn =>
    cases rn
    cases r1
    rcases h with ⟨ha, q⟩ | ⟨t, q', nm, ha, ht, nq, hq, k1, k2, q⟩
    · obtain ⟨_, its, n, rv, g1⟩ := (show ObjOk X.prog X.w H s.heap a (.lst _) from I.hok _ _ ha)
      obtain ⟨as, rd, na⟩ := u9_readsAll I S hn rv
      have rd' : Reads s.heap (.ref a) (.list (is.map U9.p)) (a :: as) := .list g1 rfl rfl rd
      refine repr_of_reads' rd' s1 (fun _ z => ?_) hG ?_ (fun _ _ e => e) (fun h' u tk hk => ⟨.str _, H, I.kept hk, ⟨_, rfl⟩, q⟩) ?_
      · rcases List.mem_cons.mp z with e | e
        · exact hr e.symm
        · exact na e
      · show X.A.units + (PyData.depthAll (is.map U9.p) + 1 + 1) < cLine
        omega
      · have z := PyData.shown_le 60 (by decide) (.list (is.map U9.p)) s2
        have e : PyData.weight (.list (is.map U9.p)) ≤ 1608 := by
          show PyData.weightAll _ ≤ _
          omega
        have e2 : (60 + 2) * PyData.weight (.list (is.map U9.p)) ≤ (60 + 2) * 1608 := Nat.mul_le_mul_left _ e
        omega
    · obtain ⟨_, its, n, rv, g1⟩ := (show ObjOk X.prog X.w H s.heap q' (.lst _) from I.hok _ _ hq)
      obtain ⟨as, rd, na⟩ := u9_readsAll I S hn rv
      have rdq : Reads s.heap (.ref q') (.list (is.map U9.p)) (q' :: as) := .list g1 rfl rfl rd
      obtain ⟨_, ts, rt, o2, g2, c2, n2, d2⟩ := (show ObjOk X.prog X.w H s.heap t (.tup _) from I.hok _ _ ht)
      obtain ⟨u1, u2, rfl, rx1, rx2⟩ := vals2 rt
      obtain ⟨tk1, rfl⟩ := rx1
      cases (show u2 = Value.ref q' from rx2)
      have rdt : Reads s.heap (.ref t) (.tuple [.str nm, .list (is.map U9.p)]) ([] ++ ((q' :: as) ++ [])) := .tuple g2 c2 d2 (.cons (.str _ _) (.cons rdq .nil))
      obtain ⟨_, ls, m, rl, g3⟩ := (show ObjOk X.prog X.w H s.heap a (.lst _) from I.hok _ _ ha)
      obtain rfl := Vals.ref1 rl
      have rda : Reads s.heap (.ref a) (.list [.tuple [.str nm, .list (is.map U9.p)]]) (a :: (([] ++ ((q' :: as) ++ [])) ++ [])) := .list g3 rfl rfl (.cons rdt .nil)
      refine repr_of_reads' rda ?_ (fun _ z => ?_) hG ?_ (fun _ _ e => e) (fun h' u tk hk => ⟨.str _, H, I.kept hk, ⟨_, rfl⟩, q⟩) ?_
      · show (PyData.showable (.tuple [.str nm, .list (is.map U9.p)]) && true) = true
        show ((PyData.showable (.str nm) && (PyData.showable (.list (is.map U9.p)) && true)) && true) = true
        rw [show PyData.showable (.list (is.map U9.p)) = true from s1]
        rfl
      · simp only [List.nil_append, List.append_nil, List.mem_cons] at z
        rcases z with e | e | e
        · exact hr e.symm
        · exact nq e.symm
        · exact na e
      · show X.A.units + (max (max 0 (max (PyData.depthAll (is.map U9.p) + 1) 0) + 1) 0 + 1 + 1) < cLine
        omega
      · have z := PyData.shown_le 60 (by decide) (.list [.tuple [.str nm, .list (is.map U9.p)]]) (by
          show ((PyData.leavesShort 60 (.str nm) && (PyData.leavesShortAll 60 (is.map U9.p) && true)) && true) = true
          rw [k1, s2]; rfl)
        have e : PyData.weight (.list [.tuple [.str nm, .list (is.map U9.p)]]) ≤ 1800 := by
          show (PyData.weight (.str nm) + 1 + (PyData.weightAll (is.map U9.p) + 1 + 0)) + 1 + 0 ≤ 1800
          omega
        have e2 : (60 + 2) * PyData.weight (.list [.tuple [.str nm, .list (is.map U9.p)]]) ≤ (60 + 2) * 1800 := Nat.mul_le_mul_left _ e
        omega
/-- xs[lo:hi] of a list: a new list that is not sys.modules -/
def rSlLN (K : PySem.W.Frag) : V → Option Int → Option Int → Hp → VK → Prop := fun x lo hi H Q => ∃ a xs, x = .ref a ∧ SqL K H a xs ∧ ∀ p, H p = none → p ≠ sysModules → Q (.ref p) (upd H p (.lst (cutV xs lo hi)))
theorem sl_listN {X : Cx} : SlR X (rSlLN X.K) := by
  intro pins s σ H x v vl vu lo hi sl Q I rx hs pl pu h
  obtain ⟨a, xs, rfl, hx, q⟩ := h
  cases rx
  obtain ⟨its, r, ht, hz⟩ := I.list hx
  have hlen := r.length
  refine ⟨"list", _, PySem.F.slot_list_getitem.lookup, ht.isList.typeIs, ?_⟩
  refine wpAny_getItem_list_slice ht.isList hs pl pu .none (by simp) ?_ (by rw [List.size_toArray] <;> omega)
  rw [slicePick_cut, ← hlen]
  refine ⟨.ref s.heap.objs.size, _, I.laid (t' := s.toks) (o := .lst (cutV xs lo hi)) (fun b ob q => Heap.get?_push_of_some _ q) (Nat.le_refl _) ?_, rfl, q _ (I.hok.fresh (Nat.le_refl _)) (Nat.ne_of_gt I.big)⟩
  exact ⟨Nat.le_trans (cutV_length xs lo hi) hz, _, 0, (r.drop (HT.sIx xs.length 0 lo)).take (HT.sIx xs.length xs.length hi - HT.sIx xs.length 0 lo), Heap.get?_push_size _ rfl⟩
end HG

namespace HG
open PySem L2
def kw_BadAnswer_init_value : List V → List V → List V := fun vs zs => vs ++ ((zs.drop 0).take 1)
def kw_BadArray_init_part : List V → List V → List V := fun vs zs => vs ++ ((zs.drop 0).take 1)
def kw_BadCommand_init_word : List V → List V → List V := fun vs zs => vs ++ ((zs.drop 0).take 1)
def kw_BadConverter_init_part : List V → List V → List V := fun vs zs => vs ++ ((zs.drop 0).take 1)
def kw_BadDeed_init_part : List V → List V → List V := fun vs zs => vs ++ ((zs.drop 0).take 1)
def kw_BadGrowth_init_part : List V → List V → List V := fun vs zs => vs ++ ((zs.drop 0).take 1)
def kw_BadLetter_init_value : List V → List V → List V := fun vs zs => vs ++ ((zs.drop 0).take 1)
def kw_BadLog_init_at : List V → List V → List V := fun vs zs => vs ++ ((zs.drop 0).take 1)
def kw_BadName_init_value : List V → List V → List V := fun vs zs => vs ++ ((zs.drop 0).take 1)
def kw_BadNumber_init_value : List V → List V → List V := fun vs zs => vs ++ ((zs.drop 0).take 1)
def kw_BadPaper_init_part : List V → List V → List V := fun vs zs => vs ++ ((zs.drop 0).take 1)
def kw_BadText_init_word_line : List V → List V → List V := fun vs zs => vs ++ ((zs.drop 1).take 1 ++ ((zs.drop 0).take 1))
def kw_BadWord_init_value : List V → List V → List V := fun vs zs => vs ++ ((zs.drop 0).take 1)
def kw_NoCell_init_value : List V → List V → List V := fun vs zs => vs ++ ((zs.drop 0).take 1)
def kw_NoRoom_init_cell : List V → List V → List V := fun vs zs => vs ++ ((zs.drop 0).take 1)
def kw_NoState_init_value : List V → List V → List V := fun vs zs => vs ++ ((zs.drop 0).take 1)
def kw_NoStep_init_state_at : List V → List V → List V := fun vs zs => vs ++ ((zs.drop 1).take 1 ++ ((zs.drop 0).take 1))
def kw_NoTail_init_state : List V → List V → List V := fun vs zs => vs ++ ((zs.drop 0).take 1)
def kw_NoText_init_value : List V → List V → List V := fun vs zs => vs ++ ((zs.drop 0).take 1)
def kw_RunOver_init_cell : List V → List V → List V := fun vs zs => vs ++ ((zs.drop 0).take 1)
def kw_Taken_init_value : List V → List V → List V := fun vs zs => vs ++ ((zs.drop 0).take 1)
def kw_TooMany_init_most_what : List V → List V → List V := fun vs zs => vs ++ ((zs.drop 1).take 1 ++ ((zs.drop 0).take 1))
structure Ad where
  c_BadName : Addr
  c_BadLetter : Addr
  c_BadAnswer : Addr
  c_BadNumber : Addr
  c_BadWord : Addr
  c_NoState : Addr
  c_NoCell : Addr
  c_NoText : Addr
  c_Taken : Addr
  c_BadConverter : Addr
  c_BadGrowth : Addr
  c_BadPaper : Addr
  c_BadArray : Addr
  c_BadDeed : Addr
  c_BadLog : Addr
  c_NoTail : Addr
  c_RunOver : Addr
  c_NoRoom : Addr
  c_BadCommand : Addr
  c_BadText : Addr
  c_NoStep : Addr
  c_TooMany : Addr
  c_Nothing : Addr
  c_HeadError : Addr
  cda_BadName : Addr
  cel_BadName : Addr
  cda_BadLetter : Addr
  cel_BadLetter : Addr
  cda_BadAnswer : Addr
  cel_BadAnswer : Addr
  cda_BadNumber : Addr
  cel_BadNumber : Addr
  cda_BadWord : Addr
  cel_BadWord : Addr
  cda_NoState : Addr
  cel_NoState : Addr
  cda_NoCell : Addr
  cel_NoCell : Addr
  cda_NoText : Addr
  cel_NoText : Addr
  cda_Taken : Addr
  cel_Taken : Addr
  cda_BadConverter : Addr
  cel_BadConverter : Addr
  cda_BadGrowth : Addr
  cel_BadGrowth : Addr
  cda_BadPaper : Addr
  cel_BadPaper : Addr
  cda_BadArray : Addr
  cel_BadArray : Addr
  cda_BadDeed : Addr
  cel_BadDeed : Addr
  cda_BadLog : Addr
  cel_BadLog : Addr
  cda_NoTail : Addr
  cel_NoTail : Addr
  cda_RunOver : Addr
  cel_RunOver : Addr
  cda_NoRoom : Addr
  cel_NoRoom : Addr
  cda_BadCommand : Addr
  cel_BadCommand : Addr
  cda_BadText : Addr
  cel_BadText : Addr
  cda_NoStep : Addr
  cel_NoStep : Addr
  cda_TooMany : Addr
  cel_TooMany : Addr
  cda_Nothing : Addr
  cel_Nothing : Addr
  f_BadName_init : Addr
  f_BadLetter_init : Addr
  f_BadAnswer_init : Addr
  f_BadNumber_init : Addr
  f_BadWord_init : Addr
  f_NoState_init : Addr
  f_NoCell_init : Addr
  f_NoText_init : Addr
  f_Taken_init : Addr
  f_BadConverter_init : Addr
  f_BadGrowth_init : Addr
  f_BadPaper_init : Addr
  f_BadArray_init : Addr
  f_BadDeed_init : Addr
  f_BadLog_init : Addr
  f_NoTail_init : Addr
  f_RunOver_init : Addr
  f_NoRoom_init : Addr
  f_BadCommand_init : Addr
  f_BadText_init : Addr
  f_NoStep_init : Addr
  f_TooMany_init : Addr
  f_Nothing_init : Addr
  f_law_pen : Addr
  f_law_draw : Addr
  f_law_pick : Addr
  f_law_made : Addr
  f_law_fields : Addr
  f_law : Addr
  d_BadName_init : FuncData
  d_BadLetter_init : FuncData
  d_BadAnswer_init : FuncData
  d_BadNumber_init : FuncData
  d_BadWord_init : FuncData
  d_NoState_init : FuncData
  d_NoCell_init : FuncData
  d_NoText_init : FuncData
  d_Taken_init : FuncData
  d_BadConverter_init : FuncData
  d_BadGrowth_init : FuncData
  d_BadPaper_init : FuncData
  d_BadArray_init : FuncData
  d_BadDeed_init : FuncData
  d_BadLog_init : FuncData
  d_NoTail_init : FuncData
  d_RunOver_init : FuncData
  d_NoRoom_init : FuncData
  d_BadCommand_init : FuncData
  d_BadText_init : FuncData
  d_NoStep_init : FuncData
  d_TooMany_init : FuncData
  d_Nothing_init : FuncData
  d_law_pen : FuncData
  d_law_draw : FuncData
  d_law_pick : FuncData
  d_law_made : FuncData
  d_law_fields : FuncData
  d_law : FuncData
def excsOf (A : Ad) : List Addr := [A.c_BadName, A.c_BadLetter, A.c_BadAnswer, A.c_BadNumber, A.c_BadWord, A.c_NoState, A.c_NoCell, A.c_NoText, A.c_Taken, A.c_BadConverter, A.c_BadGrowth, A.c_BadPaper, A.c_BadArray, A.c_BadDeed, A.c_BadLog, A.c_NoTail, A.c_RunOver, A.c_NoRoom, A.c_BadCommand, A.c_BadText, A.c_NoStep, A.c_TooMany, A.c_Nothing]
def sp_BadName_init (K : PySem.W.Frag) (A : Ad) : Sp := spX1 A.c_BadName "value"
def sp_BadLetter_init (K : PySem.W.Frag) (A : Ad) : Sp := spX1 A.c_BadLetter "value"
def sp_BadAnswer_init (K : PySem.W.Frag) (A : Ad) : Sp := spX1 A.c_BadAnswer "value"
def sp_BadNumber_init (K : PySem.W.Frag) (A : Ad) : Sp := spX1 A.c_BadNumber "value"
def sp_BadWord_init (K : PySem.W.Frag) (A : Ad) : Sp := spX1 A.c_BadWord "value"
def sp_NoState_init (K : PySem.W.Frag) (A : Ad) : Sp := spX1 A.c_NoState "value"
def sp_NoCell_init (K : PySem.W.Frag) (A : Ad) : Sp := spX1 A.c_NoCell "value"
def sp_NoText_init (K : PySem.W.Frag) (A : Ad) : Sp := spX1 A.c_NoText "value"
def sp_Taken_init (K : PySem.W.Frag) (A : Ad) : Sp := spX1 A.c_Taken "value"
def sp_BadConverter_init (K : PySem.W.Frag) (A : Ad) : Sp := spX1 A.c_BadConverter "part"
def sp_BadGrowth_init (K : PySem.W.Frag) (A : Ad) : Sp := spX1 A.c_BadGrowth "part"
def sp_BadPaper_init (K : PySem.W.Frag) (A : Ad) : Sp := spX1 A.c_BadPaper "part"
def sp_BadArray_init (K : PySem.W.Frag) (A : Ad) : Sp := spX1 A.c_BadArray "part"
def sp_BadDeed_init (K : PySem.W.Frag) (A : Ad) : Sp := spX1 A.c_BadDeed "part"
def sp_BadLog_init (K : PySem.W.Frag) (A : Ad) : Sp := spX1 A.c_BadLog "at"
def sp_NoTail_init (K : PySem.W.Frag) (A : Ad) : Sp := spX1 A.c_NoTail "state"
def sp_RunOver_init (K : PySem.W.Frag) (A : Ad) : Sp := spX1 A.c_RunOver "cell"
def sp_NoRoom_init (K : PySem.W.Frag) (A : Ad) : Sp := spX1 A.c_NoRoom "cell"
def sp_BadCommand_init (K : PySem.W.Frag) (A : Ad) : Sp := spX1 A.c_BadCommand "word"
def sp_BadText_init (K : PySem.W.Frag) (A : Ad) : Sp := spX2 A.c_BadText "line" "word"
def sp_NoStep_init (K : PySem.W.Frag) (A : Ad) : Sp := spX2 A.c_NoStep "at" "state"
def sp_TooMany_init (K : PySem.W.Frag) (A : Ad) : Sp := spX2 A.c_TooMany "what" "most"
def sp_Nothing_init (K : PySem.W.Frag) (A : Ad) : Sp := spX0 A.c_Nothing 

def sp_law_pen (K : PySem.W.Frag) (A : Ad) : Sp := spPenL K
def sp_law_draw (K : PySem.W.Frag) (A : Ad) : Sp := spDrawL
def sp_law_pick (K : PySem.W.Frag) (A : Ad) : Sp := spPickL
def t_law_pen_0 (K : PySem.W.Frag) (A : Ad) : TS := (tRet (tLst (tCons (tCB (cList K) (tCons (tSl (rSlL K) (tVar 0) tNoPart (tPart (tC (.int 63)))) tNil)) (tCons (tC (.int 0)) (tCons (tC (.int 0)) tNil)))))

def t_law_draw_3 (K : PySem.W.Frag) (A : Ad) : TS := (tRet (tVar 2))
def t_law_draw_2 (K : PySem.W.Frag) (A : Ad) : TS := (tSeq (tAsg (tOp oFdiv (tCB cInt (tCons (tOp (iIx K) (tVar 0) (tC (.int 2))) tNil)) (tVar 1)) (gSub (tVar 0) (tC (.int 2)) stL)) (t_law_draw_3 K A))
def t_law_draw_1 (K : PySem.W.Frag) (A : Ad) : TS := (tSeq (tAsg (tOp oMod (tCB cInt (tCons (tOp (iIx K) (tVar 0) (tC (.int 2))) tNil)) (tVar 1)) (gName 2)) (t_law_draw_2 K A))
def t_law_draw_8 (K : PySem.W.Frag) (A : Ad) : TS := (tAsg (tOp (iIx K) (tOp (iIx K) (tVar 0) (tC (.int 0))) (tOp oMod (tCB cInt (tCons (tVar 3) tNil)) (tCB (cLen K) (tCons (tOp (iIx K) (tVar 0) (tC (.int 0))) tNil)))) (gName 4))
def t_law_draw_12 (K : PySem.W.Frag) (A : Ad) : TS := (tRet (tOp oMod (tCB cInt (tCons (tVar 5) tNil)) (tVar 1)))
def t_law_draw_11 (K : PySem.W.Frag) (A : Ad) : TS := (tSeq (tAsg (tOp oFdiv (tCB cInt (tCons (tVar 5) tNil)) (tVar 1)) (gSub (tVar 0) (tC (.int 2)) stL)) (t_law_draw_12 K A))
def t_law_draw_10 (K : PySem.W.Frag) (A : Ad) : TS := (tSeq (tAsg (tOp oAdd (tOp oMul (tC (.int 2)) (tOp oSub (tCB cAbs (tCons (tVar 4) tNil)) (tOp oPow (tC (.int 10)) (tC (.int 18))))) (tCB cInt (tCons (tOp oLt (tVar 4) (tC (.int 0))) tNil))) (gName 5)) (t_law_draw_11 K A))
def t_law_draw_15 (K : PySem.W.Frag) (A : Ad) : TS := (tRet (tOp oMod (tCB cInt (tCons (tOp oFdiv (tVar 6) (tC (.int 32))) tNil)) (tVar 1)))
def t_law_draw_14 (K : PySem.W.Frag) (A : Ad) : TS := (tSeq (tAsg (tOp oMod (tCB cInt (tCons (tOp oPow (tOp oAdd (tOp oAdd (tOp oMul (tVar 6) (tOp oAdd (tOp oMul (tC (.int 2)) (tVar 3)) (tC (.int 587)))) (tOp oMul (tOp oMul (tC (.int 51664)) (tVar 3)) (tVar 3))) (tC (.int 288))) (tC (.int 3))) tNil)) (tC (.int 2147483563))) (gName 6)) (t_law_draw_15 K A))
def t_law_draw_13 (K : PySem.W.Frag) (A : Ad) : TS := (tSeq (tAsg (tOp oMod (tCB cInt (tCons (tOp oPow (tOp oAdd (tOp oAdd (tOp oMod (tCB cInt (tCons (tVar 4) tNil)) (tC (.int 2147483549))) (tOp oMul (tC (.int 42390)) (tVar 3))) (tC (.int 1908))) (tC (.int 5))) tNil)) (tC (.int 2147483647))) (gName 6)) (t_law_draw_14 K A))
def t_law_draw_9 (K : PySem.W.Frag) (A : Ad) : TS := (tSeq (tIfS (tAnd (tTest (tOp oLt (tVar 3) (tCB (cLen K) (tCons (tOp (iIx K) (tVar 0) (tC (.int 0))) tNil)))) (tTest (tOp oGe (tCB cAbs (tCons (tVar 4) tNil)) (tOp oPow (tC (.int 10)) (tC (.int 18)))))) (t_law_draw_10 K A) tNext) (t_law_draw_13 K A))
def t_law_draw_7 (K : PySem.W.Frag) (A : Ad) : TS := (tSeq (tIfS (tTest (tOp (oNe K) (tOp (iIx K) (tVar 0) (tC (.int 0))) (tLst tNil))) (t_law_draw_8 K A) tNext) (t_law_draw_9 K A))
def t_law_draw_6 (K : PySem.W.Frag) (A : Ad) : TS := (tSeq (tAsg (tOp oAdd (tOp oMul (tC (.int 54192)) (tVar 3)) (tC (.int 2638))) (gName 4)) (t_law_draw_7 K A))
def t_law_draw_5 (K : PySem.W.Frag) (A : Ad) : TS := (tSeq (tAsg (tOp oAdd (tVar 3) (tC (.int 1))) (gSub (tVar 0) (tC (.int 1)) stL)) (t_law_draw_6 K A))
def t_law_draw_4 (K : PySem.W.Frag) (A : Ad) : TS := (tSeq (tAsg (tOp (iIx K) (tVar 0) (tC (.int 1))) (gName 3)) (t_law_draw_5 K A))
def t_law_draw_0 (K : PySem.W.Frag) (A : Ad) : TS := (tSeq (tIfS (tTest (tOp oGt (tOp (iIx K) (tVar 0) (tC (.int 2))) (tC (.int 0)))) (t_law_draw_1 K A) tNext) (t_law_draw_4 K A))

def t_law_pick_0 (K : PySem.W.Frag) (A : Ad) : TS := (tRet (tOp (iIx K) (tVar 1) (tCall (sp_law_draw K A) [] E0 (tCons (tVar 0) (tCons (tCB (cLen K) (tCons (tVar 1) tNil)) tNil)))))

theorem pure_law_pen {K : PySem.W.Frag} {A : Ad} {vs : List V} {H : Hp} {Q : VK} {E : XK} (h : sp_law_pen K A vs H Q E) : (t_law_pen_0 K A) { nx := fun _ H' => Q .non H', rt := Q } (start ["_law_script"] vs) H := by
  unfold sp_law_pen spPenL at h
  split at h
  · rename_i a
    obtain ⟨ns, hs, k⟩ := h
    show (t_law_pen_0 K A) _ [some (.ref a)] H
    refine st_ret ?_
    (refine evE ?P1 (fun Q h => ?h1) ?_; (case h1 => (simp only [tTest, tOp, tUn, tVar, tC, tCB, tCons, tNil, tAnd, tOr, tNot, tB, tTup, tLst, tIf, tAndV, tOrV, tNotV, tSl, tPart, tNoPart, tCall, iIx_ref, oGt_int, oMod_int, oFdiv_int, oAdd_int, oAdd_str, oSub_int, oMul_int, oLt_int, oGe_int, oLe_int, oPow_int, uNeg_int, oEq_int, oEq_str, oEq_bl, oNe_int, oNe_str, oNe_bl, cInt_int, cInt_bl, cAbs_int, cLen_ref, cList_ref, stL_ref, gName, gSub, gTup, gCons, gNil, rdSeq, List.getElem?_cons_zero, List.getElem?_cons_succ, List.set_cons_zero, List.set_cons_succ, List.cons_append, List.nil_append, Option.some.injEq, exists_eq_left', V.bl.injEq, V.int.injEq, V.ref.injEq, atI_0, atI_1, atI_2, setI_1, setI_2, Bool.not_true, Bool.not_false, Bool.false_eq_true, if_false, if_true, rSlL]; exact h)); (try dsimp only [gName, tNext, List.set_cons_zero, List.set_cons_succ]))
    refine ⟨a, _, rfl, hs, fun p hp => ?_⟩
    have e1 : cutV (ns.map V.int) none (some 63) = (ns.take 63).map V.int := by
      have e2 : HT.sIx (ns.map V.int).length (ns.map V.int).length (some 63) = min 63 (ns.map V.int).length := HT.sIx_nat _ _ 63
      unfold cutV
      rw [e2, HT.sIx_none, List.drop_zero, Nat.sub_zero, List.map_take, List.take_eq_take_iff]
      omega
    rw [e1, upd_same]
    intro l hl
    refine ⟨by show 3 ≤ sizeLine; decide, fun q hq => ?_⟩
    have hlp : l ≠ p := fun z => by rw [z, upd_same] at hl; cases hl
    have hlq : l ≠ q := fun z => by rw [← z, upd_same] at hq; cases hq
    refine k q l _ ⟨ns.take 63, 0, 0, upd_same, ?_, ?_, by decide, by decide, by decide⟩ (fun b o e => ?_) ?_
    · rw [upd_ne hlq, upd_same]
    · rw [List.length_take]; omega
    · have g1 : Grow H (upd H p (.lst ((ns.take 63).map V.int))) := Grow.new hp
      exact (g1.trans ((Grow.new hl).trans (Grow.new hq))) b o e
    · cases e : H q with
      | none => rfl
      | some o =>
        have g1 : Grow H (upd H p (.lst ((ns.take 63).map V.int))) := Grow.new hp
        rw [(g1.trans (Grow.new hl)) q o e] at hq
        cases hq
  · exact h.elim
theorem pure_law_draw {K : PySem.W.Frag} {A : Ad} {vs : List V} {H : Hp} {Q : VK} {E : XK} (h : sp_law_draw K A vs H Q E) : (t_law_draw_0 K A) { nx := fun _ H' => Q .non H', rt := Q } (start ["_law_pen_here", "_law_many", "_law_digit", "_law_turn", "_law_cell", "_law_great", "_law_blend"] vs) H := by
  unfold sp_law_draw spDrawL at h
  split at h
  · rename_i p many
    obtain ⟨l, n, ⟨cells, turn, rest, hp, hl, hc, ht0, ht1, hr0⟩, hn, hm0, hm1, k⟩ := h
    have k : ∀ (d turn' rest' : Int) (H' : Hp), 0 ≤ d → d < many → turn ≤ turn' → turn' ≤ turn + 1 → 0 ≤ rest' → H' p = some (.lst [.ref l, .int turn', .int rest']) → Keep p H H' → Q (.int d) H' := by
      intro d turn' rest' H' h1 h2 h3 h4 h5 h6 h7
      refine k d H' h1 h2 ⟨cells, turn', rest', h6, h7 l _ ?_ hl, hc, by omega, by omega, h5⟩ h7
      rintro rfl
      rw [hp] at hl
      cases cells <;> cases hl
    have ht1 : turn ≤ 1000000 := by omega
    show (t_law_draw_0 K A) _ [some (.ref p), some (.int many), none, none, none, none, none] H
    refine st_seq (st_if ?_)
    (refine evT ?P2 (fun Q h => ?h2) ?_; (case h2 => (simp only [tTest, tOp, tUn, tVar, tC, tCB, tCons, tNil, tAnd, tOr, tNot, tB, tTup, tLst, tIf, tAndV, tOrV, tNotV, tSl, tPart, tNoPart, tCall, iIx_ref, oGt_int, oMod_int, oFdiv_int, oAdd_int, oAdd_str, oSub_int, oMul_int, oLt_int, oGe_int, oLe_int, oPow_int, uNeg_int, oEq_int, oEq_str, oEq_bl, oNe_int, oNe_str, oNe_bl, cInt_int, cInt_bl, cAbs_int, cLen_ref, cList_ref, stL_ref, gName, gSub, gTup, gCons, gNil, rdSeq, List.getElem?_cons_zero, List.getElem?_cons_succ, List.set_cons_zero, List.set_cons_succ, List.cons_append, List.nil_append, Option.some.injEq, exists_eq_left', V.bl.injEq, V.int.injEq, V.ref.injEq, atI_0, atI_1, atI_2, setI_1, setI_2, Bool.not_true, Bool.not_false, Bool.false_eq_true, if_false, if_true, hp]; exact h)); (try dsimp only [gName, tNext, List.set_cons_zero, List.set_cons_succ]))
    refine ite_dec (fun hrest => ?_) (fun hrest => ?_)
    all_goals (try dsimp only [gName, tNext, List.set_cons_zero, List.set_cons_succ])
    · refine st_seq (st_asg ?_)
      (refine evE ?P3 (fun Q h => ?h3) ?_; (case h3 => (simp only [tTest, tOp, tUn, tVar, tC, tCB, tCons, tNil, tAnd, tOr, tNot, tB, tTup, tLst, tIf, tAndV, tOrV, tNotV, tSl, tPart, tNoPart, tCall, iIx_ref, oGt_int, oMod_int, oFdiv_int, oAdd_int, oAdd_str, oSub_int, oMul_int, oLt_int, oGe_int, oLe_int, oPow_int, uNeg_int, oEq_int, oEq_str, oEq_bl, oNe_int, oNe_str, oNe_bl, cInt_int, cInt_bl, cAbs_int, cLen_ref, cList_ref, stL_ref, gName, gSub, gTup, gCons, gNil, rdSeq, List.getElem?_cons_zero, List.getElem?_cons_succ, List.set_cons_zero, List.set_cons_succ, List.cons_append, List.nil_append, Option.some.injEq, exists_eq_left', V.bl.injEq, V.int.injEq, V.ref.injEq, atI_0, atI_1, atI_2, setI_1, setI_2, Bool.not_true, Bool.not_false, Bool.false_eq_true, if_false, if_true, hp]; exact h)); (try dsimp only [gName, tNext, List.set_cons_zero, List.set_cons_succ]))
      refine ⟨hm0, ?_⟩
      (try dsimp only [gName, tNext, List.set_cons_zero, List.set_cons_succ])
      refine st_seq (st_asg ?_)
      (refine evE ?P4 (fun Q h => ?h4) ?_; (case h4 => (simp only [tTest, tOp, tUn, tVar, tC, tCB, tCons, tNil, tAnd, tOr, tNot, tB, tTup, tLst, tIf, tAndV, tOrV, tNotV, tSl, tPart, tNoPart, tCall, iIx_ref, oGt_int, oMod_int, oFdiv_int, oAdd_int, oAdd_str, oSub_int, oMul_int, oLt_int, oGe_int, oLe_int, oPow_int, uNeg_int, oEq_int, oEq_str, oEq_bl, oNe_int, oNe_str, oNe_bl, cInt_int, cInt_bl, cAbs_int, cLen_ref, cList_ref, stL_ref, gName, gSub, gTup, gCons, gNil, rdSeq, List.getElem?_cons_zero, List.getElem?_cons_succ, List.set_cons_zero, List.set_cons_succ, List.cons_append, List.nil_append, Option.some.injEq, exists_eq_left', V.bl.injEq, V.int.injEq, V.ref.injEq, atI_0, atI_1, atI_2, setI_1, setI_2, Bool.not_true, Bool.not_false, Bool.false_eq_true, if_false, if_true, hp]; exact h)); (try dsimp only [gName, tNext, List.set_cons_zero, List.set_cons_succ]))
      refine ⟨⟨hm0, hm1⟩, ?_⟩
      (try dsimp only [gName, tNext, List.set_cons_zero, List.set_cons_succ])
      (refine evG ?P5 (fun Q h => ?h5) ?_; (case h5 => (simp only [tTest, tOp, tUn, tVar, tC, tCB, tCons, tNil, tAnd, tOr, tNot, tB, tTup, tLst, tIf, tAndV, tOrV, tNotV, tSl, tPart, tNoPart, tCall, iIx_ref, oGt_int, oMod_int, oFdiv_int, oAdd_int, oAdd_str, oSub_int, oMul_int, oLt_int, oGe_int, oLe_int, oPow_int, uNeg_int, oEq_int, oEq_str, oEq_bl, oNe_int, oNe_str, oNe_bl, cInt_int, cInt_bl, cAbs_int, cLen_ref, cList_ref, stL_ref, gName, gSub, gTup, gCons, gNil, rdSeq, List.getElem?_cons_zero, List.getElem?_cons_succ, List.set_cons_zero, List.set_cons_succ, List.cons_append, List.nil_append, Option.some.injEq, exists_eq_left', V.bl.injEq, V.int.injEq, V.ref.injEq, atI_0, atI_1, atI_2, setI_1, setI_2, Bool.not_true, Bool.not_false, Bool.false_eq_true, if_false, if_true, hp]; exact h)); (try dsimp only [gName, tNext, List.set_cons_zero, List.set_cons_succ]))
      refine st_ret ?_
      (refine evE ?P6 (fun Q h => ?h6) ?_; (case h6 => (simp only [tTest, tOp, tUn, tVar, tC, tCB, tCons, tNil, tAnd, tOr, tNot, tB, tTup, tLst, tIf, tAndV, tOrV, tNotV, tSl, tPart, tNoPart, tCall, iIx_ref, oGt_int, oMod_int, oFdiv_int, oAdd_int, oAdd_str, oSub_int, oMul_int, oLt_int, oGe_int, oLe_int, oPow_int, uNeg_int, oEq_int, oEq_str, oEq_bl, oNe_int, oNe_str, oNe_bl, cInt_int, cInt_bl, cAbs_int, cLen_ref, cList_ref, stL_ref, gName, gSub, gTup, gCons, gNil, rdSeq, List.getElem?_cons_zero, List.getElem?_cons_succ, List.set_cons_zero, List.set_cons_succ, List.cons_append, List.nil_append, Option.some.injEq, exists_eq_left', V.bl.injEq, V.int.injEq, V.ref.injEq, atI_0, atI_1, atI_2, setI_1, setI_2, Bool.not_true, Bool.not_false, Bool.false_eq_true, if_false, if_true]; exact h)); (try dsimp only [gName, tNext, List.set_cons_zero, List.set_cons_succ]))
      exact k _ turn _ _ (Int.emod_nonneg _ (by omega)) (Int.emod_lt_of_pos _ hm0) (by omega) (by omega) (Int.ediv_nonneg hr0 (by omega)) upd_same fun b o hb e => by rw [upd_ne hb]; exact e
    · refine st_seq (st_asg ?_)
      (refine evE ?P7 (fun Q h => ?h7) ?_; (case h7 => (simp only [tTest, tOp, tUn, tVar, tC, tCB, tCons, tNil, tAnd, tOr, tNot, tB, tTup, tLst, tIf, tAndV, tOrV, tNotV, tSl, tPart, tNoPart, tCall, iIx_ref, oGt_int, oMod_int, oFdiv_int, oAdd_int, oAdd_str, oSub_int, oMul_int, oLt_int, oGe_int, oLe_int, oPow_int, uNeg_int, oEq_int, oEq_str, oEq_bl, oNe_int, oNe_str, oNe_bl, cInt_int, cInt_bl, cAbs_int, cLen_ref, cList_ref, stL_ref, gName, gSub, gTup, gCons, gNil, rdSeq, List.getElem?_cons_zero, List.getElem?_cons_succ, List.set_cons_zero, List.set_cons_succ, List.cons_append, List.nil_append, Option.some.injEq, exists_eq_left', V.bl.injEq, V.int.injEq, V.ref.injEq, atI_0, atI_1, atI_2, setI_1, setI_2, Bool.not_true, Bool.not_false, Bool.false_eq_true, if_false, if_true, hp]; exact h)); (try dsimp only [gName, tNext, List.set_cons_zero, List.set_cons_succ]))
      refine st_seq (st_asg ?_)
      (refine evE ?P8 (fun Q h => ?h8) ?_; (case h8 => (simp only [tTest, tOp, tUn, tVar, tC, tCB, tCons, tNil, tAnd, tOr, tNot, tB, tTup, tLst, tIf, tAndV, tOrV, tNotV, tSl, tPart, tNoPart, tCall, iIx_ref, oGt_int, oMod_int, oFdiv_int, oAdd_int, oAdd_str, oSub_int, oMul_int, oLt_int, oGe_int, oLe_int, oPow_int, uNeg_int, oEq_int, oEq_str, oEq_bl, oNe_int, oNe_str, oNe_bl, cInt_int, cInt_bl, cAbs_int, cLen_ref, cList_ref, stL_ref, gName, gSub, gTup, gCons, gNil, rdSeq, List.getElem?_cons_zero, List.getElem?_cons_succ, List.set_cons_zero, List.set_cons_succ, List.cons_append, List.nil_append, Option.some.injEq, exists_eq_left', V.bl.injEq, V.int.injEq, V.ref.injEq, atI_0, atI_1, atI_2, setI_1, setI_2, Bool.not_true, Bool.not_false, Bool.false_eq_true, if_false, if_true, hp]; exact h)); (try dsimp only [gName, tNext, List.set_cons_zero, List.set_cons_succ]))
      (refine evG ?P9 (fun Q h => ?h9) ?_; (case h9 => (simp only [tTest, tOp, tUn, tVar, tC, tCB, tCons, tNil, tAnd, tOr, tNot, tB, tTup, tLst, tIf, tAndV, tOrV, tNotV, tSl, tPart, tNoPart, tCall, iIx_ref, oGt_int, oMod_int, oFdiv_int, oAdd_int, oAdd_str, oSub_int, oMul_int, oLt_int, oGe_int, oLe_int, oPow_int, uNeg_int, oEq_int, oEq_str, oEq_bl, oNe_int, oNe_str, oNe_bl, cInt_int, cInt_bl, cAbs_int, cLen_ref, cList_ref, stL_ref, gName, gSub, gTup, gCons, gNil, rdSeq, List.getElem?_cons_zero, List.getElem?_cons_succ, List.set_cons_zero, List.set_cons_succ, List.cons_append, List.nil_append, Option.some.injEq, exists_eq_left', V.bl.injEq, V.int.injEq, V.ref.injEq, atI_0, atI_1, atI_2, setI_1, setI_2, Bool.not_true, Bool.not_false, Bool.false_eq_true, if_false, if_true, hp]; exact h)); (try dsimp only [gName, tNext, List.set_cons_zero, List.set_cons_succ]))
      refine st_seq (st_asg ?_)
      (refine evE ?P10 (fun Q h => ?h10) ?_; (case h10 => (simp only [tTest, tOp, tUn, tVar, tC, tCB, tCons, tNil, tAnd, tOr, tNot, tB, tTup, tLst, tIf, tAndV, tOrV, tNotV, tSl, tPart, tNoPart, tCall, iIx_ref, oGt_int, oMod_int, oFdiv_int, oAdd_int, oAdd_str, oSub_int, oMul_int, oLt_int, oGe_int, oLe_int, oPow_int, uNeg_int, oEq_int, oEq_str, oEq_bl, oNe_int, oNe_str, oNe_bl, cInt_int, cInt_bl, cAbs_int, cLen_ref, cList_ref, stL_ref, gName, gSub, gTup, gCons, gNil, rdSeq, List.getElem?_cons_zero, List.getElem?_cons_succ, List.set_cons_zero, List.set_cons_succ, List.cons_append, List.nil_append, Option.some.injEq, exists_eq_left', V.bl.injEq, V.int.injEq, V.ref.injEq, atI_0, atI_1, atI_2, setI_1, setI_2, Bool.not_true, Bool.not_false, Bool.false_eq_true, if_false, if_true, hp]; exact h)); (try dsimp only [gName, tNext, List.set_cons_zero, List.set_cons_succ]))
      refine ⟨.of_left (intBits_le_64 (by omega) (by omega)), ?_⟩
      refine st_seq (st_if ?_)
      (refine evT ?P11 (fun Q h => ?h11) ?_; (case h11 => (simp only [tTest, tOp, tUn, tVar, tC, tCB, tCons, tNil, tAnd, tOr, tNot, tB, tTup, tLst, tIf, tAndV, tOrV, tNotV, tSl, tPart, tNoPart, tCall, iIx_ref, oGt_int, oMod_int, oFdiv_int, oAdd_int, oAdd_str, oSub_int, oMul_int, oLt_int, oGe_int, oLe_int, oPow_int, uNeg_int, oEq_int, oEq_str, oEq_bl, oNe_int, oNe_str, oNe_bl, cInt_int, cInt_bl, cAbs_int, cLen_ref, cList_ref, stL_ref, gName, gSub, gTup, gCons, gNil, rdSeq, List.getElem?_cons_zero, List.getElem?_cons_succ, List.set_cons_zero, List.set_cons_succ, List.cons_append, List.nil_append, Option.some.injEq, exists_eq_left', V.bl.injEq, V.int.injEq, V.ref.injEq, atI_0, atI_1, atI_2, setI_1, setI_2, Bool.not_true, Bool.not_false, Bool.false_eq_true, if_false, if_true, hp, upd_same]; exact h)); (try dsimp only [gName, tNext, List.set_cons_zero, List.set_cons_succ]))
      refine ⟨by decide, fun q hq => ?_⟩
      have npl : l ≠ p := by
        rintro rfl
        rw [hp] at hl
        cases cells <;> cases hl
      have hpq : q ≠ p := fun e => by rw [e, upd_same] at hq; cases hq
      have hq' : H q = none := by rw [upd_ne hpq] at hq; exact hq
      have hlq : l ≠ q := fun e => by rw [← e, hl] at hq'; cases hq'
      generalize hH2 : upd (upd H p (.lst [.ref l, .int (turn + 1), .int rest])) q (.lst []) = H2
      have h2p : H2 p = some (.lst [.ref l, .int (turn + 1), .int rest]) := by rw [← hH2, upd_ne hpq.symm, upd_same]
      have h2l : H2 l = some (.lst (cells.map V.int)) := by rw [← hH2, upd_ne hlq, upd_ne npl]; exact hl
      have h2q : H2 q = some (.lst []) := by rw [← hH2, upd_same]
      have k2 : Keep p H H2 := fun b o hb e => by
        rw [← hH2, upd_ne (fun z => by rw [z, hq'] at e; cases e), upd_ne hb]; exact e
      refine ne_nil h2l h2q ⟨_, rfl, ?_⟩
      have tail : ∀ cell : Int, t_law_draw_13 K A { nx := fun _ H' => Q .non H', rt := Q } [some (.ref p), some (.int many), none, some (.int turn), some (.int cell), none, none] H2 := by
        intro cell
        refine st_seq (st_asg ?_)
        (refine evE ?P12 (fun Q h => ?h12) ?_; (case h12 => (simp only [tTest, tOp, tUn, tVar, tC, tCB, tCons, tNil, tAnd, tOr, tNot, tB, tTup, tLst, tIf, tAndV, tOrV, tNotV, tSl, tPart, tNoPart, tCall, iIx_ref, oGt_int, oMod_int, oFdiv_int, oAdd_int, oAdd_str, oSub_int, oMul_int, oLt_int, oGe_int, oLe_int, oPow_int, uNeg_int, oEq_int, oEq_str, oEq_bl, oNe_int, oNe_str, oNe_bl, cInt_int, cInt_bl, cAbs_int, cLen_ref, cList_ref, stL_ref, gName, gSub, gTup, gCons, gNil, rdSeq, List.getElem?_cons_zero, List.getElem?_cons_succ, List.set_cons_zero, List.set_cons_succ, List.cons_append, List.nil_append, Option.some.injEq, exists_eq_left', V.bl.injEq, V.int.injEq, V.ref.injEq, atI_0, atI_1, atI_2, setI_1, setI_2, Bool.not_true, Bool.not_false, Bool.false_eq_true, if_false, if_true]; exact h)); (try dsimp only [gName, tNext, List.set_cons_zero, List.set_cons_succ]))
        have hx := mod_range (x := cell) (m := 2147483549) (by decide)
        refine ⟨by decide, mulok_left (by decide) (by decide), ⟨by decide, by decide, draw_pow1 hx.1 (by omega) ht0 ht1 (by decide) (by decide) (by decide) (by decide)⟩, by decide, ?_⟩
        (try dsimp only [gName, tNext, List.set_cons_zero, List.set_cons_succ])
        generalize hm : ((cell % 2147483549 + 42390 * turn + 1908) ^ Int.toNat 5 % 2147483647) = mixed
        have hmx : 0 ≤ mixed ∧ mixed < 2147483647 := by rw [← hm]; exact mod_range (by decide)
        refine st_seq (st_asg ?_)
        (refine evE ?P13 (fun Q h => ?h13) ?_; (case h13 => (simp only [tTest, tOp, tUn, tVar, tC, tCB, tCons, tNil, tAnd, tOr, tNot, tB, tTup, tLst, tIf, tAndV, tOrV, tNotV, tSl, tPart, tNoPart, tCall, iIx_ref, oGt_int, oMod_int, oFdiv_int, oAdd_int, oAdd_str, oSub_int, oMul_int, oLt_int, oGe_int, oLe_int, oPow_int, uNeg_int, oEq_int, oEq_str, oEq_bl, oNe_int, oNe_str, oNe_bl, cInt_int, cInt_bl, cAbs_int, cLen_ref, cList_ref, stL_ref, gName, gSub, gTup, gCons, gNil, rdSeq, List.getElem?_cons_zero, List.getElem?_cons_succ, List.set_cons_zero, List.set_cons_succ, List.cons_append, List.nil_append, Option.some.injEq, exists_eq_left', V.bl.injEq, V.int.injEq, V.ref.injEq, atI_0, atI_1, atI_2, setI_1, setI_2, Bool.not_true, Bool.not_false, Bool.false_eq_true, if_false, if_true]; exact h)); (try dsimp only [gName, tNext, List.set_cons_zero, List.set_cons_succ]))
        refine ⟨mulok_left (by decide) (by decide), mulok_left (by omega) (by omega), mulok_left (by decide) (by decide), draw_bt ht0 ht1 (by decide) (by decide), ⟨by decide, by decide, draw_pow2 hmx.1 (by omega) ht0 ht1 (by decide) (by decide) (by decide) (by decide) (by decide) (by decide)⟩, by decide, ?_⟩
        (try dsimp only [gName, tNext, List.set_cons_zero, List.set_cons_succ])
        refine st_ret ?_
        (refine evE ?P14 (fun Q h => ?h14) ?_; (case h14 => (simp only [tTest, tOp, tUn, tVar, tC, tCB, tCons, tNil, tAnd, tOr, tNot, tB, tTup, tLst, tIf, tAndV, tOrV, tNotV, tSl, tPart, tNoPart, tCall, iIx_ref, oGt_int, oMod_int, oFdiv_int, oAdd_int, oAdd_str, oSub_int, oMul_int, oLt_int, oGe_int, oLe_int, oPow_int, uNeg_int, oEq_int, oEq_str, oEq_bl, oNe_int, oNe_str, oNe_bl, cInt_int, cInt_bl, cAbs_int, cLen_ref, cList_ref, stL_ref, gName, gSub, gTup, gCons, gNil, rdSeq, List.getElem?_cons_zero, List.getElem?_cons_succ, List.set_cons_zero, List.set_cons_succ, List.cons_append, List.nil_append, Option.some.injEq, exists_eq_left', V.bl.injEq, V.int.injEq, V.ref.injEq, atI_0, atI_1, atI_2, setI_1, setI_2, Bool.not_true, Bool.not_false, Bool.false_eq_true, if_false, if_true]; exact h)); (try dsimp only [gName, tNext, List.set_cons_zero, List.set_cons_succ]))
        refine ⟨⟨by decide, by decide⟩, hm0, ?_⟩
        exact k _ (turn + 1) _ _ (mod_range hm0).1 (mod_range hm0).2 (by omega) (by omega) hr0 h2p k2
      -- both ways go on with a cell
      have go : ∀ cell : Int, t_law_draw_9 K A { nx := fun _ H' => Q .non H', rt := Q } [some (.ref p), some (.int many), none, some (.int turn), some (.int cell), none, none] H2 := by
        intro cell
        refine st_seq (st_if ?_)
        (refine evT ?P15 (fun Q h => ?h15) ?_; (case h15 => (simp only [tTest, tOp, tUn, tVar, tC, tCB, tCons, tNil, tAnd, tOr, tNot, tB, tTup, tLst, tIf, tAndV, tOrV, tNotV, tSl, tPart, tNoPart, tCall, iIx_ref, oGt_int, oMod_int, oFdiv_int, oAdd_int, oAdd_str, oSub_int, oMul_int, oLt_int, oGe_int, oLe_int, oPow_int, uNeg_int, oEq_int, oEq_str, oEq_bl, oNe_int, oNe_str, oNe_bl, cInt_int, cInt_bl, cAbs_int, cLen_ref, cList_ref, stL_ref, gName, gSub, gTup, gCons, gNil, rdSeq, List.getElem?_cons_zero, List.getElem?_cons_succ, List.set_cons_zero, List.set_cons_succ, List.cons_append, List.nil_append, Option.some.injEq, exists_eq_left', V.bl.injEq, V.int.injEq, V.ref.injEq, atI_0, atI_1, atI_2, setI_1, setI_2, Bool.not_true, Bool.not_false, Bool.false_eq_true, if_false, if_true, h2p, h2l]; exact h)); (try dsimp only [gName, tNext, List.set_cons_zero, List.set_cons_succ]))
        refine ite_dec (fun hc1 => ?_) (fun hc1 => ?_)
        all_goals (try dsimp only [gName, tNext, List.set_cons_zero, List.set_cons_succ])
        · refine ⟨⟨by decide, by decide, by decide⟩, ?_⟩
          refine ite_dec (fun hc2 => ?_) (fun hc2 => ?_)
          all_goals (try dsimp only [gName, tNext, List.set_cons_zero, List.set_cons_succ])
          · refine st_seq (st_asg ?_)
            (refine evE ?P16 (fun Q h => ?h16) ?_; (case h16 => (simp only [tTest, tOp, tUn, tVar, tC, tCB, tCons, tNil, tAnd, tOr, tNot, tB, tTup, tLst, tIf, tAndV, tOrV, tNotV, tSl, tPart, tNoPart, tCall, iIx_ref, oGt_int, oMod_int, oFdiv_int, oAdd_int, oAdd_str, oSub_int, oMul_int, oLt_int, oGe_int, oLe_int, oPow_int, uNeg_int, oEq_int, oEq_str, oEq_bl, oNe_int, oNe_str, oNe_bl, cInt_int, cInt_bl, cAbs_int, cLen_ref, cList_ref, stL_ref, gName, gSub, gTup, gCons, gNil, rdSeq, List.getElem?_cons_zero, List.getElem?_cons_succ, List.set_cons_zero, List.set_cons_succ, List.cons_append, List.nil_append, Option.some.injEq, exists_eq_left', V.bl.injEq, V.int.injEq, V.ref.injEq, atI_0, atI_1, atI_2, setI_1, setI_2, Bool.not_true, Bool.not_false, Bool.false_eq_true, if_false, if_true]; exact h)); (try dsimp only [gName, tNext, List.set_cons_zero, List.set_cons_succ]))
            refine ⟨⟨by decide, by decide, by decide⟩, mulok_left (by decide) (by decide), ?_⟩
            (try dsimp only [gName, tNext, List.set_cons_zero, List.set_cons_succ])
            refine st_seq (st_asg ?_)
            (refine evE ?P17 (fun Q h => ?h17) ?_; (case h17 => (simp only [tTest, tOp, tUn, tVar, tC, tCB, tCons, tNil, tAnd, tOr, tNot, tB, tTup, tLst, tIf, tAndV, tOrV, tNotV, tSl, tPart, tNoPart, tCall, iIx_ref, oGt_int, oMod_int, oFdiv_int, oAdd_int, oAdd_str, oSub_int, oMul_int, oLt_int, oGe_int, oLe_int, oPow_int, uNeg_int, oEq_int, oEq_str, oEq_bl, oNe_int, oNe_str, oNe_bl, cInt_int, cInt_bl, cAbs_int, cLen_ref, cList_ref, stL_ref, gName, gSub, gTup, gCons, gNil, rdSeq, List.getElem?_cons_zero, List.getElem?_cons_succ, List.set_cons_zero, List.set_cons_succ, List.cons_append, List.nil_append, Option.some.injEq, exists_eq_left', V.bl.injEq, V.int.injEq, V.ref.injEq, atI_0, atI_1, atI_2, setI_1, setI_2, Bool.not_true, Bool.not_false, Bool.false_eq_true, if_false, if_true]; exact h)); (try dsimp only [gName, tNext, List.set_cons_zero, List.set_cons_succ]))
            refine ⟨⟨hm0, hm1⟩, ?_⟩
            (refine evG ?P18 (fun Q h => ?h18) ?_; (case h18 => (simp only [tTest, tOp, tUn, tVar, tC, tCB, tCons, tNil, tAnd, tOr, tNot, tB, tTup, tLst, tIf, tAndV, tOrV, tNotV, tSl, tPart, tNoPart, tCall, iIx_ref, oGt_int, oMod_int, oFdiv_int, oAdd_int, oAdd_str, oSub_int, oMul_int, oLt_int, oGe_int, oLe_int, oPow_int, uNeg_int, oEq_int, oEq_str, oEq_bl, oNe_int, oNe_str, oNe_bl, cInt_int, cInt_bl, cAbs_int, cLen_ref, cList_ref, stL_ref, gName, gSub, gTup, gCons, gNil, rdSeq, List.getElem?_cons_zero, List.getElem?_cons_succ, List.set_cons_zero, List.set_cons_succ, List.cons_append, List.nil_append, Option.some.injEq, exists_eq_left', V.bl.injEq, V.int.injEq, V.ref.injEq, atI_0, atI_1, atI_2, setI_1, setI_2, Bool.not_true, Bool.not_false, Bool.false_eq_true, if_false, if_true, h2p]; exact h)); (try dsimp only [gName, tNext, List.set_cons_zero, List.set_cons_succ]))
            refine st_ret ?_
            (refine evE ?P19 (fun Q h => ?h19) ?_; (case h19 => (simp only [tTest, tOp, tUn, tVar, tC, tCB, tCons, tNil, tAnd, tOr, tNot, tB, tTup, tLst, tIf, tAndV, tOrV, tNotV, tSl, tPart, tNoPart, tCall, iIx_ref, oGt_int, oMod_int, oFdiv_int, oAdd_int, oAdd_str, oSub_int, oMul_int, oLt_int, oGe_int, oLe_int, oPow_int, uNeg_int, oEq_int, oEq_str, oEq_bl, oNe_int, oNe_str, oNe_bl, cInt_int, cInt_bl, cAbs_int, cLen_ref, cList_ref, stL_ref, gName, gSub, gTup, gCons, gNil, rdSeq, List.getElem?_cons_zero, List.getElem?_cons_succ, List.set_cons_zero, List.set_cons_succ, List.cons_append, List.nil_append, Option.some.injEq, exists_eq_left', V.bl.injEq, V.int.injEq, V.ref.injEq, atI_0, atI_1, atI_2, setI_1, setI_2, Bool.not_true, Bool.not_false, Bool.false_eq_true, if_false, if_true]; exact h)); (try dsimp only [gName, tNext, List.set_cons_zero, List.set_cons_succ]))
            refine ⟨hm0, ?_⟩
            refine k _ (turn + 1) _ _ (mod_range hm0).1 (mod_range hm0).2 (by omega) (by omega) (Int.ediv_nonneg ?_ (by omega)) upd_same fun b o hb e => by rw [upd_ne hb]; exact k2 b o hb e
            have e18 : (10 : Int) ^ Int.toNat 18 = 1000000000000000000 := by decide
            rw [e18] at hc2 ⊢
            split <;> split at hc2 <;> split <;> omega
          · exact tail cell
        · exact tail cell
      refine ite_b (fun hb => ?_) (fun _ => go _)
      refine st_asg ?_
      have hne : cells ≠ [] := by
        rintro rfl
        cases hb
      have hpos : 0 < cells.length := List.length_pos_iff.mpr hne
      have hi : turn % (cells.length : Int) < cells.length := (mod_range (by omega)).2
      have hi0 : 0 ≤ turn % (cells.length : Int) := (mod_range (by omega)).1
      have hat : atI (cells.map V.int) (turn % ((cells.map V.int).length : Int)) = some (.int (cells.getD (turn % (cells.length : Int)).toNat 0)) := by
        refine atI_nat' (by rw [List.length_map]; exact hi0) ?_
        rw [List.length_map, List.getElem?_map, List.getD_eq_getElem?_getD, List.getElem?_eq_getElem (by omega)]
        rfl
      (refine evE ?P20 (fun Q h => ?h20) ?_; (case h20 => (simp only [tTest, tOp, tUn, tVar, tC, tCB, tCons, tNil, tAnd, tOr, tNot, tB, tTup, tLst, tIf, tAndV, tOrV, tNotV, tSl, tPart, tNoPart, tCall, iIx_ref, oGt_int, oMod_int, oFdiv_int, oAdd_int, oAdd_str, oSub_int, oMul_int, oLt_int, oGe_int, oLe_int, oPow_int, uNeg_int, oEq_int, oEq_str, oEq_bl, oNe_int, oNe_str, oNe_bl, cInt_int, cInt_bl, cAbs_int, cLen_ref, cList_ref, stL_ref, gName, gSub, gTup, gCons, gNil, rdSeq, List.getElem?_cons_zero, List.getElem?_cons_succ, List.set_cons_zero, List.set_cons_succ, List.cons_append, List.nil_append, Option.some.injEq, exists_eq_left', V.bl.injEq, V.int.injEq, V.ref.injEq, atI_0, atI_1, atI_2, setI_1, setI_2, Bool.not_true, Bool.not_false, Bool.false_eq_true, if_false, if_true, h2p, h2l, hat]; exact h)); (try dsimp only [gName, tNext, List.set_cons_zero, List.set_cons_succ]))
      refine ⟨by rw [List.length_map]; omega, ?_⟩
      exact go _
  · exact h.elim
theorem pure_law_pick {K : PySem.W.Frag} {A : Ad} {vs : List V} {H : Hp} {Q : VK} {E : XK} (h : sp_law_pick K A vs H Q E) : (t_law_pick_0 K A) { nx := fun _ H' => Q .non H', rt := Q } (start ["_law_pen_here", "_law_some"] vs) H := by
  unfold sp_law_pick spPickL at h
  split at h
  · rename_i p s
    obtain ⟨l, n, xs, hp, hn, hs, hsp, hx, hl, k⟩ := h
    show (t_law_pick_0 K A) _ [some (.ref p), some (.ref s)] H
    refine st_ret ?_
    (refine evE ?P21 (fun Q h => ?h21) ?_; (case h21 => (simp only [tTest, tOp, tUn, tVar, tC, tCB, tCons, tNil, tAnd, tOr, tNot, tB, tTup, tLst, tIf, tAndV, tOrV, tNotV, tSl, tPart, tNoPart, tCall, iIx_ref, oGt_int, oMod_int, oFdiv_int, oAdd_int, oAdd_str, oSub_int, oMul_int, oLt_int, oGe_int, oLe_int, oPow_int, uNeg_int, oEq_int, oEq_str, oEq_bl, oNe_int, oNe_str, oNe_bl, cInt_int, cInt_bl, cAbs_int, cLen_ref, cList_ref, stL_ref, gName, gSub, gTup, gCons, gNil, rdSeq, List.getElem?_cons_zero, List.getElem?_cons_succ, List.set_cons_zero, List.set_cons_succ, List.cons_append, List.nil_append, Option.some.injEq, exists_eq_left', V.bl.injEq, V.int.injEq, V.ref.injEq, atI_0, atI_1, atI_2, setI_1, setI_2, Bool.not_true, Bool.not_false, Bool.false_eq_true, if_false, if_true, hs]; exact h)); (try dsimp only [gName, tNext, List.set_cons_zero, List.set_cons_succ]))
    have hpos : 0 < xs.length := List.length_pos_iff.mpr hx
    refine ⟨l, n, hp, hn, by omega, log_small (by omega) (by omega), fun d H' h0 h1 hp' kp => ?_⟩
    have e : atI xs d = some xs[d.toNat] := atI_nat' h0 (List.getElem?_eq_getElem (by omega))
    have hs' := kp s _ hsp hs
    simp only [tTest, tOp, tUn, tVar, tC, tCB, tCons, tNil, tAnd, tOr, tNot, tB, tTup, tLst, tIf, tAndV, tOrV, tNotV, tSl, tPart, tNoPart, tCall, iIx_ref, oGt_int, oMod_int, oFdiv_int, oAdd_int, oAdd_str, oSub_int, oMul_int, oLt_int, oGe_int, oLe_int, oPow_int, uNeg_int, oEq_int, oEq_str, oEq_bl, oNe_int, oNe_str, oNe_bl, cInt_int, cInt_bl, cAbs_int, cLen_ref, cList_ref, stL_ref, gName, gSub, gTup, gCons, gNil, rdSeq, List.getElem?_cons_zero, List.getElem?_cons_succ, List.set_cons_zero, List.set_cons_succ, List.cons_append, List.nil_append, Option.some.injEq, exists_eq_left', V.bl.injEq, V.int.injEq, V.ref.injEq, atI_0, atI_1, atI_2, setI_1, setI_2, Bool.not_true, Bool.not_false, Bool.false_eq_true, if_false, if_true, hs', e]
    exact k _ _ (List.getElem_mem _) hp' kp
  · exact h.elim

inductive E23 | BadName | BadLetter | BadAnswer | BadNumber | BadWord | NoState | NoCell | NoText | Taken | BadConverter | BadGrowth | BadPaper | BadArray | BadDeed | BadLog | NoTail | RunOver | NoRoom | BadCommand | BadText | NoStep | TooMany | Nothing deriving DecidableEq
def E23.c (A : Ad) : E23 → Addr
  | .BadName => A.c_BadName
  | .BadLetter => A.c_BadLetter
  | .BadAnswer => A.c_BadAnswer
  | .BadNumber => A.c_BadNumber
  | .BadWord => A.c_BadWord
  | .NoState => A.c_NoState
  | .NoCell => A.c_NoCell
  | .NoText => A.c_NoText
  | .Taken => A.c_Taken
  | .BadConverter => A.c_BadConverter
  | .BadGrowth => A.c_BadGrowth
  | .BadPaper => A.c_BadPaper
  | .BadArray => A.c_BadArray
  | .BadDeed => A.c_BadDeed
  | .BadLog => A.c_BadLog
  | .NoTail => A.c_NoTail
  | .RunOver => A.c_RunOver
  | .NoRoom => A.c_NoRoom
  | .BadCommand => A.c_BadCommand
  | .BadText => A.c_BadText
  | .NoStep => A.c_NoStep
  | .TooMany => A.c_TooMany
  | .Nothing => A.c_Nothing
def E23.nm : E23 → Str
  | .BadName => "BadName"
  | .BadLetter => "BadLetter"
  | .BadAnswer => "BadAnswer"
  | .BadNumber => "BadNumber"
  | .BadWord => "BadWord"
  | .NoState => "NoState"
  | .NoCell => "NoCell"
  | .NoText => "NoText"
  | .Taken => "Taken"
  | .BadConverter => "BadConverter"
  | .BadGrowth => "BadGrowth"
  | .BadPaper => "BadPaper"
  | .BadArray => "BadArray"
  | .BadDeed => "BadDeed"
  | .BadLog => "BadLog"
  | .NoTail => "NoTail"
  | .RunOver => "RunOver"
  | .NoRoom => "NoRoom"
  | .BadCommand => "BadCommand"
  | .BadText => "BadText"
  | .NoStep => "NoStep"
  | .TooMany => "TooMany"
  | .Nothing => "Nothing"
/-- its fields, as they stand -/
def E23.fs (a b : V) : E23 → List (Str × V)
  | .BadName => [("value", a)]
  | .BadLetter => [("value", a)]
  | .BadAnswer => [("value", a)]
  | .BadNumber => [("value", a)]
  | .BadWord => [("value", a)]
  | .NoState => [("value", a)]
  | .NoCell => [("value", a)]
  | .NoText => [("value", a)]
  | .Taken => [("value", a)]
  | .BadConverter => [("part", a)]
  | .BadGrowth => [("part", a)]
  | .BadPaper => [("part", a)]
  | .BadArray => [("part", a)]
  | .BadDeed => [("part", a)]
  | .BadLog => [("at", a)]
  | .NoTail => [("state", a)]
  | .RunOver => [("cell", a)]
  | .NoRoom => [("cell", a)]
  | .BadCommand => [("word", a)]
  | .BadText => [("word", b), ("line", a)]
  | .NoStep => [("state", b), ("at", a)]
  | .TooMany => [("most", b), ("what", a)]
  | .Nothing => []
/-- the values, in the order of the parameters -/
def E23.val {α : Type} (a b : α) : E23 → List α
  | .BadName => [a]
  | .BadLetter => [a]
  | .BadAnswer => [a]
  | .BadNumber => [a]
  | .BadWord => [a]
  | .NoState => [a]
  | .NoCell => [a]
  | .NoText => [a]
  | .Taken => [a]
  | .BadConverter => [a]
  | .BadGrowth => [a]
  | .BadPaper => [a]
  | .BadArray => [a]
  | .BadDeed => [a]
  | .BadLog => [a]
  | .NoTail => [a]
  | .RunOver => [a]
  | .NoRoom => [a]
  | .BadCommand => [a]
  | .BadText => [a, b]
  | .NoStep => [a, b]
  | .TooMany => [a, b]
  | .Nothing => []
def E23.all : List E23 := [.BadName, .BadLetter, .BadAnswer, .BadNumber, .BadWord, .NoState, .NoCell, .NoText, .Taken, .BadConverter, .BadGrowth, .BadPaper, .BadArray, .BadDeed, .BadLog, .NoTail, .RunOver, .NoRoom, .BadCommand, .BadText, .NoStep, .TooMany, .Nothing]
theorem E23.nodup : E23.all.Nodup := by decide
theorem E23.mem (i : E23) : i ∈ E23.all := by cases i <;> decide
def BT : List (String × Bool) := [("ValueError", true), ("LookupError", false), ("ArithmeticError", false), ("TypeError", false)]
structure KF (K : PySem.W.Frag) (A : Ad) : Prop where
  kit : ∀ i j : E23, PySem.W.kitOne K (.ref (i.c A)) (.ref (j.c A)) = some (decide (i = j))
  kh : ∀ i : E23, PySem.W.kitOne K (.ref (i.c A)) (.ref A.c_HeadError) = some true
  kb : ∀ i : E23, ∀ p ∈ BT, PySem.W.kitOne K (.ref (i.c A)) (.type p.1) = some p.2
theorem E23.inE (A : Ad) (i : E23) : i.c A ∈ excsOf A := by
  cases i <;> simp [E23.c, excsOf]
section
variable {H : Hp} {C : Addr} {f g : Str} {v u : V} {Q : VK}
theorem mk_x0 (k : ∀ a H', Grow H H' → ExV H' C [] a → Q (.ref a) H') : ∀ a, H a = none → spX0 C [.ref a] (upd H a (exo a C none)) (fun v H' => v = .non ∧ Q (.ref a) H') (fun _ _ _ => False) :=
  fun a ha => ⟨upd_same, rfl, k a _ (Grow.new ha) (.inl ⟨upd_same, rfl⟩)⟩
theorem mk_x1 (k : ∀ a H', Grow H H' → ExV H' C [(f, v)] a → Q (.ref a) H') : ∀ a, H a = none → spX1 C f [.ref a, v] (upd H a (exo a C none)) (fun v H' => v = .non ∧ Q (.ref a) H') (fun _ _ _ => False) := by
  refine fun a ha => ⟨upd_same, fun dx hdx ne => ⟨rfl, k a _ (fun b o e => ?_) (.inr ⟨dx, upd_same, ?_⟩)⟩⟩
  · have h1 : b ≠ a := fun z => by rw [z, ha] at e; cases e
    have h2 : b ≠ dx := fun z => by rw [← z, upd_ne h1, e] at hdx; cases hdx
    rw [upd_ne h1, upd_ne h2, upd_ne h1]; exact e
  · rw [upd_ne ne, upd_same]
theorem mk_x2 (k : ∀ a H', Grow H H' → ExV H' C [(g, u), (f, v)] a → Q (.ref a) H') : ∀ a, H a = none → spX2 C f g [.ref a, v, u] (upd H a (exo a C none)) (fun v H' => v = .non ∧ Q (.ref a) H') (fun _ _ _ => False) := by
  refine fun a ha => ⟨upd_same, fun dx hdx ne => ⟨rfl, k a _ (fun b o e => ?_) (.inr ⟨dx, ?_, upd_same⟩)⟩⟩
  · have h1 : b ≠ a := fun z => by rw [z, ha] at e; cases e
    have h2 : b ≠ dx := fun z => by rw [← z, upd_ne h1, e] at hdx; cases hdx
    rw [upd_ne h2, upd_ne h1, upd_ne h2, upd_ne h1]; exact e
  · rw [upd_ne (Ne.symm ne), upd_same]
end
section
variable {H : Hp} {C : Addr} {f g : Str} {sp : Sp} {a b : V} {gV : List V → List V → List V} {Q : VK}
theorem mkE0 (e : sp = spX0 C) (k : ∀ x H', Grow H H' → ExV H' C [] x → Q (.ref x) H') : tMkE C sp tNil [some a, some b] H Q := by subst e; exact mk_x0 k
theorem mkE1 (e : sp = spX1 C f) (k : ∀ x H', Grow H H' → ExV H' C [(f, a)] x → Q (.ref x) H') : tMkE C sp (tCons (tVar 0) tNil) [some a, some b] H Q := by subst e; exact ⟨a, rfl, mk_x1 k⟩
theorem mkE2 (e : sp = spX2 C f g) (k : ∀ x H', Grow H H' → ExV H' C [(g, b), (f, a)] x → Q (.ref x) H') : tMkE C sp (tCons (tVar 0) (tCons (tVar 1) tNil)) [some a, some b] H Q := by subst e; exact ⟨a, rfl, b, rfl, mk_x2 k⟩
theorem mkK1 (e : sp = spX1 C f) (eg : ∀ x y, gV [x] [y] = [x, y]) (k : ∀ x H', Grow H H' → ExV H' C [(f, a)] x → Q (.ref x) H') : tMkEK C 1 sp gV (tCons (tVar 0) tNil) [some a, some b] H Q := by
  subst e
  refine ⟨a, rfl, rfl, fun x hx => ?_⟩
  show spX1 C f (gV [.ref x] [a]) _ _ _
  rw [eg]
  exact mk_x1 k x hx
theorem mkK2 (e : sp = spX2 C f g) (eg : ∀ x y z, gV [x] [y, z] = [x, z, y]) (k : ∀ x H', Grow H H' → ExV H' C [(g, b), (f, a)] x → Q (.ref x) H') : tMkEK C 2 sp gV (tCons (tVar 1) (tCons (tVar 0) tNil)) [some a, some b] H Q := by
  subst e
  refine ⟨b, rfl, a, rfl, rfl, fun x hx => ?_⟩
  show spX2 C f g (gV [.ref x] [b, a]) _ _ _
  rw [eg]
  exact mk_x2 k x hx
theorem row_go {T1 T2 : TE} {σ : L2.St} {nm : Str} {fs : List (Str × V)} (h1 : ∀ {H : Hp} {Q : VK}, (∀ x H', Grow H H' → ExV H' C fs x → Q (.ref x) H') → T1 σ H Q) (h2 : ∀ {H : Hp} {Q : VK}, (∀ x H', Grow H H' → ExV H' C fs x → Q (.ref x) H') → T2 σ H Q)
    (k : ∀ t e1 e2 H', Grow H H' → H' t = some (.tup [.ref e1, .ref e2, .str nm]) → ExV H' C fs e1 → ExV H' C fs e2 → Q (.ref t) H') : tTup (tCons T1 (tCons T2 (tCons (tC (.str nm)) tNil))) σ H Q := by
  refine h1 (fun e1 H1 g1 x1 => ?_)
  refine h2 (fun e2 H2 g2 x2 => ?_)
  refine ⟨by show 3 ≤ sizeLine; decide, fun t ht => ?_⟩
  have g3 := Grow.new (o := .tup [.ref e1, .ref e2, .str nm]) ht
  exact k t e1 e2 _ (g1.trans (g2.trans g3)) upd_same (x1.grow (g2.trans g3)) (x2.grow g3)
end
theorem ExV.put {H : Hp} {C L a : Addr} {fs : List (Str × V)} {xs : List V} {o : HO} (h : ExV H C fs a) (hL : H L = some (.lst xs)) : ExV (upd H L o) C fs a := by
  rcases h with ⟨h, e⟩ | ⟨dx, h1, h2⟩
  · exact .inl ⟨by rw [upd_ne (fun z => by rw [z, hL] at h; cases h)]; exact h, e⟩
  · exact .inr ⟨dx, by rw [upd_ne (fun z => by rw [z, hL] at h1; cases h1)]; exact h1, by rw [upd_ne (fun z => by rw [z, hL] at h2; cases h2)]; exact h2⟩
structure R3 where
  t : Addr
  one : Addr
  oth : Addr
/-- (error, other, name) -/
structure ErrAt (A : Ad) (H : Hp) (a b : V) (i : E23) (r : R3) : Prop where
  ht : H r.t = some (.tup [.ref r.one, .ref r.oth, .str i.nm])
  h1 : ExV H (i.c A) (i.fs a b) r.one
  h2 : ExV H (i.c A) (i.fs a b) r.oth
theorem ErrAt.grow {A : Ad} {H H' : Hp} {a b : V} {i : E23} {r : R3} (h : ErrAt A H a b i r) (g : Grow H H') : ErrAt A H' a b i r := ⟨g _ _ h.ht, h.h1.grow g, h.h2.grow g⟩
theorem paired_imp {α β : Type} {F G : α → β → Prop} : ∀ {l : List α} {m : List β}, Paired F l m → (∀ a b, F a b → G a b) → Paired G l m
  | _, _, .nil, _ => .nil
  | _, _, .cons a b, h => .cons (h _ _ a) (paired_imp b h)
theorem tcons {te : TE} {ta : TA} {σ : L2.St} {H : Hp} {Q : List V → Hp → Prop} (h : te σ H fun x H1 => ta σ H1 fun xs H2 => Q (x :: xs) H2) : tCons te ta σ H Q := h
/-- how one row is made -/
def rowT (K : PySem.W.Frag) (A : Ad) : E23 → TE
  | .BadName => (tTup (tCons (tMkE A.c_BadName (sp_BadName_init K A) (tCons (tVar 0) tNil)) (tCons (tMkEK A.c_BadName 1 (sp_BadName_init K A) kw_BadName_init_value (tCons (tVar 0) tNil)) (tCons (tC (.str "BadName")) tNil))))
  | .BadLetter => (tTup (tCons (tMkE A.c_BadLetter (sp_BadLetter_init K A) (tCons (tVar 0) tNil)) (tCons (tMkEK A.c_BadLetter 1 (sp_BadLetter_init K A) kw_BadLetter_init_value (tCons (tVar 0) tNil)) (tCons (tC (.str "BadLetter")) tNil))))
  | .BadAnswer => (tTup (tCons (tMkE A.c_BadAnswer (sp_BadAnswer_init K A) (tCons (tVar 0) tNil)) (tCons (tMkEK A.c_BadAnswer 1 (sp_BadAnswer_init K A) kw_BadAnswer_init_value (tCons (tVar 0) tNil)) (tCons (tC (.str "BadAnswer")) tNil))))
  | .BadNumber => (tTup (tCons (tMkE A.c_BadNumber (sp_BadNumber_init K A) (tCons (tVar 0) tNil)) (tCons (tMkEK A.c_BadNumber 1 (sp_BadNumber_init K A) kw_BadNumber_init_value (tCons (tVar 0) tNil)) (tCons (tC (.str "BadNumber")) tNil))))
  | .BadWord => (tTup (tCons (tMkE A.c_BadWord (sp_BadWord_init K A) (tCons (tVar 0) tNil)) (tCons (tMkEK A.c_BadWord 1 (sp_BadWord_init K A) kw_BadWord_init_value (tCons (tVar 0) tNil)) (tCons (tC (.str "BadWord")) tNil))))
  | .NoState => (tTup (tCons (tMkE A.c_NoState (sp_NoState_init K A) (tCons (tVar 0) tNil)) (tCons (tMkEK A.c_NoState 1 (sp_NoState_init K A) kw_NoState_init_value (tCons (tVar 0) tNil)) (tCons (tC (.str "NoState")) tNil))))
  | .NoCell => (tTup (tCons (tMkE A.c_NoCell (sp_NoCell_init K A) (tCons (tVar 0) tNil)) (tCons (tMkEK A.c_NoCell 1 (sp_NoCell_init K A) kw_NoCell_init_value (tCons (tVar 0) tNil)) (tCons (tC (.str "NoCell")) tNil))))
  | .NoText => (tTup (tCons (tMkE A.c_NoText (sp_NoText_init K A) (tCons (tVar 0) tNil)) (tCons (tMkEK A.c_NoText 1 (sp_NoText_init K A) kw_NoText_init_value (tCons (tVar 0) tNil)) (tCons (tC (.str "NoText")) tNil))))
  | .Taken => (tTup (tCons (tMkE A.c_Taken (sp_Taken_init K A) (tCons (tVar 0) tNil)) (tCons (tMkEK A.c_Taken 1 (sp_Taken_init K A) kw_Taken_init_value (tCons (tVar 0) tNil)) (tCons (tC (.str "Taken")) tNil))))
  | .BadConverter => (tTup (tCons (tMkE A.c_BadConverter (sp_BadConverter_init K A) (tCons (tVar 0) tNil)) (tCons (tMkEK A.c_BadConverter 1 (sp_BadConverter_init K A) kw_BadConverter_init_part (tCons (tVar 0) tNil)) (tCons (tC (.str "BadConverter")) tNil))))
  | .BadGrowth => (tTup (tCons (tMkE A.c_BadGrowth (sp_BadGrowth_init K A) (tCons (tVar 0) tNil)) (tCons (tMkEK A.c_BadGrowth 1 (sp_BadGrowth_init K A) kw_BadGrowth_init_part (tCons (tVar 0) tNil)) (tCons (tC (.str "BadGrowth")) tNil))))
  | .BadPaper => (tTup (tCons (tMkE A.c_BadPaper (sp_BadPaper_init K A) (tCons (tVar 0) tNil)) (tCons (tMkEK A.c_BadPaper 1 (sp_BadPaper_init K A) kw_BadPaper_init_part (tCons (tVar 0) tNil)) (tCons (tC (.str "BadPaper")) tNil))))
  | .BadArray => (tTup (tCons (tMkE A.c_BadArray (sp_BadArray_init K A) (tCons (tVar 0) tNil)) (tCons (tMkEK A.c_BadArray 1 (sp_BadArray_init K A) kw_BadArray_init_part (tCons (tVar 0) tNil)) (tCons (tC (.str "BadArray")) tNil))))
  | .BadDeed => (tTup (tCons (tMkE A.c_BadDeed (sp_BadDeed_init K A) (tCons (tVar 0) tNil)) (tCons (tMkEK A.c_BadDeed 1 (sp_BadDeed_init K A) kw_BadDeed_init_part (tCons (tVar 0) tNil)) (tCons (tC (.str "BadDeed")) tNil))))
  | .BadLog => (tTup (tCons (tMkE A.c_BadLog (sp_BadLog_init K A) (tCons (tVar 0) tNil)) (tCons (tMkEK A.c_BadLog 1 (sp_BadLog_init K A) kw_BadLog_init_at (tCons (tVar 0) tNil)) (tCons (tC (.str "BadLog")) tNil))))
  | .NoTail => (tTup (tCons (tMkE A.c_NoTail (sp_NoTail_init K A) (tCons (tVar 0) tNil)) (tCons (tMkEK A.c_NoTail 1 (sp_NoTail_init K A) kw_NoTail_init_state (tCons (tVar 0) tNil)) (tCons (tC (.str "NoTail")) tNil))))
  | .RunOver => (tTup (tCons (tMkE A.c_RunOver (sp_RunOver_init K A) (tCons (tVar 0) tNil)) (tCons (tMkEK A.c_RunOver 1 (sp_RunOver_init K A) kw_RunOver_init_cell (tCons (tVar 0) tNil)) (tCons (tC (.str "RunOver")) tNil))))
  | .NoRoom => (tTup (tCons (tMkE A.c_NoRoom (sp_NoRoom_init K A) (tCons (tVar 0) tNil)) (tCons (tMkEK A.c_NoRoom 1 (sp_NoRoom_init K A) kw_NoRoom_init_cell (tCons (tVar 0) tNil)) (tCons (tC (.str "NoRoom")) tNil))))
  | .BadCommand => (tTup (tCons (tMkE A.c_BadCommand (sp_BadCommand_init K A) (tCons (tVar 0) tNil)) (tCons (tMkEK A.c_BadCommand 1 (sp_BadCommand_init K A) kw_BadCommand_init_word (tCons (tVar 0) tNil)) (tCons (tC (.str "BadCommand")) tNil))))
  | .BadText => (tTup (tCons (tMkE A.c_BadText (sp_BadText_init K A) (tCons (tVar 0) (tCons (tVar 1) tNil))) (tCons (tMkEK A.c_BadText 2 (sp_BadText_init K A) kw_BadText_init_word_line (tCons (tVar 1) (tCons (tVar 0) tNil))) (tCons (tC (.str "BadText")) tNil))))
  | .NoStep => (tTup (tCons (tMkE A.c_NoStep (sp_NoStep_init K A) (tCons (tVar 0) (tCons (tVar 1) tNil))) (tCons (tMkEK A.c_NoStep 2 (sp_NoStep_init K A) kw_NoStep_init_state_at (tCons (tVar 1) (tCons (tVar 0) tNil))) (tCons (tC (.str "NoStep")) tNil))))
  | .TooMany => (tTup (tCons (tMkE A.c_TooMany (sp_TooMany_init K A) (tCons (tVar 0) (tCons (tVar 1) tNil))) (tCons (tMkEK A.c_TooMany 2 (sp_TooMany_init K A) kw_TooMany_init_most_what (tCons (tVar 1) (tCons (tVar 0) tNil))) (tCons (tC (.str "TooMany")) tNil))))
  | .Nothing => (tTup (tCons (tMkE A.c_Nothing (sp_Nothing_init K A) tNil) (tCons (tMkE A.c_Nothing (sp_Nothing_init K A) tNil) (tCons (tC (.str "Nothing")) tNil))))
theorem row_made {K : PySem.W.Frag} {A : Ad} {a b : V} (i : E23) {H : Hp} {Q : VK} (k : ∀ r H', Grow H H' → ErrAt A H' a b i r → Q (.ref r.t) H') : rowT K A i [some a, some b] H Q := by
  have kk : ∀ t e1 e2 H', Grow H H' → H' t = some (.tup [.ref e1, .ref e2, .str i.nm]) → ExV H' (i.c A) (i.fs a b) e1 → ExV H' (i.c A) (i.fs a b) e2 → Q (.ref t) H' := fun t e1 e2 H' g ht x1 x2 => k ⟨t, e1, e2⟩ H' g ⟨ht, x1, x2⟩
  cases i
  case BadName => exact row_go (mkE1 rfl) (mkK1 rfl (fun _ _ => rfl)) kk
  case BadLetter => exact row_go (mkE1 rfl) (mkK1 rfl (fun _ _ => rfl)) kk
  case BadAnswer => exact row_go (mkE1 rfl) (mkK1 rfl (fun _ _ => rfl)) kk
  case BadNumber => exact row_go (mkE1 rfl) (mkK1 rfl (fun _ _ => rfl)) kk
  case BadWord => exact row_go (mkE1 rfl) (mkK1 rfl (fun _ _ => rfl)) kk
  case NoState => exact row_go (mkE1 rfl) (mkK1 rfl (fun _ _ => rfl)) kk
  case NoCell => exact row_go (mkE1 rfl) (mkK1 rfl (fun _ _ => rfl)) kk
  case NoText => exact row_go (mkE1 rfl) (mkK1 rfl (fun _ _ => rfl)) kk
  case Taken => exact row_go (mkE1 rfl) (mkK1 rfl (fun _ _ => rfl)) kk
  case BadConverter => exact row_go (mkE1 rfl) (mkK1 rfl (fun _ _ => rfl)) kk
  case BadGrowth => exact row_go (mkE1 rfl) (mkK1 rfl (fun _ _ => rfl)) kk
  case BadPaper => exact row_go (mkE1 rfl) (mkK1 rfl (fun _ _ => rfl)) kk
  case BadArray => exact row_go (mkE1 rfl) (mkK1 rfl (fun _ _ => rfl)) kk
  case BadDeed => exact row_go (mkE1 rfl) (mkK1 rfl (fun _ _ => rfl)) kk
  case BadLog => exact row_go (mkE1 rfl) (mkK1 rfl (fun _ _ => rfl)) kk
  case NoTail => exact row_go (mkE1 rfl) (mkK1 rfl (fun _ _ => rfl)) kk
  case RunOver => exact row_go (mkE1 rfl) (mkK1 rfl (fun _ _ => rfl)) kk
  case NoRoom => exact row_go (mkE1 rfl) (mkK1 rfl (fun _ _ => rfl)) kk
  case BadCommand => exact row_go (mkE1 rfl) (mkK1 rfl (fun _ _ => rfl)) kk
  case BadText => exact row_go (mkE2 rfl) (mkK2 rfl (fun _ _ _ => rfl)) kk
  case NoStep => exact row_go (mkE2 rfl) (mkK2 rfl (fun _ _ _ => rfl)) kk
  case TooMany => exact row_go (mkE2 rfl) (mkK2 rfl (fun _ _ _ => rfl)) kk
  case Nothing => exact row_go (mkE0 rfl) (mkE0 rfl) kk
theorem rows_made {K : PySem.W.Frag} {A : Ad} {a b : V} : ∀ (l : List E23) {H : Hp} {Q : List V → Hp → Prop} (k : ∀ rs H', Grow H H' → Paired (ErrAt A H' a b) l rs → Q (rs.map fun r => V.ref r.t) H'), (l.foldr (fun i t => tCons (rowT K A i) t) tNil) [some a, some b] H Q
  | [], H, Q, k => k [] H .refl .nil
  | i :: l, H, Q, k => by
    refine tcons (row_made i fun r H1 g1 R => ?_)
    refine rows_made l fun rs H2 g2 RR => ?_
    exact k (r :: rs) H2 (g1.trans g2) (.cons (R.grow g2) RR)
def sp_law_made (K : PySem.W.Frag) (A : Ad) : Sp := fun xs H Q _ => match xs with
  | [a, b] => ∀ L rs H', Grow H H' → H' L = some (.lst (rs.map fun r => V.ref r.t)) → Paired (ErrAt A H' a b) E23.all rs → Q (.ref L) H'
  | _ => False
def t_law_made_0 (K : PySem.W.Frag) (A : Ad) : TS := (tRet (tLstN (tCons (tTup (tCons (tMkE A.c_BadName (sp_BadName_init K A) (tCons (tVar 0) tNil)) (tCons (tMkEK A.c_BadName 1 (sp_BadName_init K A) kw_BadName_init_value (tCons (tVar 0) tNil)) (tCons (tC (.str "BadName")) tNil)))) (tCons (tTup (tCons (tMkE A.c_BadLetter (sp_BadLetter_init K A) (tCons (tVar 0) tNil)) (tCons (tMkEK A.c_BadLetter 1 (sp_BadLetter_init K A) kw_BadLetter_init_value (tCons (tVar 0) tNil)) (tCons (tC (.str "BadLetter")) tNil)))) (tCons (tTup (tCons (tMkE A.c_BadAnswer (sp_BadAnswer_init K A) (tCons (tVar 0) tNil)) (tCons (tMkEK A.c_BadAnswer 1 (sp_BadAnswer_init K A) kw_BadAnswer_init_value (tCons (tVar 0) tNil)) (tCons (tC (.str "BadAnswer")) tNil)))) (tCons (tTup (tCons (tMkE A.c_BadNumber (sp_BadNumber_init K A) (tCons (tVar 0) tNil)) (tCons (tMkEK A.c_BadNumber 1 (sp_BadNumber_init K A) kw_BadNumber_init_value (tCons (tVar 0) tNil)) (tCons (tC (.str "BadNumber")) tNil)))) (tCons (tTup (tCons (tMkE A.c_BadWord (sp_BadWord_init K A) (tCons (tVar 0) tNil)) (tCons (tMkEK A.c_BadWord 1 (sp_BadWord_init K A) kw_BadWord_init_value (tCons (tVar 0) tNil)) (tCons (tC (.str "BadWord")) tNil)))) (tCons (tTup (tCons (tMkE A.c_NoState (sp_NoState_init K A) (tCons (tVar 0) tNil)) (tCons (tMkEK A.c_NoState 1 (sp_NoState_init K A) kw_NoState_init_value (tCons (tVar 0) tNil)) (tCons (tC (.str "NoState")) tNil)))) (tCons (tTup (tCons (tMkE A.c_NoCell (sp_NoCell_init K A) (tCons (tVar 0) tNil)) (tCons (tMkEK A.c_NoCell 1 (sp_NoCell_init K A) kw_NoCell_init_value (tCons (tVar 0) tNil)) (tCons (tC (.str "NoCell")) tNil)))) (tCons (tTup (tCons (tMkE A.c_NoText (sp_NoText_init K A) (tCons (tVar 0) tNil)) (tCons (tMkEK A.c_NoText 1 (sp_NoText_init K A) kw_NoText_init_value (tCons (tVar 0) tNil)) (tCons (tC (.str "NoText")) tNil)))) (tCons (tTup (tCons (tMkE A.c_Taken (sp_Taken_init K A) (tCons (tVar 0) tNil)) (tCons (tMkEK A.c_Taken 1 (sp_Taken_init K A) kw_Taken_init_value (tCons (tVar 0) tNil)) (tCons (tC (.str "Taken")) tNil)))) (tCons (tTup (tCons (tMkE A.c_BadConverter (sp_BadConverter_init K A) (tCons (tVar 0) tNil)) (tCons (tMkEK A.c_BadConverter 1 (sp_BadConverter_init K A) kw_BadConverter_init_part (tCons (tVar 0) tNil)) (tCons (tC (.str "BadConverter")) tNil)))) (tCons (tTup (tCons (tMkE A.c_BadGrowth (sp_BadGrowth_init K A) (tCons (tVar 0) tNil)) (tCons (tMkEK A.c_BadGrowth 1 (sp_BadGrowth_init K A) kw_BadGrowth_init_part (tCons (tVar 0) tNil)) (tCons (tC (.str "BadGrowth")) tNil)))) (tCons (tTup (tCons (tMkE A.c_BadPaper (sp_BadPaper_init K A) (tCons (tVar 0) tNil)) (tCons (tMkEK A.c_BadPaper 1 (sp_BadPaper_init K A) kw_BadPaper_init_part (tCons (tVar 0) tNil)) (tCons (tC (.str "BadPaper")) tNil)))) (tCons (tTup (tCons (tMkE A.c_BadArray (sp_BadArray_init K A) (tCons (tVar 0) tNil)) (tCons (tMkEK A.c_BadArray 1 (sp_BadArray_init K A) kw_BadArray_init_part (tCons (tVar 0) tNil)) (tCons (tC (.str "BadArray")) tNil)))) (tCons (tTup (tCons (tMkE A.c_BadDeed (sp_BadDeed_init K A) (tCons (tVar 0) tNil)) (tCons (tMkEK A.c_BadDeed 1 (sp_BadDeed_init K A) kw_BadDeed_init_part (tCons (tVar 0) tNil)) (tCons (tC (.str "BadDeed")) tNil)))) (tCons (tTup (tCons (tMkE A.c_BadLog (sp_BadLog_init K A) (tCons (tVar 0) tNil)) (tCons (tMkEK A.c_BadLog 1 (sp_BadLog_init K A) kw_BadLog_init_at (tCons (tVar 0) tNil)) (tCons (tC (.str "BadLog")) tNil)))) (tCons (tTup (tCons (tMkE A.c_NoTail (sp_NoTail_init K A) (tCons (tVar 0) tNil)) (tCons (tMkEK A.c_NoTail 1 (sp_NoTail_init K A) kw_NoTail_init_state (tCons (tVar 0) tNil)) (tCons (tC (.str "NoTail")) tNil)))) (tCons (tTup (tCons (tMkE A.c_RunOver (sp_RunOver_init K A) (tCons (tVar 0) tNil)) (tCons (tMkEK A.c_RunOver 1 (sp_RunOver_init K A) kw_RunOver_init_cell (tCons (tVar 0) tNil)) (tCons (tC (.str "RunOver")) tNil)))) (tCons (tTup (tCons (tMkE A.c_NoRoom (sp_NoRoom_init K A) (tCons (tVar 0) tNil)) (tCons (tMkEK A.c_NoRoom 1 (sp_NoRoom_init K A) kw_NoRoom_init_cell (tCons (tVar 0) tNil)) (tCons (tC (.str "NoRoom")) tNil)))) (tCons (tTup (tCons (tMkE A.c_BadCommand (sp_BadCommand_init K A) (tCons (tVar 0) tNil)) (tCons (tMkEK A.c_BadCommand 1 (sp_BadCommand_init K A) kw_BadCommand_init_word (tCons (tVar 0) tNil)) (tCons (tC (.str "BadCommand")) tNil)))) (tCons (tTup (tCons (tMkE A.c_BadText (sp_BadText_init K A) (tCons (tVar 0) (tCons (tVar 1) tNil))) (tCons (tMkEK A.c_BadText 2 (sp_BadText_init K A) kw_BadText_init_word_line (tCons (tVar 1) (tCons (tVar 0) tNil))) (tCons (tC (.str "BadText")) tNil)))) (tCons (tTup (tCons (tMkE A.c_NoStep (sp_NoStep_init K A) (tCons (tVar 0) (tCons (tVar 1) tNil))) (tCons (tMkEK A.c_NoStep 2 (sp_NoStep_init K A) kw_NoStep_init_state_at (tCons (tVar 1) (tCons (tVar 0) tNil))) (tCons (tC (.str "NoStep")) tNil)))) (tCons (tTup (tCons (tMkE A.c_TooMany (sp_TooMany_init K A) (tCons (tVar 0) (tCons (tVar 1) tNil))) (tCons (tMkEK A.c_TooMany 2 (sp_TooMany_init K A) kw_TooMany_init_most_what (tCons (tVar 1) (tCons (tVar 0) tNil))) (tCons (tC (.str "TooMany")) tNil)))) (tCons (tTup (tCons (tMkE A.c_Nothing (sp_Nothing_init K A) tNil) (tCons (tMkE A.c_Nothing (sp_Nothing_init K A) tNil) (tCons (tC (.str "Nothing")) tNil)))) tNil)))))))))))))))))))))))))

theorem made_eq (K : PySem.W.Frag) (A : Ad) : t_law_made_0 K A = tRet (tLstN (E23.all.foldr (fun i t => tCons (rowT K A i) t) tNil)) := rfl
theorem pure_law_made {K : PySem.W.Frag} {A : Ad} {xs : List V} {H : Hp} {Q : VK} {E : XK} (h : sp_law_made K A xs H Q E) : (t_law_made_0 K A) { nx := fun _ H' => Q .non H', rt := Q } (start ["_law_x", "_law_y"] xs) H := by
  unfold sp_law_made at h
  split at h
  · rename_i a b
    show t_law_made_0 K A _ [some a, some b] H
    rw [made_eq]
    refine st_ret ?_
    unfold tLstN
    refine rows_made _ fun rs H1 g1 R => ?_
    have e := Paired.length R
    refine ⟨by rw [List.length_map, ← e]; decide, fun L hL _ => ?_⟩
    have g2 := Grow.new (o := .lst (rs.map fun r => V.ref r.t)) hL
    exact h L rs _ (g1.trans g2) upd_same (paired_imp R fun _ _ z => z.grow g2)
  · exact h.elim
/-! ### law_fields -/
/-- the fields that are read -/
def fldT (A : Ad) : E23 → TA
  | .BadName => (tCons (tXfV A.c_BadName "value" (tVar 0)) tNil)
  | .BadLetter => (tCons (tXfV A.c_BadLetter "value" (tVar 0)) tNil)
  | .BadAnswer => (tCons (tXfV A.c_BadAnswer "value" (tVar 0)) tNil)
  | .BadNumber => (tCons (tXfV A.c_BadNumber "value" (tVar 0)) tNil)
  | .BadWord => (tCons (tXfV A.c_BadWord "value" (tVar 0)) tNil)
  | .NoState => (tCons (tXfV A.c_NoState "value" (tVar 0)) tNil)
  | .NoCell => (tCons (tXfV A.c_NoCell "value" (tVar 0)) tNil)
  | .NoText => (tCons (tXfV A.c_NoText "value" (tVar 0)) tNil)
  | .Taken => (tCons (tXfV A.c_Taken "value" (tVar 0)) tNil)
  | .BadConverter => (tCons (tXfV A.c_BadConverter "part" (tVar 0)) tNil)
  | .BadGrowth => (tCons (tXfV A.c_BadGrowth "part" (tVar 0)) tNil)
  | .BadPaper => (tCons (tXfV A.c_BadPaper "part" (tVar 0)) tNil)
  | .BadArray => (tCons (tXfV A.c_BadArray "part" (tVar 0)) tNil)
  | .BadDeed => (tCons (tXfV A.c_BadDeed "part" (tVar 0)) tNil)
  | .BadLog => (tCons (tXfV A.c_BadLog "at" (tVar 0)) tNil)
  | .NoTail => (tCons (tXfV A.c_NoTail "state" (tVar 0)) tNil)
  | .RunOver => (tCons (tXfV A.c_RunOver "cell" (tVar 0)) tNil)
  | .NoRoom => (tCons (tXfV A.c_NoRoom "cell" (tVar 0)) tNil)
  | .BadCommand => (tCons (tXfV A.c_BadCommand "word" (tVar 0)) tNil)
  | .BadText => (tCons (tXfV A.c_BadText "line" (tVar 0)) (tCons (tXfV A.c_BadText "word" (tVar 0)) tNil))
  | .NoStep => (tCons (tXfV A.c_NoStep "at" (tVar 0)) (tCons (tXfV A.c_NoStep "state" (tVar 0)) tNil))
  | .TooMany => (tCons (tXfV A.c_TooMany "what" (tVar 0)) (tCons (tXfV A.c_TooMany "most" (tVar 0)) tNil))
  | .Nothing => tNil
theorem flds {A : Ad} {H : Hp} {a b : V} {e : Addr} {i : E23} {y : Option V} (h : ExV H (i.c A) (i.fs a b) e) {Q : List V → Hp → Prop} (k : Q (i.val a b) H) : fldT A i [some (.ref e), y] H Q := by
  cases i
  case BadName => exact ⟨.ref e, rfl, e, _, a, rfl, h, rfl, k⟩
  case BadLetter => exact ⟨.ref e, rfl, e, _, a, rfl, h, rfl, k⟩
  case BadAnswer => exact ⟨.ref e, rfl, e, _, a, rfl, h, rfl, k⟩
  case BadNumber => exact ⟨.ref e, rfl, e, _, a, rfl, h, rfl, k⟩
  case BadWord => exact ⟨.ref e, rfl, e, _, a, rfl, h, rfl, k⟩
  case NoState => exact ⟨.ref e, rfl, e, _, a, rfl, h, rfl, k⟩
  case NoCell => exact ⟨.ref e, rfl, e, _, a, rfl, h, rfl, k⟩
  case NoText => exact ⟨.ref e, rfl, e, _, a, rfl, h, rfl, k⟩
  case Taken => exact ⟨.ref e, rfl, e, _, a, rfl, h, rfl, k⟩
  case BadConverter => exact ⟨.ref e, rfl, e, _, a, rfl, h, rfl, k⟩
  case BadGrowth => exact ⟨.ref e, rfl, e, _, a, rfl, h, rfl, k⟩
  case BadPaper => exact ⟨.ref e, rfl, e, _, a, rfl, h, rfl, k⟩
  case BadArray => exact ⟨.ref e, rfl, e, _, a, rfl, h, rfl, k⟩
  case BadDeed => exact ⟨.ref e, rfl, e, _, a, rfl, h, rfl, k⟩
  case BadLog => exact ⟨.ref e, rfl, e, _, a, rfl, h, rfl, k⟩
  case NoTail => exact ⟨.ref e, rfl, e, _, a, rfl, h, rfl, k⟩
  case RunOver => exact ⟨.ref e, rfl, e, _, a, rfl, h, rfl, k⟩
  case NoRoom => exact ⟨.ref e, rfl, e, _, a, rfl, h, rfl, k⟩
  case BadCommand => exact ⟨.ref e, rfl, e, _, a, rfl, h, rfl, k⟩
  case BadText => exact ⟨.ref e, rfl, e, _, a, rfl, h, rfl, .ref e, rfl, e, _, b, rfl, h, rfl, k⟩
  case NoStep => exact ⟨.ref e, rfl, e, _, a, rfl, h, rfl, .ref e, rfl, e, _, b, rfl, h, rfl, k⟩
  case TooMany => exact ⟨.ref e, rfl, e, _, a, rfl, h, rfl, .ref e, rfl, e, _, b, rfl, h, rfl, k⟩
  case Nothing => exact k
/-- one question of law_fields -/
def askT (K : PySem.W.Frag) (A : Ad) (i : E23) (rest : TS) : TS :=
  tSeq (tIfS (tB (tCB (rIsV K (excsOf A)) (tCons (tVar 0) (tCons (tC (.ref (i.c A))) tNil)))) (tDrop (tBM K "list" rAppend (tVar 1) (tCons (tTup (tCons (tC (.str i.nm)) (tCons (tLstN (fldT A i)) tNil))) tNil))) tNext) rest
def sp_law_fields (K : PySem.W.Frag) (A : Ad) : Sp := fun xs H Q _ => match xs with
  | [.ref e] => ∃ i a b, ExV H (E23.c A i) (i.fs a b) e ∧ ∀ L t p H', Grow H H' → H' L = some (.lst [.ref t]) → H' t = some (.tup [.str i.nm, .ref p]) → H' p = some (.lst (i.val a b)) → L ≠ sysModules → p ≠ sysModules → Q (.ref L) H'
  | _ => False
def t_law_fields_2 (K : PySem.W.Frag) (A : Ad) : TS := (tDrop (tBM K "list" rAppend (tVar 1) (tCons (tTup (tCons (tC (.str "BadName")) (tCons (tLstN (tCons (tXfV A.c_BadName "value" (tVar 0)) tNil)) tNil))) tNil)))
def t_law_fields_4 (K : PySem.W.Frag) (A : Ad) : TS := (tDrop (tBM K "list" rAppend (tVar 1) (tCons (tTup (tCons (tC (.str "BadLetter")) (tCons (tLstN (tCons (tXfV A.c_BadLetter "value" (tVar 0)) tNil)) tNil))) tNil)))
def t_law_fields_6 (K : PySem.W.Frag) (A : Ad) : TS := (tDrop (tBM K "list" rAppend (tVar 1) (tCons (tTup (tCons (tC (.str "BadAnswer")) (tCons (tLstN (tCons (tXfV A.c_BadAnswer "value" (tVar 0)) tNil)) tNil))) tNil)))
def t_law_fields_8 (K : PySem.W.Frag) (A : Ad) : TS := (tDrop (tBM K "list" rAppend (tVar 1) (tCons (tTup (tCons (tC (.str "BadNumber")) (tCons (tLstN (tCons (tXfV A.c_BadNumber "value" (tVar 0)) tNil)) tNil))) tNil)))
def t_law_fields_10 (K : PySem.W.Frag) (A : Ad) : TS := (tDrop (tBM K "list" rAppend (tVar 1) (tCons (tTup (tCons (tC (.str "BadWord")) (tCons (tLstN (tCons (tXfV A.c_BadWord "value" (tVar 0)) tNil)) tNil))) tNil)))
def t_law_fields_12 (K : PySem.W.Frag) (A : Ad) : TS := (tDrop (tBM K "list" rAppend (tVar 1) (tCons (tTup (tCons (tC (.str "NoState")) (tCons (tLstN (tCons (tXfV A.c_NoState "value" (tVar 0)) tNil)) tNil))) tNil)))
def t_law_fields_14 (K : PySem.W.Frag) (A : Ad) : TS := (tDrop (tBM K "list" rAppend (tVar 1) (tCons (tTup (tCons (tC (.str "NoCell")) (tCons (tLstN (tCons (tXfV A.c_NoCell "value" (tVar 0)) tNil)) tNil))) tNil)))
def t_law_fields_16 (K : PySem.W.Frag) (A : Ad) : TS := (tDrop (tBM K "list" rAppend (tVar 1) (tCons (tTup (tCons (tC (.str "NoText")) (tCons (tLstN (tCons (tXfV A.c_NoText "value" (tVar 0)) tNil)) tNil))) tNil)))
def t_law_fields_18 (K : PySem.W.Frag) (A : Ad) : TS := (tDrop (tBM K "list" rAppend (tVar 1) (tCons (tTup (tCons (tC (.str "Taken")) (tCons (tLstN (tCons (tXfV A.c_Taken "value" (tVar 0)) tNil)) tNil))) tNil)))
def t_law_fields_20 (K : PySem.W.Frag) (A : Ad) : TS := (tDrop (tBM K "list" rAppend (tVar 1) (tCons (tTup (tCons (tC (.str "BadConverter")) (tCons (tLstN (tCons (tXfV A.c_BadConverter "part" (tVar 0)) tNil)) tNil))) tNil)))
def t_law_fields_22 (K : PySem.W.Frag) (A : Ad) : TS := (tDrop (tBM K "list" rAppend (tVar 1) (tCons (tTup (tCons (tC (.str "BadGrowth")) (tCons (tLstN (tCons (tXfV A.c_BadGrowth "part" (tVar 0)) tNil)) tNil))) tNil)))
def t_law_fields_24 (K : PySem.W.Frag) (A : Ad) : TS := (tDrop (tBM K "list" rAppend (tVar 1) (tCons (tTup (tCons (tC (.str "BadPaper")) (tCons (tLstN (tCons (tXfV A.c_BadPaper "part" (tVar 0)) tNil)) tNil))) tNil)))
def t_law_fields_26 (K : PySem.W.Frag) (A : Ad) : TS := (tDrop (tBM K "list" rAppend (tVar 1) (tCons (tTup (tCons (tC (.str "BadArray")) (tCons (tLstN (tCons (tXfV A.c_BadArray "part" (tVar 0)) tNil)) tNil))) tNil)))
def t_law_fields_28 (K : PySem.W.Frag) (A : Ad) : TS := (tDrop (tBM K "list" rAppend (tVar 1) (tCons (tTup (tCons (tC (.str "BadDeed")) (tCons (tLstN (tCons (tXfV A.c_BadDeed "part" (tVar 0)) tNil)) tNil))) tNil)))
def t_law_fields_30 (K : PySem.W.Frag) (A : Ad) : TS := (tDrop (tBM K "list" rAppend (tVar 1) (tCons (tTup (tCons (tC (.str "BadLog")) (tCons (tLstN (tCons (tXfV A.c_BadLog "at" (tVar 0)) tNil)) tNil))) tNil)))
def t_law_fields_32 (K : PySem.W.Frag) (A : Ad) : TS := (tDrop (tBM K "list" rAppend (tVar 1) (tCons (tTup (tCons (tC (.str "NoTail")) (tCons (tLstN (tCons (tXfV A.c_NoTail "state" (tVar 0)) tNil)) tNil))) tNil)))
def t_law_fields_34 (K : PySem.W.Frag) (A : Ad) : TS := (tDrop (tBM K "list" rAppend (tVar 1) (tCons (tTup (tCons (tC (.str "RunOver")) (tCons (tLstN (tCons (tXfV A.c_RunOver "cell" (tVar 0)) tNil)) tNil))) tNil)))
def t_law_fields_36 (K : PySem.W.Frag) (A : Ad) : TS := (tDrop (tBM K "list" rAppend (tVar 1) (tCons (tTup (tCons (tC (.str "NoRoom")) (tCons (tLstN (tCons (tXfV A.c_NoRoom "cell" (tVar 0)) tNil)) tNil))) tNil)))
def t_law_fields_38 (K : PySem.W.Frag) (A : Ad) : TS := (tDrop (tBM K "list" rAppend (tVar 1) (tCons (tTup (tCons (tC (.str "BadCommand")) (tCons (tLstN (tCons (tXfV A.c_BadCommand "word" (tVar 0)) tNil)) tNil))) tNil)))
def t_law_fields_40 (K : PySem.W.Frag) (A : Ad) : TS := (tDrop (tBM K "list" rAppend (tVar 1) (tCons (tTup (tCons (tC (.str "BadText")) (tCons (tLstN (tCons (tXfV A.c_BadText "line" (tVar 0)) (tCons (tXfV A.c_BadText "word" (tVar 0)) tNil))) tNil))) tNil)))
def t_law_fields_42 (K : PySem.W.Frag) (A : Ad) : TS := (tDrop (tBM K "list" rAppend (tVar 1) (tCons (tTup (tCons (tC (.str "NoStep")) (tCons (tLstN (tCons (tXfV A.c_NoStep "at" (tVar 0)) (tCons (tXfV A.c_NoStep "state" (tVar 0)) tNil))) tNil))) tNil)))
def t_law_fields_44 (K : PySem.W.Frag) (A : Ad) : TS := (tDrop (tBM K "list" rAppend (tVar 1) (tCons (tTup (tCons (tC (.str "TooMany")) (tCons (tLstN (tCons (tXfV A.c_TooMany "what" (tVar 0)) (tCons (tXfV A.c_TooMany "most" (tVar 0)) tNil))) tNil))) tNil)))
def t_law_fields_46 (K : PySem.W.Frag) (A : Ad) : TS := (tDrop (tBM K "list" rAppend (tVar 1) (tCons (tTup (tCons (tC (.str "Nothing")) (tCons (tLstN tNil) tNil))) tNil)))
def t_law_fields_47 (K : PySem.W.Frag) (A : Ad) : TS := (tRet (tVar 1))
def t_law_fields_45 (K : PySem.W.Frag) (A : Ad) : TS := (tSeq (tIfS (tB (tCB (rIsV K (excsOf A)) (tCons (tVar 0) (tCons (tC (.ref A.c_Nothing)) tNil)))) (t_law_fields_46 K A) tNext) (t_law_fields_47 K A))
def t_law_fields_43 (K : PySem.W.Frag) (A : Ad) : TS := (tSeq (tIfS (tB (tCB (rIsV K (excsOf A)) (tCons (tVar 0) (tCons (tC (.ref A.c_TooMany)) tNil)))) (t_law_fields_44 K A) tNext) (t_law_fields_45 K A))
def t_law_fields_41 (K : PySem.W.Frag) (A : Ad) : TS := (tSeq (tIfS (tB (tCB (rIsV K (excsOf A)) (tCons (tVar 0) (tCons (tC (.ref A.c_NoStep)) tNil)))) (t_law_fields_42 K A) tNext) (t_law_fields_43 K A))
def t_law_fields_39 (K : PySem.W.Frag) (A : Ad) : TS := (tSeq (tIfS (tB (tCB (rIsV K (excsOf A)) (tCons (tVar 0) (tCons (tC (.ref A.c_BadText)) tNil)))) (t_law_fields_40 K A) tNext) (t_law_fields_41 K A))
def t_law_fields_37 (K : PySem.W.Frag) (A : Ad) : TS := (tSeq (tIfS (tB (tCB (rIsV K (excsOf A)) (tCons (tVar 0) (tCons (tC (.ref A.c_BadCommand)) tNil)))) (t_law_fields_38 K A) tNext) (t_law_fields_39 K A))
def t_law_fields_35 (K : PySem.W.Frag) (A : Ad) : TS := (tSeq (tIfS (tB (tCB (rIsV K (excsOf A)) (tCons (tVar 0) (tCons (tC (.ref A.c_NoRoom)) tNil)))) (t_law_fields_36 K A) tNext) (t_law_fields_37 K A))
def t_law_fields_33 (K : PySem.W.Frag) (A : Ad) : TS := (tSeq (tIfS (tB (tCB (rIsV K (excsOf A)) (tCons (tVar 0) (tCons (tC (.ref A.c_RunOver)) tNil)))) (t_law_fields_34 K A) tNext) (t_law_fields_35 K A))
def t_law_fields_31 (K : PySem.W.Frag) (A : Ad) : TS := (tSeq (tIfS (tB (tCB (rIsV K (excsOf A)) (tCons (tVar 0) (tCons (tC (.ref A.c_NoTail)) tNil)))) (t_law_fields_32 K A) tNext) (t_law_fields_33 K A))
def t_law_fields_29 (K : PySem.W.Frag) (A : Ad) : TS := (tSeq (tIfS (tB (tCB (rIsV K (excsOf A)) (tCons (tVar 0) (tCons (tC (.ref A.c_BadLog)) tNil)))) (t_law_fields_30 K A) tNext) (t_law_fields_31 K A))
def t_law_fields_27 (K : PySem.W.Frag) (A : Ad) : TS := (tSeq (tIfS (tB (tCB (rIsV K (excsOf A)) (tCons (tVar 0) (tCons (tC (.ref A.c_BadDeed)) tNil)))) (t_law_fields_28 K A) tNext) (t_law_fields_29 K A))
def t_law_fields_25 (K : PySem.W.Frag) (A : Ad) : TS := (tSeq (tIfS (tB (tCB (rIsV K (excsOf A)) (tCons (tVar 0) (tCons (tC (.ref A.c_BadArray)) tNil)))) (t_law_fields_26 K A) tNext) (t_law_fields_27 K A))
def t_law_fields_23 (K : PySem.W.Frag) (A : Ad) : TS := (tSeq (tIfS (tB (tCB (rIsV K (excsOf A)) (tCons (tVar 0) (tCons (tC (.ref A.c_BadPaper)) tNil)))) (t_law_fields_24 K A) tNext) (t_law_fields_25 K A))
def t_law_fields_21 (K : PySem.W.Frag) (A : Ad) : TS := (tSeq (tIfS (tB (tCB (rIsV K (excsOf A)) (tCons (tVar 0) (tCons (tC (.ref A.c_BadGrowth)) tNil)))) (t_law_fields_22 K A) tNext) (t_law_fields_23 K A))
def t_law_fields_19 (K : PySem.W.Frag) (A : Ad) : TS := (tSeq (tIfS (tB (tCB (rIsV K (excsOf A)) (tCons (tVar 0) (tCons (tC (.ref A.c_BadConverter)) tNil)))) (t_law_fields_20 K A) tNext) (t_law_fields_21 K A))
def t_law_fields_17 (K : PySem.W.Frag) (A : Ad) : TS := (tSeq (tIfS (tB (tCB (rIsV K (excsOf A)) (tCons (tVar 0) (tCons (tC (.ref A.c_Taken)) tNil)))) (t_law_fields_18 K A) tNext) (t_law_fields_19 K A))
def t_law_fields_15 (K : PySem.W.Frag) (A : Ad) : TS := (tSeq (tIfS (tB (tCB (rIsV K (excsOf A)) (tCons (tVar 0) (tCons (tC (.ref A.c_NoText)) tNil)))) (t_law_fields_16 K A) tNext) (t_law_fields_17 K A))
def t_law_fields_13 (K : PySem.W.Frag) (A : Ad) : TS := (tSeq (tIfS (tB (tCB (rIsV K (excsOf A)) (tCons (tVar 0) (tCons (tC (.ref A.c_NoCell)) tNil)))) (t_law_fields_14 K A) tNext) (t_law_fields_15 K A))
def t_law_fields_11 (K : PySem.W.Frag) (A : Ad) : TS := (tSeq (tIfS (tB (tCB (rIsV K (excsOf A)) (tCons (tVar 0) (tCons (tC (.ref A.c_NoState)) tNil)))) (t_law_fields_12 K A) tNext) (t_law_fields_13 K A))
def t_law_fields_9 (K : PySem.W.Frag) (A : Ad) : TS := (tSeq (tIfS (tB (tCB (rIsV K (excsOf A)) (tCons (tVar 0) (tCons (tC (.ref A.c_BadWord)) tNil)))) (t_law_fields_10 K A) tNext) (t_law_fields_11 K A))
def t_law_fields_7 (K : PySem.W.Frag) (A : Ad) : TS := (tSeq (tIfS (tB (tCB (rIsV K (excsOf A)) (tCons (tVar 0) (tCons (tC (.ref A.c_BadNumber)) tNil)))) (t_law_fields_8 K A) tNext) (t_law_fields_9 K A))
def t_law_fields_5 (K : PySem.W.Frag) (A : Ad) : TS := (tSeq (tIfS (tB (tCB (rIsV K (excsOf A)) (tCons (tVar 0) (tCons (tC (.ref A.c_BadAnswer)) tNil)))) (t_law_fields_6 K A) tNext) (t_law_fields_7 K A))
def t_law_fields_3 (K : PySem.W.Frag) (A : Ad) : TS := (tSeq (tIfS (tB (tCB (rIsV K (excsOf A)) (tCons (tVar 0) (tCons (tC (.ref A.c_BadLetter)) tNil)))) (t_law_fields_4 K A) tNext) (t_law_fields_5 K A))
def t_law_fields_1 (K : PySem.W.Frag) (A : Ad) : TS := (tSeq (tIfS (tB (tCB (rIsV K (excsOf A)) (tCons (tVar 0) (tCons (tC (.ref A.c_BadName)) tNil)))) (t_law_fields_2 K A) tNext) (t_law_fields_3 K A))
def t_law_fields_0 (K : PySem.W.Frag) (A : Ad) : TS := (tSeq (tAsg (tLstN tNil) (gName 1)) (t_law_fields_1 K A))

theorem fields_eq (K : PySem.W.Frag) (A : Ad) : t_law_fields_1 K A = E23.all.foldr (askT K A) (tRet (tVar 1)) := rfl
/-- what stands while law_fields asks: the list L that it made, the list p of the fields if it is past the class -/
structure Asked (A : Ad) (H0 H : Hp) (i : E23) (a b : V) (e L : Addr) (past : Bool) : Prop where
  g : Grow H0 H
  x : ExV H (i.c A) (i.fs a b) e
  n : H0 L = none
  nL : L ≠ sysModules
  h : if past = true then ∃ t p, H L = some (.lst [.ref t]) ∧ H t = some (.tup [.str i.nm, .ref p]) ∧ H p = some (.lst (i.val a b)) ∧ p ≠ sysModules else H L = some (.lst [])
theorem ask_go {K : PySem.W.Frag} {A : Ad} (F : KF K A) {H0 : Hp} {i : E23} {a b : V} {e L : Addr} {D : Ends} (k : ∀ H', Asked A H0 H' i a b e L true → D.rt (.ref L) H') : ∀ (l : List E23) (past : Bool) (H : Hp), l.Nodup → (past = false ↔ i ∈ l) → Asked A H0 H i a b e L past → (l.foldr (askT K A) (tRet (tVar 1))) D [some (.ref e), some (.ref L)] H
  | [], past, H, nd, hp, P => by
    have : past = true := by
      cases past
      · exact absurd (hp.mp rfl) (by simp)
      · rfl
    subst this
    show tRet (tVar 1) D _ H
    refine st_ret ?_
    (refine evE ?P22 (fun Q h => ?h22) ?_; (case h22 => (simp only [tTest, tOp, tUn, tVar, tC, tCB, tCons, tNil, tAnd, tOr, tNot, tB, tTup, tLst, tIf, tAndV, tOrV, tNotV, tSl, tPart, tNoPart, tCall, iIx_ref, oGt_int, oMod_int, oFdiv_int, oAdd_int, oAdd_str, oSub_int, oMul_int, oLt_int, oGe_int, oLe_int, oPow_int, uNeg_int, oEq_int, oEq_str, oEq_bl, oNe_int, oNe_str, oNe_bl, cInt_int, cInt_bl, cAbs_int, cLen_ref, cList_ref, stL_ref, gName, gSub, gTup, gCons, gNil, rdSeq, List.getElem?_cons_zero, List.getElem?_cons_succ, List.set_cons_zero, List.set_cons_succ, List.cons_append, List.nil_append, Option.some.injEq, exists_eq_left', V.bl.injEq, V.int.injEq, V.ref.injEq, atI_0, atI_1, atI_2, setI_1, setI_2, Bool.not_true, Bool.not_false, Bool.false_eq_true, if_false, if_true]; exact h)); (try dsimp only [gName, tNext, List.set_cons_zero, List.set_cons_succ]))
    exact k H P
  | j :: l, past, H, nd, hp, P => by
    have nd2 := (List.nodup_cons.mp nd).2
    have nj := (List.nodup_cons.mp nd).1
    show askT K A j (l.foldr (askT K A) (tRet (tVar 1))) D _ H
    unfold askT
    refine st_seq (st_if ?_)
    (refine evT ?P23 (fun Q h => ?h23) ?_; (case h23 => (simp only [tTest, tOp, tUn, tVar, tC, tCB, tCons, tNil, tAnd, tOr, tNot, tB, tTup, tLst, tIf, tAndV, tOrV, tNotV, tSl, tPart, tNoPart, tCall, iIx_ref, oGt_int, oMod_int, oFdiv_int, oAdd_int, oAdd_str, oSub_int, oMul_int, oLt_int, oGe_int, oLe_int, oPow_int, uNeg_int, oEq_int, oEq_str, oEq_bl, oNe_int, oNe_str, oNe_bl, cInt_int, cInt_bl, cAbs_int, cLen_ref, cList_ref, stL_ref, gName, gSub, gTup, gCons, gNil, rdSeq, List.getElem?_cons_zero, List.getElem?_cons_succ, List.set_cons_zero, List.set_cons_succ, List.cons_append, List.nil_append, Option.some.injEq, exists_eq_left', V.bl.injEq, V.int.injEq, V.ref.injEq, atI_0, atI_1, atI_2, setI_1, setI_2, Bool.not_true, Bool.not_false, Bool.false_eq_true, if_false, if_true]; exact h)); (try dsimp only [gName, tNext, List.set_cons_zero, List.set_cons_succ]))
    refine ⟨i.c A, E23.inE A i, e, i.fs a b, .ref (j.c A), .ref (j.c A), decide (i = j), rfl, P.x, fun u h => h, F.kit i j, ?_⟩
    by_cases ij : i = j
    · subst ij
      have hpf : past = false := hp.mpr (List.mem_cons_self ..)
      subst hpf
      have hL : H L = some (.lst []) := P.h
      rw [decide_eq_true rfl]
      refine ⟨_, rfl, if_yes ?_⟩
      refine st_drop ?_
      (refine evE ?P24 (fun Q h => ?h24) ?_; (case h24 => (simp only [tTest, tOp, tUn, tVar, tC, tCB, tCons, tNil, tAnd, tOr, tNot, tB, tTup, tLst, tIf, tAndV, tOrV, tNotV, tSl, tPart, tNoPart, tCall, iIx_ref, oGt_int, oMod_int, oFdiv_int, oAdd_int, oAdd_str, oSub_int, oMul_int, oLt_int, oGe_int, oLe_int, oPow_int, uNeg_int, oEq_int, oEq_str, oEq_bl, oNe_int, oNe_str, oNe_bl, cInt_int, cInt_bl, cAbs_int, cLen_ref, cList_ref, stL_ref, gName, gSub, gTup, gCons, gNil, rdSeq, List.getElem?_cons_zero, List.getElem?_cons_succ, List.set_cons_zero, List.set_cons_succ, List.cons_append, List.nil_append, Option.some.injEq, exists_eq_left', V.bl.injEq, V.int.injEq, V.ref.injEq, atI_0, atI_1, atI_2, setI_1, setI_2, Bool.not_true, Bool.not_false, Bool.false_eq_true, if_false, if_true, tBM, tLstN]; exact h)))
      refine ⟨.inl ⟨rfl, _, SqL.of hL⟩, ?_⟩
      refine flds P.x ?_
      have hv : List.length (i.val a b) ≤ 2 := by cases i <;> simp [E23.val]
      refine ⟨by have : sizeLine = 16777216 := rfl; omega, fun p hp2 np => ?_⟩
      refine ⟨by show 2 ≤ sizeLine; decide, fun t ht => ?_⟩
      have g1 := Grow.new (o := .lst (i.val a b)) hp2
      have g2 := Grow.new (o := .tup [.str i.nm, .ref p]) ht
      have hL2 := g2 _ _ (g1 _ _ hL)
      refine ⟨L, _, _, rfl, rfl, hL2, by show 0 < sizeLine; decide, ?_⟩
      have npL : p ≠ L := fun z => by rw [z, hL] at hp2; cases hp2
      have ntL : t ≠ L := fun z => by rw [z, upd_ne (Ne.symm npL), hL] at ht; cases ht
      have hLp : (upd H p (.lst (i.val a b))) L = some (.lst []) := g1 _ _ hL
      refine ask_go F k l true _ nd2 ⟨fun h => Bool.noConfusion h, fun h => absurd h nj⟩ ⟨fun c o e => ?_, ((P.x.grow g1).grow g2).put hL2, P.n, P.nL, ?_⟩
      · have h1 : c ≠ L := fun z => by rw [z, P.n] at e; cases e
        rw [upd_ne h1]
        exact g2 _ _ (g1 _ _ (P.g _ _ e))
      · rw [if_pos rfl]
        have hp3 : H p = none := hp2
        have ptN : p ≠ t := fun z => by rw [← z, upd_same] at ht; cases ht
        exact ⟨t, p, by rw [upd_same]; rfl, by rw [upd_ne ntL]; exact upd_same, by rw [upd_ne npL, upd_ne ptN]; exact upd_same, np⟩
    · rw [decide_eq_false ij]
      refine ⟨_, rfl, if_no ?_⟩
      refine ask_go F k l past H nd2 ⟨fun h => ?_, fun h => hp.mpr (List.mem_cons_of_mem _ h)⟩ P
      rcases List.mem_cons.mp (hp.mp h) with e | e
      · exact absurd e ij
      · exact e
theorem pure_law_fields {K : PySem.W.Frag} {A : Ad} {xs : List V} {H : Hp} {Q : VK} {E : XK} (F : KF K A) (h : sp_law_fields K A xs H Q E) : (t_law_fields_0 K A) { nx := fun _ H' => Q .non H', rt := Q } (start ["_law_error", "_law_found"] xs) H := by
  unfold sp_law_fields at h
  split at h
  · rename_i e
    obtain ⟨i, a, b, hx, k⟩ := h
    show (t_law_fields_0 K A) _ [some (.ref e), none] H
    refine st_seq (st_asg ?_)
    (refine evE ?P25 (fun Q h => ?h25) ?_; (case h25 => (simp only [tTest, tOp, tUn, tVar, tC, tCB, tCons, tNil, tAnd, tOr, tNot, tB, tTup, tLst, tIf, tAndV, tOrV, tNotV, tSl, tPart, tNoPart, tCall, iIx_ref, oGt_int, oMod_int, oFdiv_int, oAdd_int, oAdd_str, oSub_int, oMul_int, oLt_int, oGe_int, oLe_int, oPow_int, uNeg_int, oEq_int, oEq_str, oEq_bl, oNe_int, oNe_str, oNe_bl, cInt_int, cInt_bl, cAbs_int, cLen_ref, cList_ref, stL_ref, gName, gSub, gTup, gCons, gNil, rdSeq, List.getElem?_cons_zero, List.getElem?_cons_succ, List.set_cons_zero, List.set_cons_succ, List.cons_append, List.nil_append, Option.some.injEq, exists_eq_left', V.bl.injEq, V.int.injEq, V.ref.injEq, atI_0, atI_1, atI_2, setI_1, setI_2, Bool.not_true, Bool.not_false, Bool.false_eq_true, if_false, if_true, tLstN]; exact h)))
    refine ⟨by decide, fun L hL nL => ?_⟩
    (try dsimp only [gName, tNext, List.set_cons_zero, List.set_cons_succ])
    show t_law_fields_1 K A _ _ _
    rw [fields_eq]
    have g := Grow.new (o := .lst []) hL
    refine ask_go F (H0 := H) (i := i) (a := a) (b := b) (fun H' P => ?_) E23.all false _ E23.nodup ⟨fun _ => E23.mem i, fun _ => rfl⟩ ⟨g, hx.grow g, hL, nL, by rw [if_neg (by decide)]; exact upd_same⟩
    obtain ⟨g', x', n', nL', hh⟩ := P
    rw [if_pos rfl] at hh
    obtain ⟨t, p, h1, h2, h3, np⟩ := hh
    exact k L t p H' g' h1 h2 h3 nL' np
  · exact h.elim
end HG

namespace HG
open PySem L2
def sp_law (K : PySem.W.Frag) (A : Ad) : Sp := spLaw K
def t_law_7 (K : PySem.W.Frag) (A : Ad) : TS := (tRet (tC (.bl false)))
def t_law_9 (K : PySem.W.Frag) (A : Ad) : TS := (tRet (tC (.bl false)))
def t_law_11 (K : PySem.W.Frag) (A : Ad) : TS := (tRet (tC (.bl false)))
def t_law_13 (K : PySem.W.Frag) (A : Ad) : TS := (tRet (tC (.bl false)))
def t_law_12 (K : PySem.W.Frag) (A : Ad) : TS := (tIfS (tOr (tB (tCB (rIsV K (excsOf A)) (tCons (tVar 6) (tCons (tC (.ty "LookupError")) tNil)))) (tOr (tB (tCB (rIsV K (excsOf A)) (tCons (tVar 6) (tCons (tC (.ty "ArithmeticError")) tNil)))) (tB (tCB (rIsV K (excsOf A)) (tCons (tVar 6) (tCons (tC (.ty "TypeError")) tNil)))))) (t_law_13 K A) tNext)
def t_law_10 (K : PySem.W.Frag) (A : Ad) : TS := (tSeq (tIfS (tOr (tNot (tB (tCB (rIsV K (excsOf A)) (tCons (tVar 6) (tCons (tC (.ref A.c_HeadError)) tNil))))) (tNot (tB (tCB (rIsV K (excsOf A)) (tCons (tVar 6) (tCons (tC (.ty "ValueError")) tNil)))))) (t_law_11 K A) tNext) (t_law_12 K A))
def t_law_8 (K : PySem.W.Frag) (A : Ad) : TS := (tSeq (tIfS (tTest (tOp (oNe K) (tCB cReprU9 (tCons (tOp (rIx K) (tOp (rIx K) (tVar 9) (tC (.int 0))) (tC (.int 1))) tNil)) (tCB cReprU9 (tCons (tSl (rSlLN K) (tLstN (tCons (tVar 4) (tCons (tVar 5) tNil))) tNoPart (tPart (tCB (cLenE K) (tCons (tOp (rIx K) (tOp (rIx K) (tVar 9) (tC (.int 0))) (tC (.int 1))) tNil)))) tNil)))) (t_law_9 K A) tNext) (t_law_10 K A))
def t_law_6 (K : PySem.W.Frag) (A : Ad) : TS := (tSeq (tIfS (tOr (tTest (tOp (oNe K) (tCB (cLenE K) (tCons (tVar 9) tNil)) (tC (.int 1)))) (tOr (tTest (tOp (oNe K) (tCB cReprU9 (tCons (tVar 9) tNil)) (tCB cReprU9 (tCons (tCall (sp_law_fields K A) [] E0 (tCons (tVar 7) tNil)) tNil)))) (tTest (tOp (oNe K) (tOp (rIx K) (tOp (rIx K) (tVar 9) (tC (.int 0))) (tC (.int 0))) (tVar 8))))) (t_law_7 K A) tNext) (t_law_8 K A))
def t_law_5 (K : PySem.W.Frag) (A : Ad) : TS := (tSeq (tAsg (tCall (sp_law_fields K A) [] E0 (tCons (tVar 6) tNil)) (gName 9)) (t_law_6 K A))
def t_law_15 (K : PySem.W.Frag) (A : Ad) : TS := (tRet (tC (.bl false)))
def t_law_14 (K : PySem.W.Frag) (A : Ad) : TS := (tIfS (tOr (tTest (tOp (oNe K) (tCB (cLenE K) (tCons (tOp (rIx K) (tOp (rIx K) (tCall (sp_law_fields K A) [] E0 (tCons (tMkE A.c_BadText (sp_BadText_init K A) (tCons (tVar 4) (tCons (tVar 5) tNil))) tNil)) (tC (.int 0))) (tC (.int 1))) tNil)) (tC (.int 2)))) (tTest (tOp (oNe K) (tCall (sp_law_fields K A) [] E0 (tCons (tMkE A.c_Nothing (sp_Nothing_init K A) tNil) tNil)) (tLstN (tCons (tTup (tCons (tC (.str "Nothing")) (tCons (tLstN tNil) tNil))) tNil))))) (t_law_15 K A) tNext)
def t_law_4 (K : PySem.W.Frag) (A : Ad) : TS := (tSeq (tFor (iSeq K (tCall (sp_law_made K A) [] E0 (tCons (tVar 4) (tCons (tVar 5) tNil)))) (gTup K 3 (gCons (gName 6) (gCons (gName 7) (gCons (gName 8) gNil))))
    (t_law_5 K A)) (t_law_14 K A))
def t_law_3 (K : PySem.W.Frag) (A : Ad) : TS := (tSeq (tPar 4 5 (tCons (tCall (sp_law_pick K A) [] E0 (tCons (tVar 1) (tCons (tVar 2) tNil))) (tCons (tCall (sp_law_pick K A) [] E0 (tCons (tVar 1) (tCons (tVar 2) tNil))) tNil))) (t_law_4 K A))
def t_law_16 (K : PySem.W.Frag) (A : Ad) : TS := (tRet (tC (.bl true)))
def t_law_2 (K : PySem.W.Frag) (A : Ad) : TS := (tSeq (tFor (iRng1 (tCons (tC (.int 6)) tNil)) (gName 3)
    (t_law_3 K A)) (t_law_16 K A))
def t_law_1 (K : PySem.W.Frag) (A : Ad) : TS := (tSeq (tAsg (tLstN (tCons (tC .non) (tCons (tC (.int 0)) (tCons (tC (.bl true)) (tCons (tC (.str "")) (tCons (tC (.str "a b")) (tCons (tUn uNeg (tOp oPow (tC (.int 10)) (tC (.int 40)))) (tCons (tTup (tCons (tC (.int 1)) (tCons (tC (.str "x")) tNil))) (tCons (tLstN (tCons (tC (.int 2)) tNil)) (tCons (tDisp [((tC (.str "k")), (tC .non))]) tNil)))))))))) (gName 2)) (t_law_2 K A))
def t_law_0 (K : PySem.W.Frag) (A : Ad) : TS := (tSeq (tAsg (tCall (sp_law_pen K A) [] E0 (tCons (tVar 0) tNil)) (gName 1)) (t_law_1 K A))

theorem list10 {α : Type} {l : List α} (h : l.length = 10) : ∃ a0 a1 a2 a3 a4 a5 a6 a7 a8 a9, l = [a0, a1, a2, a3, a4, a5, a6, a7, a8, a9] := by
  match l, h with
  | [a0, a1, a2, a3, a4, a5, a6, a7, a8, a9], _ => exact ⟨_, _, _, _, _, _, _, _, _, _, rfl⟩
def allU : List U9 := [.non, .zero, .tru, .emp, .ab, .big, .tup, .lst, .dic]
theorem val_map {α β : Type} (f : α → β) (a b : α) (i : E23) : i.val (f a) (f b) = (i.val a b).map f := by cases i <;> rfl
theorem nm_ok (i : E23) : PyData.leavesShort 60 (.str i.nm) = true ∧ PyData.weight (.str i.nm) ≤ 100 := by cases i <;> decide +kernel
theorem val_len {α : Type} (a b : α) (i : E23) : (i.val a b).length ≤ 2 := by cases i <;> simp [E23.val]
theorem val_cut {a b : V} (i : E23) : cutV [a, b] none (some ((i.val a b).length : Nat)) = i.val a b := by cases i <;> rfl
theorem Sts.keep {H H' : Hp} {p l : Addr} {n : Nat} {w : Thr} (S : Sts H w) (hp : PenL H p l n) (k : Keep p H H') : Sts H' w := by
  obtain ⟨c, t, r, h1, _⟩ := hp
  refine ⟨k _ _ (fun z => ?_) S.ht, k _ _ (fun z => ?_) S.hl, k _ _ (fun z => ?_) S.hd⟩
  · have := S.ht; rw [z, h1] at this; cases this
  · have := S.hl; rw [z, h1] at this; cases this
  · have := S.hd; rw [z, h1] at this; cases this
theorem paired_at {α β : Type} {F : α → β → Prop} {f : β → V} : ∀ {l : List α} {m : List β} {j : Nat}, Paired F l m → j < m.length → ∃ i r, F i r ∧ (m.map f).getD j .non = f r
  | _, _, _, .nil, h => absurd h (by simp)
  | _, _, 0, .cons (a := i) (b := r) a _, _ => ⟨i, r, a, rfl⟩
  | _, _, j + 1, .cons _ b, h => by
    obtain ⟨i, r, h1, h2⟩ := paired_at (f := f) b (Nat.lt_of_succ_lt_succ h)
    exact ⟨i, r, h1, by simpa using h2⟩
theorem int_same {K : PySem.W.Frag} {x y : Int} {H : Hp} {Q : VK} (e : x = y) (k : Q (.bl false) H) : oNe K (.int x) (.int y) H Q := by
  subst e
  show Q (.bl (!decide (x = x))) H
  rw [decide_eq_true rfl]
  exact k
theorem mkV2 {C : Addr} {f g : Str} {sp : Sp} {a b : V} {i j : Nat} {σ : L2.St} {H : Hp} {Q : VK} (e : sp = spX2 C f g) (h1 : σ[i]? = some (some a)) (h2 : σ[j]? = some (some b)) (k : ∀ x H', Grow H H' → ExV H' C [(g, b), (f, a)] x → Q (.ref x) H') : tMkE C sp (tCons (tVar i) (tCons (tVar j) tNil)) σ H Q := by
  subst e
  exact ⟨a, h1, b, h2, mk_x2 k⟩
theorem mkV0 {C : Addr} {sp : Sp} {σ : L2.St} {H : Hp} {Q : VK} (e : sp = spX0 C) (k : ∀ x H', Grow H H' → ExV H' C [] x → Q (.ref x) H') : tMkE C sp tNil σ H Q := by
  subst e
  exact mk_x0 k
def nothD : PyData := .list [.tuple [.str (Str.ofString "Nothing"), .list []]]
theorem noth_data {H : Hp} {L t p : Addr} (e1 : H L = some (.lst [.ref t])) (e2 : H t = some (.tup [.str (Str.ofString "Nothing"), .ref p])) (e3 : H p = some (.lst [])) : dataF 8 H (.ref L) = some nothD := by
  simp only [dataF, e1, e2, e3, dataL, Option.map, nothD]
theorem noth_ne {K : PySem.W.Frag} {H : Hp} {L t p L' t' p' : Addr} {Q : VK} (e1 : H L = some (.lst [.ref t])) (e2 : H t = some (.tup [.str (Str.ofString "Nothing"), .ref p])) (e3 : H p = some (.lst []))
    (f1 : H L' = some (.lst [.ref t'])) (f2 : H t' = some (.tup [.str (Str.ofString "Nothing"), .ref p'])) (f3 : H p' = some (.lst [])) (k : Q (.bl false) H) : oNe K (.ref L) (.ref L') H Q := by
  simp only [oNe, noth_data e1 e2 e3, noth_data f1 f2 f3]
  refine ⟨by decide +kernel, by decide +kernel, ?_⟩
  rw [show (!PyData.eqv nothD nothD) = false from by decide +kernel]
  exact k
theorem str_same {K : PySem.W.Frag} {x : Str} {H : Hp} {Q : VK} (k : Q (.bl false) H) : oNe K (.str x) (.str x) H Q := by
  show Q (.bl (!decide (x = x))) H
  rw [decide_eq_true rfl]
  exact k
def toldS (x y : U9) (i : E23) : Str := PyData.shown (.list [.tuple [.str i.nm, .list ((i.val x y).map U9.p)]])
def valsS (x y : U9) (i : E23) : Str := PyData.shown (.list ((i.val x y).map U9.p))
section
variable {H : Hp} {w : Thr} {x y : U9} {i : E23} {L t p : Addr} {Q : VK}
theorem repr_told (S : Sts H w) (nl : w.l ≠ sysModules) (e1 : H L = some (.lst [.ref t])) (e2 : H t = some (.tup [.str i.nm, .ref p])) (e3 : H p = some (.lst (i.val (U9.v w x) (U9.v w y)))) (n1 : L ≠ sysModules) (n2 : p ≠ sysModules) (k : Q (.str (toldS x y i)) H) : cReprU9 [.ref L] H Q :=
  ⟨w, i.val x y, S, nl, Nat.le_trans (val_len x y i) (by decide), L, rfl, n1, .inr ⟨t, p, i.nm, e1, e2, n2, by rw [e3, val_map (U9.v w) x y i], (nm_ok i).1, (nm_ok i).2, k⟩⟩
theorem repr_vals (S : Sts H w) (nl : w.l ≠ sysModules) (e3 : H p = some (.lst (i.val (U9.v w x) (U9.v w y)))) (n2 : p ≠ sysModules) (k : Q (.str (valsS x y i)) H) : cReprU9 [.ref p] H Q :=
  ⟨w, i.val x y, S, nl, Nat.le_trans (val_len x y i) (by decide), p, rfl, n2, .inl ⟨by rw [e3, val_map (U9.v w) x y i], k⟩⟩
end
theorem pure_law {K : PySem.W.Frag} {A : Ad} {vs : List V} {H : Hp} {Q : VK} {E : XK} (F : KF K A) (h : sp_law K A vs H Q E) : (t_law_0 K A) { nx := fun _ H' => Q .non H', rt := Q } (start ["_law_script", "_law_pen_here", "_law_some", "_law_turn", "_law_x", "_law_y", "_law_error", "_law_other", "_law_name", "_law_told"] vs) H := by
  unfold sp_law spLaw at h
  split at h
  · rename_i sc
    obtain ⟨⟨ns, hs⟩, k⟩ := h
    have hsz : sizeLine = 16777216 := rfl
    show (t_law_0 K A) _ [some (.ref sc), none, none, none, none, none, none, none, none, none] H
    refine st_seq (st_asg ?_)
    (refine evE ?P26 (fun Q h => ?h26) ?_; (case h26 => (simp only [tTest, tOp, tUn, tVar, tC, tCB, tCons, tNil, tAnd, tOr, tNot, tB, tTup, tLst, tIf, tAndV, tOrV, tNotV, tSl, tPart, tNoPart, tCall, iIx_ref, oGt_int, oMod_int, oFdiv_int, oAdd_int, oAdd_str, oSub_int, oMul_int, oLt_int, oGe_int, oLe_int, oPow_int, uNeg_int, oEq_int, oEq_str, oEq_bl, oNe_int, oNe_str, oNe_bl, cInt_int, cInt_bl, cAbs_int, cLen_ref, cList_ref, stL_ref, gName, gSub, gTup, gCons, gNil, rdSeq, List.getElem?_cons_zero, List.getElem?_cons_succ, List.set_cons_zero, List.set_cons_succ, List.cons_append, List.nil_append, Option.some.injEq, exists_eq_left', V.bl.injEq, V.int.injEq, V.ref.injEq, atI_0, atI_1, atI_2, setI_1, setI_2, Bool.not_true, Bool.not_false, Bool.false_eq_true, if_false, if_true]; exact h)); (try dsimp only [gName, tNext, List.set_cons_zero, List.set_cons_succ]))
    refine ⟨ns, hs, fun p l H1 hp g0 _ => ?_⟩
    (try dsimp only [gName, tNext, List.set_cons_zero, List.set_cons_succ])
    show t_law_1 K A _ _ _
    refine st_seq (st_asg ?_)
    (refine evE ?P29 (fun Q h => ?h29) ?_; (case h29 => (simp only [tTest, tOp, tUn, tVar, tC, tCB, tCons, tNil, tAnd, tOr, tNot, tB, tTup, tLst, tIf, tAndV, tOrV, tNotV, tSl, tPart, tNoPart, tCall, iIx_ref, oGt_int, oMod_int, oFdiv_int, oAdd_int, oAdd_str, oSub_int, oMul_int, oLt_int, oGe_int, oLe_int, oPow_int, uNeg_int, oEq_int, oEq_str, oEq_bl, oNe_int, oNe_str, oNe_bl, cInt_int, cInt_bl, cAbs_int, cLen_ref, cList_ref, stL_ref, gName, gSub, gTup, gCons, gNil, rdSeq, List.getElem?_cons_zero, List.getElem?_cons_succ, List.set_cons_zero, List.set_cons_succ, List.cons_append, List.nil_append, Option.some.injEq, exists_eq_left', V.bl.injEq, V.int.injEq, V.ref.injEq, atI_0, atI_1, atI_2, setI_1, setI_2, Bool.not_true, Bool.not_false, Bool.false_eq_true, if_false, if_true, tLstN]; exact h)))
    refine ⟨by simp only [CPow]; decide, ?_⟩
    refine ⟨by show 2 ≤ sizeLine; decide, fun t9 ht9 => ?_⟩
    refine ⟨by show 1 ≤ sizeLine; decide, fun l9 hl9 nl9 => ?_⟩
    unfold tDisp
    intro d9 hd9
    dsimp only [tPairs, tC]
    refine ⟨upd_same, [(.inr "k", .non)], rfl, by decide, ?_⟩
    refine ⟨by show 9 ≤ sizeLine; decide, fun s9 hs9 ns9 => ?_⟩
    have ga := Grow.new (o := .tup [V.int 1, V.str "x"]) ht9
    have gb := Grow.new (o := .lst [V.int 2]) hl9
    have gc := Grow.new (o := .dK []) hd9
    have hd9' : ∀ a o, (upd (upd H1 t9 (.tup [V.int 1, V.str "x"])) l9 (.lst [V.int 2])) a = some o → a ≠ d9 := fun a o e z => by rw [z, hd9] at e; cases e
    have gd : ∀ o2, Grow (upd (upd H1 t9 (.tup [V.int 1, V.str "x"])) l9 (.lst [V.int 2])) (upd (upd (upd (upd H1 t9 (.tup [V.int 1, V.str "x"])) l9 (.lst [V.int 2])) d9 (.dK [])) d9 o2) := fun o2 b o e => by rw [upd_ne (hd9' b o e), upd_ne (hd9' b o e)]; exact e
    have ge := Grow.new (o := .lst [V.non, V.int 0, V.bl true, V.str (Str.ofString ""), V.str (Str.ofString "a b"), V.int (-10 ^ Int.toNat 40), V.ref t9, V.ref l9, V.ref d9]) hs9
    have S : Sts (upd (upd (upd (upd (upd H1 t9 (.tup [V.int 1, V.str "x"])) l9 (.lst [V.int 2])) d9 (.dK [])) d9 (.dK (mergeK [] [(Sum.inr (Str.ofString "k"), V.non)]))) s9 (.lst [V.non, V.int 0, V.bl true, V.str (Str.ofString ""), V.str (Str.ofString "a b"), V.int (-10 ^ Int.toNat 40), V.ref t9, V.ref l9, V.ref d9])) ⟨t9, l9, d9⟩ :=
      ⟨ge _ _ (gd _ _ _ (gb _ _ upd_same)), ge _ _ (gd _ _ _ upd_same), ge _ _ upd_same⟩
    have hs2 : (upd (upd (upd (upd (upd H1 t9 (.tup [V.int 1, V.str "x"])) l9 (.lst [V.int 2])) d9 (.dK [])) d9 (.dK (mergeK [] [(Sum.inr (Str.ofString "k"), V.non)]))) s9 (.lst [V.non, V.int 0, V.bl true, V.str (Str.ofString ""), V.str (Str.ofString "a b"), V.int (-10 ^ Int.toNat 40), V.ref t9, V.ref l9, V.ref d9])) s9 = some (.lst (allU.map (U9.v ⟨t9, l9, d9⟩))) := upd_same
    have hp2 := hp.grow (ga.trans (gb.trans ((gd _).trans ge)))
    (try dsimp only [gName, tNext, List.set_cons_zero, List.set_cons_succ])
    show t_law_2 K A _ _ _
    generalize upd _ s9 _ = H2 at *
    have nl : (Thr.mk t9 l9 d9).l ≠ sysModules := nl9
    generalize (⟨t9, l9, d9⟩ : Thr) = w at *
    clear hs ht9 hl9 hd9 hs9 ga gb gc hd9' gd ge hp g0 ns9 nl9 H1
    refine st_seq (for_rng1 ?_)
    (refine evA ?P30 (fun Q h => ?h30) ?_; (case h30 => (simp only [tTest, tOp, tUn, tVar, tC, tCB, tCons, tNil, tAnd, tOr, tNot, tB, tTup, tLst, tIf, tAndV, tOrV, tNotV, tSl, tPart, tNoPart, tCall, iIx_ref, oGt_int, oMod_int, oFdiv_int, oAdd_int, oAdd_str, oSub_int, oMul_int, oLt_int, oGe_int, oLe_int, oPow_int, uNeg_int, oEq_int, oEq_str, oEq_bl, oNe_int, oNe_str, oNe_bl, cInt_int, cInt_bl, cAbs_int, cLen_ref, cList_ref, stL_ref, gName, gSub, gTup, gCons, gNil, rdSeq, List.getElem?_cons_zero, List.getElem?_cons_succ, List.set_cons_zero, List.set_cons_succ, List.cons_append, List.nil_append, Option.some.injEq, exists_eq_left', V.bl.injEq, V.int.injEq, V.ref.injEq, atI_0, atI_1, atI_2, setI_1, setI_2, Bool.not_true, Bool.not_false, Bool.false_eq_true, if_false, if_true]; exact h)))
    refine ⟨6, rfl, by decide, by decide, ?_⟩
    refine for_itr (fun i σ H => σ.length = 10 ∧ σ[1]? = some (some (.ref p)) ∧ σ[2]? = some (some (.ref s9)) ∧ PenL H p l (2 * i) ∧ Sts H w ∧ H s9 = some (.lst (allU.map (U9.v w)))) ?_ (fun σ H h => ?_) (fun i σ H hi h => ?_)
    · exact ⟨rfl, rfl, rfl, hp2, S, hs2⟩
    · (try dsimp only [gName, tNext, List.set_cons_zero, List.set_cons_succ])
      show t_law_16 K A _ _ _
      refine st_ret ?_
      (refine evE ?P27 (fun Q h => ?h27) ?_; (case h27 => (simp only [tTest, tOp, tUn, tVar, tC, tCB, tCons, tNil, tAnd, tOr, tNot, tB, tTup, tLst, tIf, tAndV, tOrV, tNotV, tSl, tPart, tNoPart, tCall, iIx_ref, oGt_int, oMod_int, oFdiv_int, oAdd_int, oAdd_str, oSub_int, oMul_int, oLt_int, oGe_int, oLe_int, oPow_int, uNeg_int, oEq_int, oEq_str, oEq_bl, oNe_int, oNe_str, oNe_bl, cInt_int, cInt_bl, cAbs_int, cLen_ref, cList_ref, stL_ref, gName, gSub, gTup, gCons, gNil, rdSeq, List.getElem?_cons_zero, List.getElem?_cons_succ, List.set_cons_zero, List.set_cons_succ, List.cons_append, List.nil_append, Option.some.injEq, exists_eq_left', V.bl.injEq, V.int.injEq, V.ref.injEq, atI_0, atI_1, atI_2, setI_1, setI_2, Bool.not_true, Bool.not_false, Bool.false_eq_true, if_false, if_true]; exact h)); (try dsimp only [gName, tNext, List.set_cons_zero, List.set_cons_succ]))
      exact k _
    · clear hp2 S hs2 H2
      obtain ⟨hl, h1, h2, hp, S, hs⟩ := h
      obtain ⟨a0, a1, a2, a3, a4, a5, a6, a7, a8, a9, rfl⟩ := list10 hl
      have e1 : a1 = some (.ref p) := Option.some.inj h1
      have e2 : a2 = some (.ref s9) := Option.some.inj h2
      subst e1 e2
      clear hl h1 h2
      have nsp : s9 ≠ p := fun z => by
        obtain ⟨c, t, r, q1, _⟩ := hp
        rw [z, q1] at hs
        have := congrArg List.length (HO.lst.inj (Option.some.inj hs))
        simp [allU] at this
      (try dsimp only [gName, tNext, List.set_cons_zero, List.set_cons_succ])
      show t_law_3 K A _ _ _
      refine st_seq ?_
      unfold tPar
      (refine evA ?P28 (fun Q h => ?h28) ?_; (case h28 => (simp only [tTest, tOp, tUn, tVar, tC, tCB, tCons, tNil, tAnd, tOr, tNot, tB, tTup, tLst, tIf, tAndV, tOrV, tNotV, tSl, tPart, tNoPart, tCall, iIx_ref, oGt_int, oMod_int, oFdiv_int, oAdd_int, oAdd_str, oSub_int, oMul_int, oLt_int, oGe_int, oLe_int, oPow_int, uNeg_int, oEq_int, oEq_str, oEq_bl, oNe_int, oNe_str, oNe_bl, cInt_int, cInt_bl, cAbs_int, cLen_ref, cList_ref, stL_ref, gName, gSub, gTup, gCons, gNil, rdSeq, List.getElem?_cons_zero, List.getElem?_cons_succ, List.set_cons_zero, List.set_cons_succ, List.cons_append, List.nil_append, Option.some.injEq, exists_eq_left', V.bl.injEq, V.int.injEq, V.ref.injEq, atI_0, atI_1, atI_2, setI_1, setI_2, Bool.not_true, Bool.not_false, Bool.false_eq_true, if_false, if_true]; exact h)); (try dsimp only [gName, tNext, List.set_cons_zero, List.set_cons_succ]))
      refine ⟨l, _, _, hp, by omega, hs, nsp, by simp [allU], by simp [allU], fun x1 H3 hy hp3 k3 => ?_⟩
      obtain ⟨x, _, rfl⟩ := List.mem_map.mp hy
      clear hy
      replace S := S.keep hp k3
      replace hs := k3 _ _ nsp hs
      refine ⟨l, _, _, hp3, by omega, hs, nsp, by simp [allU], by simp [allU], fun y1 H4 hy hp4 k4 => ?_⟩
      obtain ⟨y, _, rfl⟩ := List.mem_map.mp hy
      clear hy
      replace S := S.keep hp3 k4
      replace hs := k4 _ _ nsp hs
      clear hp hp3 k3 k4 H H3
      refine ⟨_, _, rfl, ?_⟩
      (try dsimp only [gName, tNext, List.set_cons_zero, List.set_cons_succ])
      show t_law_4 K A _ _ _
      refine st_seq (for_seq ?_)
      (refine evE ?P31 (fun Q h => ?h31) ?_; (case h31 => (simp only [tTest, tOp, tUn, tVar, tC, tCB, tCons, tNil, tAnd, tOr, tNot, tB, tTup, tLst, tIf, tAndV, tOrV, tNotV, tSl, tPart, tNoPart, tCall, iIx_ref, oGt_int, oMod_int, oFdiv_int, oAdd_int, oAdd_str, oSub_int, oMul_int, oLt_int, oGe_int, oLe_int, oPow_int, uNeg_int, oEq_int, oEq_str, oEq_bl, oNe_int, oNe_str, oNe_bl, cInt_int, cInt_bl, cAbs_int, cLen_ref, cList_ref, stL_ref, gName, gSub, gTup, gCons, gNil, rdSeq, List.getElem?_cons_zero, List.getElem?_cons_succ, List.set_cons_zero, List.set_cons_succ, List.cons_append, List.nil_append, Option.some.injEq, exists_eq_left', V.bl.injEq, V.int.injEq, V.ref.injEq, atI_0, atI_1, atI_2, setI_1, setI_2, Bool.not_true, Bool.not_false, Bool.false_eq_true, if_false, if_true]; exact h)))
      refine fun L rs H5 g5 hL R => ?_
      replace S := S.grow g5
      replace hs := g5 _ _ hs
      replace hp := hp4.grow g5
      clear g5 hp4
      have hlen : rs.length = 23 := (Paired.length R).symm.trans (by decide)
      refine seqW (xs := rs.map fun r => V.ref r.t) (.l hL) fun J hJ => ?_
      refine for_jok hJ (fun j σ H => Grow H5 H ∧ ∃ b6 b7 b8 b9, σ = [a0, some (.ref p), some (.ref s9), some (.int (0 + (i : Int))), some (U9.v w x), some (U9.v w y), b6, b7, b8, b9]) ?_ (fun _ _ _ h => h.1) (fun σ H h => ?_) (fun j σ H hj h => ?_)
      · exact ⟨.refl, _, _, _, _, rfl⟩
      · obtain ⟨g6, b6, b7, b8, b9, rfl⟩ := h
        (try dsimp only [gName, tNext, List.set_cons_zero, List.set_cons_succ])
        show t_law_14 K A _ _ _
        refine st_if ?_
        (refine evT ?P32 (fun Q h => ?h32) ?_; (case h32 => (simp only [tTest, tOp, tUn, tVar, tC, tCB, tCons, tNil, tAnd, tOr, tNot, tB, tTup, tLst, tIf, tAndV, tOrV, tNotV, tSl, tPart, tNoPart, tCall, iIx_ref, oGt_int, oMod_int, oFdiv_int, oAdd_int, oAdd_str, oSub_int, oMul_int, oLt_int, oGe_int, oLe_int, oPow_int, uNeg_int, oEq_int, oEq_str, oEq_bl, oNe_int, oNe_str, oNe_bl, cInt_int, cInt_bl, cAbs_int, cLen_ref, cList_ref, stL_ref, gName, gSub, gTup, gCons, gNil, rdSeq, List.getElem?_cons_zero, List.getElem?_cons_succ, List.set_cons_zero, List.set_cons_succ, List.cons_append, List.nil_append, Option.some.injEq, exists_eq_left', V.bl.injEq, V.int.injEq, V.ref.injEq, atI_0, atI_1, atI_2, setI_1, setI_2, Bool.not_true, Bool.not_false, Bool.false_eq_true, if_false, if_true, tLstN]; exact h)))
        refine mkV2 rfl rfl rfl (fun x1 H6 g6' X1 => ?_)
        refine ⟨.BadText, _, _, X1, fun L1 t1 p1 H7 g7 e1 e2 e3 n1 n2 => ?_⟩
        refine ixE (.l e1) (v := .ref t1) rfl ?_
        refine ixE (.t e2) (v := .ref p1) rfl ?_
        refine lenE (.l e3) ?_
        refine int_same rfl ⟨_, rfl, if_no ?_⟩
        refine mkV0 rfl (fun x2 H8 g8 X2 => ?_)
        refine ⟨.Nothing, .non, .non, X2, fun L2 t2 p2 H9 g9 f1 f2 f3 m1 m2 => ?_⟩
        refine ⟨by decide, fun p3 hp3 _ => ?_⟩
        refine ⟨by show 2 ≤ sizeLine; decide, fun t3 ht3 => ?_⟩
        refine ⟨by show 1 ≤ sizeLine; decide, fun L3 hL3 _ => ?_⟩
        have ga := Grow.new (o := .lst []) hp3
        have gb := Grow.new (o := .tup [V.str (Str.ofString "Nothing"), V.ref p3]) ht3
        have gc := Grow.new (o := .lst [V.ref t3]) hL3
        have gg := ga.trans (gb.trans gc)
        refine noth_ne (gg _ _ f1) (gg _ _ f2) (gg _ _ f3) upd_same (gc _ _ upd_same) (gc _ _ (gb _ _ upd_same)) ⟨_, rfl, if_no ?_⟩
        have gz := g6.trans (g6'.trans (g7.trans (g8.trans (g9.trans gg))))
        exact ⟨rfl, rfl, rfl, (hp.grow gz).up (by omega), S.grow gz, gz _ _ hs⟩
      · obtain ⟨g6, b6, b7, b8, b9, rfl⟩ := h
        rw [List.length_map] at hj
        obtain ⟨ic, r, RR, eg⟩ := paired_at (f := fun r : R3 => V.ref r.t) R hj
        rw [eg]
        clear eg hj
        replace RR := RR.grow g6
        replace S := S.grow g6
        refine ⟨r.t, _, rfl, SqT.of RR.ht, rfl, ?_⟩
        simp only [tTest, tOp, tUn, tVar, tC, tCB, tCons, tNil, tAnd, tOr, tNot, tB, tTup, tLst, tIf, tAndV, tOrV, tNotV, tSl, tPart, tNoPart, tCall, iIx_ref, oGt_int, oMod_int, oFdiv_int, oAdd_int, oAdd_str, oSub_int, oMul_int, oLt_int, oGe_int, oLe_int, oPow_int, uNeg_int, oEq_int, oEq_str, oEq_bl, oNe_int, oNe_str, oNe_bl, cInt_int, cInt_bl, cAbs_int, cLen_ref, cList_ref, stL_ref, gName, gSub, gTup, gCons, gNil, rdSeq, List.getElem?_cons_zero, List.getElem?_cons_succ, List.set_cons_zero, List.set_cons_succ, List.cons_append, List.nil_append, Option.some.injEq, exists_eq_left', V.bl.injEq, V.int.injEq, V.ref.injEq, atI_0, atI_1, atI_2, setI_1, setI_2, Bool.not_true, Bool.not_false, Bool.false_eq_true, if_false, if_true]
        refine ⟨_, _, rfl, _, _, rfl, _, _, rfl, rfl, ?_⟩
        (try dsimp only [gName, tNext, List.set_cons_zero, List.set_cons_succ])
        show t_law_5 K A _ _ _
        refine st_seq (st_asg ?_)
        (refine evE ?P33 (fun Q h => ?h33) ?_; (case h33 => (simp only [tTest, tOp, tUn, tVar, tC, tCB, tCons, tNil, tAnd, tOr, tNot, tB, tTup, tLst, tIf, tAndV, tOrV, tNotV, tSl, tPart, tNoPart, tCall, iIx_ref, oGt_int, oMod_int, oFdiv_int, oAdd_int, oAdd_str, oSub_int, oMul_int, oLt_int, oGe_int, oLe_int, oPow_int, uNeg_int, oEq_int, oEq_str, oEq_bl, oNe_int, oNe_str, oNe_bl, cInt_int, cInt_bl, cAbs_int, cLen_ref, cList_ref, stL_ref, gName, gSub, gTup, gCons, gNil, rdSeq, List.getElem?_cons_zero, List.getElem?_cons_succ, List.set_cons_zero, List.set_cons_succ, List.cons_append, List.nil_append, Option.some.injEq, exists_eq_left', V.bl.injEq, V.int.injEq, V.ref.injEq, atI_0, atI_1, atI_2, setI_1, setI_2, Bool.not_true, Bool.not_false, Bool.false_eq_true, if_false, if_true]; exact h)))
        refine ⟨ic, _, _, RR.h1, fun L1 t1 p1 H7 g7 e1 e2 e3 n1 n2 => ?_⟩
        replace RR := RR.grow g7
        replace S := S.grow g7
        (try dsimp only [gName, tNext, List.set_cons_zero, List.set_cons_succ])
        show t_law_6 K A _ _ _
        refine st_seq (st_if ?_)
        (refine evT ?P34 (fun Q h => ?h34) ?_; (case h34 => (simp only [tTest, tOp, tUn, tVar, tC, tCB, tCons, tNil, tAnd, tOr, tNot, tB, tTup, tLst, tIf, tAndV, tOrV, tNotV, tSl, tPart, tNoPart, tCall, iIx_ref, oGt_int, oMod_int, oFdiv_int, oAdd_int, oAdd_str, oSub_int, oMul_int, oLt_int, oGe_int, oLe_int, oPow_int, uNeg_int, oEq_int, oEq_str, oEq_bl, oNe_int, oNe_str, oNe_bl, cInt_int, cInt_bl, cAbs_int, cLen_ref, cList_ref, stL_ref, gName, gSub, gTup, gCons, gNil, rdSeq, List.getElem?_cons_zero, List.getElem?_cons_succ, List.set_cons_zero, List.set_cons_succ, List.cons_append, List.nil_append, Option.some.injEq, exists_eq_left', V.bl.injEq, V.int.injEq, V.ref.injEq, atI_0, atI_1, atI_2, setI_1, setI_2, Bool.not_true, Bool.not_false, Bool.false_eq_true, if_false, if_true]; exact h)))
        refine lenE (.l e1) ?_
        refine int_same rfl ?_
        refine ⟨_, rfl, if_no ?_⟩
        refine repr_told S nl e1 e2 e3 n1 n2 ?_
        refine ⟨ic, _, _, RR.h2, fun L2 t2 p2 H8 g8 f1 f2 f3 m1 m2 => ?_⟩
        refine repr_told (S.grow g8) nl f1 f2 f3 m1 m2 ?_
        refine str_same ⟨_, rfl, if_no ?_⟩
        replace RR := RR.grow g8
        replace S := S.grow g8
        replace e1 := g8 _ _ e1
        replace e2 := g8 _ _ e2
        replace e3 := g8 _ _ e3
        clear f1 f2 f3 m1 m2
        refine ixE (.l e1) (v := .ref t1) rfl ?_
        refine ixE (.t e2) (v := .str ic.nm) rfl ?_
        refine str_same ⟨_, rfl, if_no ?_⟩
        show t_law_8 K A _ _ _
        refine st_seq (st_if ?_)
        (refine evT ?P35 (fun Q h => ?h35) ?_; (case h35 => (simp only [tTest, tOp, tUn, tVar, tC, tCB, tCons, tNil, tAnd, tOr, tNot, tB, tTup, tLst, tIf, tAndV, tOrV, tNotV, tSl, tPart, tNoPart, tCall, iIx_ref, oGt_int, oMod_int, oFdiv_int, oAdd_int, oAdd_str, oSub_int, oMul_int, oLt_int, oGe_int, oLe_int, oPow_int, uNeg_int, oEq_int, oEq_str, oEq_bl, oNe_int, oNe_str, oNe_bl, cInt_int, cInt_bl, cAbs_int, cLen_ref, cList_ref, stL_ref, gName, gSub, gTup, gCons, gNil, rdSeq, List.getElem?_cons_zero, List.getElem?_cons_succ, List.set_cons_zero, List.set_cons_succ, List.cons_append, List.nil_append, Option.some.injEq, exists_eq_left', V.bl.injEq, V.int.injEq, V.ref.injEq, atI_0, atI_1, atI_2, setI_1, setI_2, Bool.not_true, Bool.not_false, Bool.false_eq_true, if_false, if_true, tLstN]; exact h)))
        refine ixE (.l e1) (v := .ref t1) rfl ?_
        refine ixE (.t e2) (v := .ref p1) rfl ?_
        refine repr_vals S nl e3 n2 ?_
        refine ⟨by show 2 ≤ sizeLine; decide, fun p3 hp3 n3 => ?_⟩
        have g9 := Grow.new (o := .lst [U9.v w x, U9.v w y]) hp3
        refine ixE (.l (g9 _ _ e1)) (v := .ref t1) rfl ?_
        refine ixE (.t (g9 _ _ e2)) (v := .ref p1) rfl ?_
        refine lenE (.l (g9 _ _ e3)) ?_
        refine ⟨_, rfl, p3, _, rfl, SqL.of upd_same, fun p4 hp4 n4 => ?_⟩
        rw [val_cut]
        have g10 := Grow.new (o := .lst (ic.val (U9.v w x) (U9.v w y))) hp4
        refine repr_vals (S.grow (g9.trans g10)) nl upd_same n4 ?_
        refine str_same ⟨_, rfl, if_no ?_⟩
        replace RR := RR.grow (g9.trans g10)
        replace g6 := g6.trans (g7.trans (g8.trans (g9.trans g10)))
        clear S e1 e2 e3 n1 n2 n3 n4 g7 g8 g9 g10 hp3
        generalize upd _ p4 _ = H9 at *
        show t_law_10 K A _ _ _
        refine st_seq (st_if ?_)
        (refine evT ?P36 (fun Q h => ?h36) ?_; (case h36 => (simp only [tTest, tOp, tUn, tVar, tC, tCB, tCons, tNil, tAnd, tOr, tNot, tB, tTup, tLst, tIf, tAndV, tOrV, tNotV, tSl, tPart, tNoPart, tCall, iIx_ref, oGt_int, oMod_int, oFdiv_int, oAdd_int, oAdd_str, oSub_int, oMul_int, oLt_int, oGe_int, oLe_int, oPow_int, uNeg_int, oEq_int, oEq_str, oEq_bl, oNe_int, oNe_str, oNe_bl, cInt_int, cInt_bl, cAbs_int, cLen_ref, cList_ref, stL_ref, gName, gSub, gTup, gCons, gNil, rdSeq, List.getElem?_cons_zero, List.getElem?_cons_succ, List.set_cons_zero, List.set_cons_succ, List.cons_append, List.nil_append, Option.some.injEq, exists_eq_left', V.bl.injEq, V.int.injEq, V.ref.injEq, atI_0, atI_1, atI_2, setI_1, setI_2, Bool.not_true, Bool.not_false, Bool.false_eq_true, if_false, if_true]; exact h)))
        refine ⟨ic.c A, E23.inE A ic, r.one, _, .ref A.c_HeadError, .ref A.c_HeadError, true, rfl, RR.h1, fun u h => h, F.kh ic, ?_⟩
        refine ⟨true, rfl, if_no ?_⟩
        refine ⟨ic.c A, E23.inE A ic, r.one, _, .ty "ValueError", .type "ValueError", true, rfl, RR.h1, fun u h => h, F.kb ic ("ValueError", true) (by simp [BT]), ?_⟩
        refine ⟨true, rfl, if_no ?_⟩
        show t_law_12 K A _ _ _
        refine st_if ?_
        (refine evT ?P37 (fun Q h => ?h37) ?_; (case h37 => (simp only [tTest, tOp, tUn, tVar, tC, tCB, tCons, tNil, tAnd, tOr, tNot, tB, tTup, tLst, tIf, tAndV, tOrV, tNotV, tSl, tPart, tNoPart, tCall, iIx_ref, oGt_int, oMod_int, oFdiv_int, oAdd_int, oAdd_str, oSub_int, oMul_int, oLt_int, oGe_int, oLe_int, oPow_int, uNeg_int, oEq_int, oEq_str, oEq_bl, oNe_int, oNe_str, oNe_bl, cInt_int, cInt_bl, cAbs_int, cLen_ref, cList_ref, stL_ref, gName, gSub, gTup, gCons, gNil, rdSeq, List.getElem?_cons_zero, List.getElem?_cons_succ, List.set_cons_zero, List.set_cons_succ, List.cons_append, List.nil_append, Option.some.injEq, exists_eq_left', V.bl.injEq, V.int.injEq, V.ref.injEq, atI_0, atI_1, atI_2, setI_1, setI_2, Bool.not_true, Bool.not_false, Bool.false_eq_true, if_false, if_true]; exact h)))
        refine ⟨ic.c A, E23.inE A ic, r.one, _, .ty "LookupError", .type "LookupError", false, rfl, RR.h1, fun u h => h, F.kb ic ("LookupError", false) (by simp [BT]), ?_⟩
        refine ⟨false, rfl, if_no ?_⟩
        refine ⟨ic.c A, E23.inE A ic, r.one, _, .ty "ArithmeticError", .type "ArithmeticError", false, rfl, RR.h1, fun u h => h, F.kb ic ("ArithmeticError", false) (by simp [BT]), ?_⟩
        refine ⟨false, rfl, if_no ?_⟩
        refine ⟨ic.c A, E23.inE A ic, r.one, _, .ty "TypeError", .type "TypeError", false, rfl, RR.h1, fun u h => h, F.kb ic ("TypeError", false) (by simp [BT]), ?_⟩
        refine ⟨false, rfl, if_no ?_⟩
        exact ⟨g6, _, _, _, _, rfl⟩
  · exact h.elim
end HG

namespace HG
open PySem L2
def top (i : Nat) : Stmt := PySem.Challenge.pw_headgap_k01_errors_made.main.body.getD i (.Pass ⟨0, 0, 0, 0⟩)
abbrev s_BadName_init : Stmt := (inClass (top 2) 0)
theorem scx_BadName_init : ScX ["self", "value"] (defScope s_BadName_init) := ⟨rfl, rfl, rfl, by decide +kernel, by decide +kernel, by decide +kernel, by decide +kernel, rfl, rfl⟩
abbrev s_BadLetter_init : Stmt := (inClass (top 3) 0)
theorem scx_BadLetter_init : ScX ["self", "value"] (defScope s_BadLetter_init) := ⟨rfl, rfl, rfl, by decide +kernel, by decide +kernel, by decide +kernel, by decide +kernel, rfl, rfl⟩
abbrev s_BadAnswer_init : Stmt := (inClass (top 5) 0)
theorem scx_BadAnswer_init : ScX ["self", "value"] (defScope s_BadAnswer_init) := ⟨rfl, rfl, rfl, by decide +kernel, by decide +kernel, by decide +kernel, by decide +kernel, rfl, rfl⟩
abbrev s_BadNumber_init : Stmt := (inClass (top 8) 0)
theorem scx_BadNumber_init : ScX ["self", "value"] (defScope s_BadNumber_init) := ⟨rfl, rfl, rfl, by decide +kernel, by decide +kernel, by decide +kernel, by decide +kernel, rfl, rfl⟩
abbrev s_BadWord_init : Stmt := (inClass (top 10) 0)
theorem scx_BadWord_init : ScX ["self", "value"] (defScope s_BadWord_init) := ⟨rfl, rfl, rfl, by decide +kernel, by decide +kernel, by decide +kernel, by decide +kernel, rfl, rfl⟩
abbrev s_NoState_init : Stmt := (inClass (top 14) 0)
theorem scx_NoState_init : ScX ["self", "value"] (defScope s_NoState_init) := ⟨rfl, rfl, rfl, by decide +kernel, by decide +kernel, by decide +kernel, by decide +kernel, rfl, rfl⟩
abbrev s_NoCell_init : Stmt := (inClass (top 17) 0)
theorem scx_NoCell_init : ScX ["self", "value"] (defScope s_NoCell_init) := ⟨rfl, rfl, rfl, by decide +kernel, by decide +kernel, by decide +kernel, by decide +kernel, rfl, rfl⟩
abbrev s_NoText_init : Stmt := (inClass (top 18) 0)
theorem scx_NoText_init : ScX ["self", "value"] (defScope s_NoText_init) := ⟨rfl, rfl, rfl, by decide +kernel, by decide +kernel, by decide +kernel, by decide +kernel, rfl, rfl⟩
abbrev s_Taken_init : Stmt := (inClass (top 22) 0)
theorem scx_Taken_init : ScX ["self", "value"] (defScope s_Taken_init) := ⟨rfl, rfl, rfl, by decide +kernel, by decide +kernel, by decide +kernel, by decide +kernel, rfl, rfl⟩
abbrev s_BadConverter_init : Stmt := (inClass (top 6) 0)
theorem scx_BadConverter_init : ScX ["self", "part"] (defScope s_BadConverter_init) := ⟨rfl, rfl, rfl, by decide +kernel, by decide +kernel, by decide +kernel, by decide +kernel, rfl, rfl⟩
abbrev s_BadGrowth_init : Stmt := (inClass (top 7) 0)
theorem scx_BadGrowth_init : ScX ["self", "part"] (defScope s_BadGrowth_init) := ⟨rfl, rfl, rfl, by decide +kernel, by decide +kernel, by decide +kernel, by decide +kernel, rfl, rfl⟩
abbrev s_BadPaper_init : Stmt := (inClass (top 9) 0)
theorem scx_BadPaper_init : ScX ["self", "part"] (defScope s_BadPaper_init) := ⟨rfl, rfl, rfl, by decide +kernel, by decide +kernel, by decide +kernel, by decide +kernel, rfl, rfl⟩
abbrev s_BadArray_init : Stmt := (inClass (top 12) 0)
theorem scx_BadArray_init : ScX ["self", "part"] (defScope s_BadArray_init) := ⟨rfl, rfl, rfl, by decide +kernel, by decide +kernel, by decide +kernel, by decide +kernel, rfl, rfl⟩
abbrev s_BadDeed_init : Stmt := (inClass (top 13) 0)
theorem scx_BadDeed_init : ScX ["self", "part"] (defScope s_BadDeed_init) := ⟨rfl, rfl, rfl, by decide +kernel, by decide +kernel, by decide +kernel, by decide +kernel, rfl, rfl⟩
abbrev s_BadLog_init : Stmt := (inClass (top 11) 0)
theorem scx_BadLog_init : ScX ["self", "at"] (defScope s_BadLog_init) := ⟨rfl, rfl, rfl, by decide +kernel, by decide +kernel, by decide +kernel, by decide +kernel, rfl, rfl⟩
abbrev s_NoTail_init : Stmt := (inClass (top 16) 0)
theorem scx_NoTail_init : ScX ["self", "state"] (defScope s_NoTail_init) := ⟨rfl, rfl, rfl, by decide +kernel, by decide +kernel, by decide +kernel, by decide +kernel, rfl, rfl⟩
abbrev s_RunOver_init : Stmt := (inClass (top 19) 0)
theorem scx_RunOver_init : ScX ["self", "cell"] (defScope s_RunOver_init) := ⟨rfl, rfl, rfl, by decide +kernel, by decide +kernel, by decide +kernel, by decide +kernel, rfl, rfl⟩
abbrev s_NoRoom_init : Stmt := (inClass (top 20) 0)
theorem scx_NoRoom_init : ScX ["self", "cell"] (defScope s_NoRoom_init) := ⟨rfl, rfl, rfl, by decide +kernel, by decide +kernel, by decide +kernel, by decide +kernel, rfl, rfl⟩
abbrev s_BadCommand_init : Stmt := (inClass (top 24) 0)
theorem scx_BadCommand_init : ScX ["self", "word"] (defScope s_BadCommand_init) := ⟨rfl, rfl, rfl, by decide +kernel, by decide +kernel, by decide +kernel, by decide +kernel, rfl, rfl⟩
abbrev s_BadText_init : Stmt := (inClass (top 4) 0)
theorem scx_BadText_init : ScX ["self", "line", "word"] (defScope s_BadText_init) := ⟨rfl, rfl, rfl, by decide +kernel, by decide +kernel, by decide +kernel, by decide +kernel, rfl, rfl⟩
abbrev s_NoStep_init : Stmt := (inClass (top 15) 0)
theorem scx_NoStep_init : ScX ["self", "at", "state"] (defScope s_NoStep_init) := ⟨rfl, rfl, rfl, by decide +kernel, by decide +kernel, by decide +kernel, by decide +kernel, rfl, rfl⟩
abbrev s_TooMany_init : Stmt := (inClass (top 23) 0)
theorem scx_TooMany_init : ScX ["self", "what", "most"] (defScope s_TooMany_init) := ⟨rfl, rfl, rfl, by decide +kernel, by decide +kernel, by decide +kernel, by decide +kernel, rfl, rfl⟩
abbrev s_Nothing_init : Stmt := (inClass (top 21) 0)
theorem scx_Nothing_init : ScX ["self"] (defScope s_Nothing_init) := ⟨rfl, rfl, rfl, by decide +kernel, by decide +kernel, by decide +kernel, by decide +kernel, rfl, rfl⟩
abbrev s_law_pen : Stmt := (top 26)
theorem sc_law_pen : FnScope ["_law_script"] ["_law_script"] (defScope s_law_pen) := ⟨rfl, rfl, rfl, by decide +kernel, rfl, by decide +kernel, by decide +kernel⟩
abbrev s_law_draw : Stmt := (top 27)
theorem sc_law_draw : FnScope ["_law_pen_here", "_law_many", "_law_digit", "_law_turn", "_law_cell", "_law_great", "_law_blend"] ["_law_pen_here", "_law_many"] (defScope s_law_draw) := ⟨rfl, rfl, rfl, by decide +kernel, rfl, by decide +kernel, by decide +kernel⟩
abbrev s_law_pick : Stmt := (top 28)
theorem sc_law_pick : FnScope ["_law_pen_here", "_law_some"] ["_law_pen_here", "_law_some"] (defScope s_law_pick) := ⟨rfl, rfl, rfl, by decide +kernel, rfl, by decide +kernel, by decide +kernel⟩
abbrev s_law_made : Stmt := (top 29)
theorem sc_law_made : FnScope ["_law_x", "_law_y"] ["_law_x", "_law_y"] (defScope s_law_made) := ⟨rfl, rfl, rfl, by decide +kernel, rfl, by decide +kernel, by decide +kernel⟩
abbrev s_law_fields : Stmt := (top 30)
theorem sc_law_fields : FnScope ["_law_error", "_law_found"] ["_law_error"] (defScope s_law_fields) := ⟨rfl, rfl, rfl, by decide +kernel, rfl, by decide +kernel, by decide +kernel⟩
abbrev s_law : Stmt := (top 31)
theorem sc_law : FnScope ["_law_script", "_law_pen_here", "_law_some", "_law_turn", "_law_x", "_law_y", "_law_error", "_law_other", "_law_name", "_law_told"] ["_law_script"] (defScope s_law) := ⟨rfl, rfl, rfl, by decide +kernel, rfl, by decide +kernel, by decide +kernel⟩

structure Txt (P : Program) (K : PySem.W.Frag) (mg : Str → Option Value) (A : Ad) : Prop where
  kf : KF K A
  xsup : mg "super" = none
  xcs : ∀ D ∈ excsOf A, ExcC K D
  g_BadName : mg "BadName" = some (.ref A.c_BadName)
  g_BadLetter : mg "BadLetter" = some (.ref A.c_BadLetter)
  g_BadAnswer : mg "BadAnswer" = some (.ref A.c_BadAnswer)
  g_BadNumber : mg "BadNumber" = some (.ref A.c_BadNumber)
  g_BadWord : mg "BadWord" = some (.ref A.c_BadWord)
  g_NoState : mg "NoState" = some (.ref A.c_NoState)
  g_NoCell : mg "NoCell" = some (.ref A.c_NoCell)
  g_NoText : mg "NoText" = some (.ref A.c_NoText)
  g_Taken : mg "Taken" = some (.ref A.c_Taken)
  g_BadConverter : mg "BadConverter" = some (.ref A.c_BadConverter)
  g_BadGrowth : mg "BadGrowth" = some (.ref A.c_BadGrowth)
  g_BadPaper : mg "BadPaper" = some (.ref A.c_BadPaper)
  g_BadArray : mg "BadArray" = some (.ref A.c_BadArray)
  g_BadDeed : mg "BadDeed" = some (.ref A.c_BadDeed)
  g_BadLog : mg "BadLog" = some (.ref A.c_BadLog)
  g_NoTail : mg "NoTail" = some (.ref A.c_NoTail)
  g_RunOver : mg "RunOver" = some (.ref A.c_RunOver)
  g_NoRoom : mg "NoRoom" = some (.ref A.c_NoRoom)
  g_BadCommand : mg "BadCommand" = some (.ref A.c_BadCommand)
  g_BadText : mg "BadText" = some (.ref A.c_BadText)
  g_NoStep : mg "NoStep" = some (.ref A.c_NoStep)
  g_TooMany : mg "TooMany" = some (.ref A.c_TooMany)
  g_Nothing : mg "Nothing" = some (.ref A.c_Nothing)
  g_HeadError : mg "HeadError" = some (.ref A.c_HeadError)
  xs_BadName : SupF P K A.c_BadName A.cda_BadName A.cel_BadName
  xo_BadName : OexC K A.c_BadName
  xi_BadName : PySem.W.findIn K (.ref A.c_BadName) "__init__" = some (some (.ref A.f_BadName_init))
  xt_BadName : PySem.W.typeIn K (.ref A.f_BadName_init) = some (.type "function")
  xf_BadName : XfC K A.c_BadName
  xn_BadName_value : PySem.W.findIn K (.ref A.c_BadName) "value" = some none
  xs_BadLetter : SupF P K A.c_BadLetter A.cda_BadLetter A.cel_BadLetter
  xo_BadLetter : OexC K A.c_BadLetter
  xi_BadLetter : PySem.W.findIn K (.ref A.c_BadLetter) "__init__" = some (some (.ref A.f_BadLetter_init))
  xt_BadLetter : PySem.W.typeIn K (.ref A.f_BadLetter_init) = some (.type "function")
  xf_BadLetter : XfC K A.c_BadLetter
  xn_BadLetter_value : PySem.W.findIn K (.ref A.c_BadLetter) "value" = some none
  xs_BadAnswer : SupF P K A.c_BadAnswer A.cda_BadAnswer A.cel_BadAnswer
  xo_BadAnswer : OexC K A.c_BadAnswer
  xi_BadAnswer : PySem.W.findIn K (.ref A.c_BadAnswer) "__init__" = some (some (.ref A.f_BadAnswer_init))
  xt_BadAnswer : PySem.W.typeIn K (.ref A.f_BadAnswer_init) = some (.type "function")
  xf_BadAnswer : XfC K A.c_BadAnswer
  xn_BadAnswer_value : PySem.W.findIn K (.ref A.c_BadAnswer) "value" = some none
  xs_BadNumber : SupF P K A.c_BadNumber A.cda_BadNumber A.cel_BadNumber
  xo_BadNumber : OexC K A.c_BadNumber
  xi_BadNumber : PySem.W.findIn K (.ref A.c_BadNumber) "__init__" = some (some (.ref A.f_BadNumber_init))
  xt_BadNumber : PySem.W.typeIn K (.ref A.f_BadNumber_init) = some (.type "function")
  xf_BadNumber : XfC K A.c_BadNumber
  xn_BadNumber_value : PySem.W.findIn K (.ref A.c_BadNumber) "value" = some none
  xs_BadWord : SupF P K A.c_BadWord A.cda_BadWord A.cel_BadWord
  xo_BadWord : OexC K A.c_BadWord
  xi_BadWord : PySem.W.findIn K (.ref A.c_BadWord) "__init__" = some (some (.ref A.f_BadWord_init))
  xt_BadWord : PySem.W.typeIn K (.ref A.f_BadWord_init) = some (.type "function")
  xf_BadWord : XfC K A.c_BadWord
  xn_BadWord_value : PySem.W.findIn K (.ref A.c_BadWord) "value" = some none
  xs_NoState : SupF P K A.c_NoState A.cda_NoState A.cel_NoState
  xo_NoState : OexC K A.c_NoState
  xi_NoState : PySem.W.findIn K (.ref A.c_NoState) "__init__" = some (some (.ref A.f_NoState_init))
  xt_NoState : PySem.W.typeIn K (.ref A.f_NoState_init) = some (.type "function")
  xf_NoState : XfC K A.c_NoState
  xn_NoState_value : PySem.W.findIn K (.ref A.c_NoState) "value" = some none
  xs_NoCell : SupF P K A.c_NoCell A.cda_NoCell A.cel_NoCell
  xo_NoCell : OexC K A.c_NoCell
  xi_NoCell : PySem.W.findIn K (.ref A.c_NoCell) "__init__" = some (some (.ref A.f_NoCell_init))
  xt_NoCell : PySem.W.typeIn K (.ref A.f_NoCell_init) = some (.type "function")
  xf_NoCell : XfC K A.c_NoCell
  xn_NoCell_value : PySem.W.findIn K (.ref A.c_NoCell) "value" = some none
  xs_NoText : SupF P K A.c_NoText A.cda_NoText A.cel_NoText
  xo_NoText : OexC K A.c_NoText
  xi_NoText : PySem.W.findIn K (.ref A.c_NoText) "__init__" = some (some (.ref A.f_NoText_init))
  xt_NoText : PySem.W.typeIn K (.ref A.f_NoText_init) = some (.type "function")
  xf_NoText : XfC K A.c_NoText
  xn_NoText_value : PySem.W.findIn K (.ref A.c_NoText) "value" = some none
  xs_Taken : SupF P K A.c_Taken A.cda_Taken A.cel_Taken
  xo_Taken : OexC K A.c_Taken
  xi_Taken : PySem.W.findIn K (.ref A.c_Taken) "__init__" = some (some (.ref A.f_Taken_init))
  xt_Taken : PySem.W.typeIn K (.ref A.f_Taken_init) = some (.type "function")
  xf_Taken : XfC K A.c_Taken
  xn_Taken_value : PySem.W.findIn K (.ref A.c_Taken) "value" = some none
  xs_BadConverter : SupF P K A.c_BadConverter A.cda_BadConverter A.cel_BadConverter
  xo_BadConverter : OexC K A.c_BadConverter
  xi_BadConverter : PySem.W.findIn K (.ref A.c_BadConverter) "__init__" = some (some (.ref A.f_BadConverter_init))
  xt_BadConverter : PySem.W.typeIn K (.ref A.f_BadConverter_init) = some (.type "function")
  xf_BadConverter : XfC K A.c_BadConverter
  xn_BadConverter_part : PySem.W.findIn K (.ref A.c_BadConverter) "part" = some none
  xs_BadGrowth : SupF P K A.c_BadGrowth A.cda_BadGrowth A.cel_BadGrowth
  xo_BadGrowth : OexC K A.c_BadGrowth
  xi_BadGrowth : PySem.W.findIn K (.ref A.c_BadGrowth) "__init__" = some (some (.ref A.f_BadGrowth_init))
  xt_BadGrowth : PySem.W.typeIn K (.ref A.f_BadGrowth_init) = some (.type "function")
  xf_BadGrowth : XfC K A.c_BadGrowth
  xn_BadGrowth_part : PySem.W.findIn K (.ref A.c_BadGrowth) "part" = some none
  xs_BadPaper : SupF P K A.c_BadPaper A.cda_BadPaper A.cel_BadPaper
  xo_BadPaper : OexC K A.c_BadPaper
  xi_BadPaper : PySem.W.findIn K (.ref A.c_BadPaper) "__init__" = some (some (.ref A.f_BadPaper_init))
  xt_BadPaper : PySem.W.typeIn K (.ref A.f_BadPaper_init) = some (.type "function")
  xf_BadPaper : XfC K A.c_BadPaper
  xn_BadPaper_part : PySem.W.findIn K (.ref A.c_BadPaper) "part" = some none
  xs_BadArray : SupF P K A.c_BadArray A.cda_BadArray A.cel_BadArray
  xo_BadArray : OexC K A.c_BadArray
  xi_BadArray : PySem.W.findIn K (.ref A.c_BadArray) "__init__" = some (some (.ref A.f_BadArray_init))
  xt_BadArray : PySem.W.typeIn K (.ref A.f_BadArray_init) = some (.type "function")
  xf_BadArray : XfC K A.c_BadArray
  xn_BadArray_part : PySem.W.findIn K (.ref A.c_BadArray) "part" = some none
  xs_BadDeed : SupF P K A.c_BadDeed A.cda_BadDeed A.cel_BadDeed
  xo_BadDeed : OexC K A.c_BadDeed
  xi_BadDeed : PySem.W.findIn K (.ref A.c_BadDeed) "__init__" = some (some (.ref A.f_BadDeed_init))
  xt_BadDeed : PySem.W.typeIn K (.ref A.f_BadDeed_init) = some (.type "function")
  xf_BadDeed : XfC K A.c_BadDeed
  xn_BadDeed_part : PySem.W.findIn K (.ref A.c_BadDeed) "part" = some none
  xs_BadLog : SupF P K A.c_BadLog A.cda_BadLog A.cel_BadLog
  xo_BadLog : OexC K A.c_BadLog
  xi_BadLog : PySem.W.findIn K (.ref A.c_BadLog) "__init__" = some (some (.ref A.f_BadLog_init))
  xt_BadLog : PySem.W.typeIn K (.ref A.f_BadLog_init) = some (.type "function")
  xf_BadLog : XfC K A.c_BadLog
  xn_BadLog_at : PySem.W.findIn K (.ref A.c_BadLog) "at" = some none
  xs_NoTail : SupF P K A.c_NoTail A.cda_NoTail A.cel_NoTail
  xo_NoTail : OexC K A.c_NoTail
  xi_NoTail : PySem.W.findIn K (.ref A.c_NoTail) "__init__" = some (some (.ref A.f_NoTail_init))
  xt_NoTail : PySem.W.typeIn K (.ref A.f_NoTail_init) = some (.type "function")
  xf_NoTail : XfC K A.c_NoTail
  xn_NoTail_state : PySem.W.findIn K (.ref A.c_NoTail) "state" = some none
  xs_RunOver : SupF P K A.c_RunOver A.cda_RunOver A.cel_RunOver
  xo_RunOver : OexC K A.c_RunOver
  xi_RunOver : PySem.W.findIn K (.ref A.c_RunOver) "__init__" = some (some (.ref A.f_RunOver_init))
  xt_RunOver : PySem.W.typeIn K (.ref A.f_RunOver_init) = some (.type "function")
  xf_RunOver : XfC K A.c_RunOver
  xn_RunOver_cell : PySem.W.findIn K (.ref A.c_RunOver) "cell" = some none
  xs_NoRoom : SupF P K A.c_NoRoom A.cda_NoRoom A.cel_NoRoom
  xo_NoRoom : OexC K A.c_NoRoom
  xi_NoRoom : PySem.W.findIn K (.ref A.c_NoRoom) "__init__" = some (some (.ref A.f_NoRoom_init))
  xt_NoRoom : PySem.W.typeIn K (.ref A.f_NoRoom_init) = some (.type "function")
  xf_NoRoom : XfC K A.c_NoRoom
  xn_NoRoom_cell : PySem.W.findIn K (.ref A.c_NoRoom) "cell" = some none
  xs_BadCommand : SupF P K A.c_BadCommand A.cda_BadCommand A.cel_BadCommand
  xo_BadCommand : OexC K A.c_BadCommand
  xi_BadCommand : PySem.W.findIn K (.ref A.c_BadCommand) "__init__" = some (some (.ref A.f_BadCommand_init))
  xt_BadCommand : PySem.W.typeIn K (.ref A.f_BadCommand_init) = some (.type "function")
  xf_BadCommand : XfC K A.c_BadCommand
  xn_BadCommand_word : PySem.W.findIn K (.ref A.c_BadCommand) "word" = some none
  xs_BadText : SupF P K A.c_BadText A.cda_BadText A.cel_BadText
  xo_BadText : OexC K A.c_BadText
  xi_BadText : PySem.W.findIn K (.ref A.c_BadText) "__init__" = some (some (.ref A.f_BadText_init))
  xt_BadText : PySem.W.typeIn K (.ref A.f_BadText_init) = some (.type "function")
  xf_BadText : XfC K A.c_BadText
  xn_BadText_line : PySem.W.findIn K (.ref A.c_BadText) "line" = some none
  xn_BadText_word : PySem.W.findIn K (.ref A.c_BadText) "word" = some none
  xs_NoStep : SupF P K A.c_NoStep A.cda_NoStep A.cel_NoStep
  xo_NoStep : OexC K A.c_NoStep
  xi_NoStep : PySem.W.findIn K (.ref A.c_NoStep) "__init__" = some (some (.ref A.f_NoStep_init))
  xt_NoStep : PySem.W.typeIn K (.ref A.f_NoStep_init) = some (.type "function")
  xf_NoStep : XfC K A.c_NoStep
  xn_NoStep_at : PySem.W.findIn K (.ref A.c_NoStep) "at" = some none
  xn_NoStep_state : PySem.W.findIn K (.ref A.c_NoStep) "state" = some none
  xs_TooMany : SupF P K A.c_TooMany A.cda_TooMany A.cel_TooMany
  xo_TooMany : OexC K A.c_TooMany
  xi_TooMany : PySem.W.findIn K (.ref A.c_TooMany) "__init__" = some (some (.ref A.f_TooMany_init))
  xt_TooMany : PySem.W.typeIn K (.ref A.f_TooMany_init) = some (.type "function")
  xf_TooMany : XfC K A.c_TooMany
  xn_TooMany_what : PySem.W.findIn K (.ref A.c_TooMany) "what" = some none
  xn_TooMany_most : PySem.W.findIn K (.ref A.c_TooMany) "most" = some none
  xs_Nothing : SupF P K A.c_Nothing A.cda_Nothing A.cel_Nothing
  xo_Nothing : OexC K A.c_Nothing
  xi_Nothing : PySem.W.findIn K (.ref A.c_Nothing) "__init__" = some (some (.ref A.f_Nothing_init))
  xt_Nothing : PySem.W.typeIn K (.ref A.f_Nothing_init) = some (.type "function")
  xf_Nothing : XfC K A.c_Nothing
  b_ArithmeticError : mg "ArithmeticError" = none
  b_LookupError : mg "LookupError" = none
  b_TypeError : mg "TypeError" = none
  b_ValueError : mg "ValueError" = none
  b_abs : mg "abs" = none
  b_int : mg "int" = none
  b_isinstance : mg "isinstance" = none
  b_len : mg "len" = none
  b_list : mg "list" = none
  b_range : mg "range" = none
  b_repr : mg "repr" = none
  F_BadName_init : FunX K "__init__" "BadName.__init__" s_BadName_init A.f_BadName_init A.d_BadName_init A.cda_BadName A.cel_BadName
  B_BadName_init : Binds K A.d_BadName_init ["self", "value"] []
  F_BadLetter_init : FunX K "__init__" "BadLetter.__init__" s_BadLetter_init A.f_BadLetter_init A.d_BadLetter_init A.cda_BadLetter A.cel_BadLetter
  B_BadLetter_init : Binds K A.d_BadLetter_init ["self", "value"] []
  F_BadAnswer_init : FunX K "__init__" "BadAnswer.__init__" s_BadAnswer_init A.f_BadAnswer_init A.d_BadAnswer_init A.cda_BadAnswer A.cel_BadAnswer
  B_BadAnswer_init : Binds K A.d_BadAnswer_init ["self", "value"] []
  F_BadNumber_init : FunX K "__init__" "BadNumber.__init__" s_BadNumber_init A.f_BadNumber_init A.d_BadNumber_init A.cda_BadNumber A.cel_BadNumber
  B_BadNumber_init : Binds K A.d_BadNumber_init ["self", "value"] []
  F_BadWord_init : FunX K "__init__" "BadWord.__init__" s_BadWord_init A.f_BadWord_init A.d_BadWord_init A.cda_BadWord A.cel_BadWord
  B_BadWord_init : Binds K A.d_BadWord_init ["self", "value"] []
  F_NoState_init : FunX K "__init__" "NoState.__init__" s_NoState_init A.f_NoState_init A.d_NoState_init A.cda_NoState A.cel_NoState
  B_NoState_init : Binds K A.d_NoState_init ["self", "value"] []
  F_NoCell_init : FunX K "__init__" "NoCell.__init__" s_NoCell_init A.f_NoCell_init A.d_NoCell_init A.cda_NoCell A.cel_NoCell
  B_NoCell_init : Binds K A.d_NoCell_init ["self", "value"] []
  F_NoText_init : FunX K "__init__" "NoText.__init__" s_NoText_init A.f_NoText_init A.d_NoText_init A.cda_NoText A.cel_NoText
  B_NoText_init : Binds K A.d_NoText_init ["self", "value"] []
  F_Taken_init : FunX K "__init__" "Taken.__init__" s_Taken_init A.f_Taken_init A.d_Taken_init A.cda_Taken A.cel_Taken
  B_Taken_init : Binds K A.d_Taken_init ["self", "value"] []
  F_BadConverter_init : FunX K "__init__" "BadConverter.__init__" s_BadConverter_init A.f_BadConverter_init A.d_BadConverter_init A.cda_BadConverter A.cel_BadConverter
  B_BadConverter_init : Binds K A.d_BadConverter_init ["self", "part"] []
  F_BadGrowth_init : FunX K "__init__" "BadGrowth.__init__" s_BadGrowth_init A.f_BadGrowth_init A.d_BadGrowth_init A.cda_BadGrowth A.cel_BadGrowth
  B_BadGrowth_init : Binds K A.d_BadGrowth_init ["self", "part"] []
  F_BadPaper_init : FunX K "__init__" "BadPaper.__init__" s_BadPaper_init A.f_BadPaper_init A.d_BadPaper_init A.cda_BadPaper A.cel_BadPaper
  B_BadPaper_init : Binds K A.d_BadPaper_init ["self", "part"] []
  F_BadArray_init : FunX K "__init__" "BadArray.__init__" s_BadArray_init A.f_BadArray_init A.d_BadArray_init A.cda_BadArray A.cel_BadArray
  B_BadArray_init : Binds K A.d_BadArray_init ["self", "part"] []
  F_BadDeed_init : FunX K "__init__" "BadDeed.__init__" s_BadDeed_init A.f_BadDeed_init A.d_BadDeed_init A.cda_BadDeed A.cel_BadDeed
  B_BadDeed_init : Binds K A.d_BadDeed_init ["self", "part"] []
  F_BadLog_init : FunX K "__init__" "BadLog.__init__" s_BadLog_init A.f_BadLog_init A.d_BadLog_init A.cda_BadLog A.cel_BadLog
  B_BadLog_init : Binds K A.d_BadLog_init ["self", "at"] []
  F_NoTail_init : FunX K "__init__" "NoTail.__init__" s_NoTail_init A.f_NoTail_init A.d_NoTail_init A.cda_NoTail A.cel_NoTail
  B_NoTail_init : Binds K A.d_NoTail_init ["self", "state"] []
  F_RunOver_init : FunX K "__init__" "RunOver.__init__" s_RunOver_init A.f_RunOver_init A.d_RunOver_init A.cda_RunOver A.cel_RunOver
  B_RunOver_init : Binds K A.d_RunOver_init ["self", "cell"] []
  F_NoRoom_init : FunX K "__init__" "NoRoom.__init__" s_NoRoom_init A.f_NoRoom_init A.d_NoRoom_init A.cda_NoRoom A.cel_NoRoom
  B_NoRoom_init : Binds K A.d_NoRoom_init ["self", "cell"] []
  F_BadCommand_init : FunX K "__init__" "BadCommand.__init__" s_BadCommand_init A.f_BadCommand_init A.d_BadCommand_init A.cda_BadCommand A.cel_BadCommand
  B_BadCommand_init : Binds K A.d_BadCommand_init ["self", "word"] []
  F_BadText_init : FunX K "__init__" "BadText.__init__" s_BadText_init A.f_BadText_init A.d_BadText_init A.cda_BadText A.cel_BadText
  B_BadText_init : Binds K A.d_BadText_init ["self", "line", "word"] []
  F_NoStep_init : FunX K "__init__" "NoStep.__init__" s_NoStep_init A.f_NoStep_init A.d_NoStep_init A.cda_NoStep A.cel_NoStep
  B_NoStep_init : Binds K A.d_NoStep_init ["self", "at", "state"] []
  F_TooMany_init : FunX K "__init__" "TooMany.__init__" s_TooMany_init A.f_TooMany_init A.d_TooMany_init A.cda_TooMany A.cel_TooMany
  B_TooMany_init : Binds K A.d_TooMany_init ["self", "what", "most"] []
  F_Nothing_init : FunX K "__init__" "Nothing.__init__" s_Nothing_init A.f_Nothing_init A.d_Nothing_init A.cda_Nothing A.cel_Nothing
  B_Nothing_init : Binds K A.d_Nothing_init ["self"] []
  g_law_pen : mg "_law_pen" = some (.ref A.f_law_pen)
  F_law_pen : Fun K "_law_pen" "_law_pen" s_law_pen A.f_law_pen A.d_law_pen
  B_law_pen : Binds K A.d_law_pen ["_law_script"] []
  g_law_draw : mg "_law_draw" = some (.ref A.f_law_draw)
  F_law_draw : Fun K "_law_draw" "_law_draw" s_law_draw A.f_law_draw A.d_law_draw
  B_law_draw : Binds K A.d_law_draw ["_law_pen_here", "_law_many"] []
  g_law_pick : mg "_law_pick" = some (.ref A.f_law_pick)
  F_law_pick : Fun K "_law_pick" "_law_pick" s_law_pick A.f_law_pick A.d_law_pick
  B_law_pick : Binds K A.d_law_pick ["_law_pen_here", "_law_some"] []
  g_law_made : mg "_law_made" = some (.ref A.f_law_made)
  F_law_made : Fun K "_law_made" "_law_made" s_law_made A.f_law_made A.d_law_made
  B_law_made : Binds K A.d_law_made ["_law_x", "_law_y"] []
  g_law_fields : mg "_law_fields" = some (.ref A.f_law_fields)
  F_law_fields : Fun K "_law_fields" "_law_fields" s_law_fields A.f_law_fields A.d_law_fields
  B_law_fields : Binds K A.d_law_fields ["_law_error"] []
  F_law : Fun K "law" "law" s_law A.f_law A.d_law
  KW_BadAnswer_init_value : ∃ g, KBn K A.d_BadAnswer_init ["self", "value"] 1 ["value"] g kw_BadAnswer_init_value
  KW_BadArray_init_part : ∃ g, KBn K A.d_BadArray_init ["self", "part"] 1 ["part"] g kw_BadArray_init_part
  KW_BadCommand_init_word : ∃ g, KBn K A.d_BadCommand_init ["self", "word"] 1 ["word"] g kw_BadCommand_init_word
  KW_BadConverter_init_part : ∃ g, KBn K A.d_BadConverter_init ["self", "part"] 1 ["part"] g kw_BadConverter_init_part
  KW_BadDeed_init_part : ∃ g, KBn K A.d_BadDeed_init ["self", "part"] 1 ["part"] g kw_BadDeed_init_part
  KW_BadGrowth_init_part : ∃ g, KBn K A.d_BadGrowth_init ["self", "part"] 1 ["part"] g kw_BadGrowth_init_part
  KW_BadLetter_init_value : ∃ g, KBn K A.d_BadLetter_init ["self", "value"] 1 ["value"] g kw_BadLetter_init_value
  KW_BadLog_init_at : ∃ g, KBn K A.d_BadLog_init ["self", "at"] 1 ["at"] g kw_BadLog_init_at
  KW_BadName_init_value : ∃ g, KBn K A.d_BadName_init ["self", "value"] 1 ["value"] g kw_BadName_init_value
  KW_BadNumber_init_value : ∃ g, KBn K A.d_BadNumber_init ["self", "value"] 1 ["value"] g kw_BadNumber_init_value
  KW_BadPaper_init_part : ∃ g, KBn K A.d_BadPaper_init ["self", "part"] 1 ["part"] g kw_BadPaper_init_part
  KW_BadText_init_word_line : ∃ g, KBn K A.d_BadText_init ["self", "line", "word"] 1 ["word", "line"] g kw_BadText_init_word_line
  KW_BadWord_init_value : ∃ g, KBn K A.d_BadWord_init ["self", "value"] 1 ["value"] g kw_BadWord_init_value
  KW_NoCell_init_value : ∃ g, KBn K A.d_NoCell_init ["self", "value"] 1 ["value"] g kw_NoCell_init_value
  KW_NoRoom_init_cell : ∃ g, KBn K A.d_NoRoom_init ["self", "cell"] 1 ["cell"] g kw_NoRoom_init_cell
  KW_NoState_init_value : ∃ g, KBn K A.d_NoState_init ["self", "value"] 1 ["value"] g kw_NoState_init_value
  KW_NoStep_init_state_at : ∃ g, KBn K A.d_NoStep_init ["self", "at", "state"] 1 ["state", "at"] g kw_NoStep_init_state_at
  KW_NoTail_init_state : ∃ g, KBn K A.d_NoTail_init ["self", "state"] 1 ["state"] g kw_NoTail_init_state
  KW_NoText_init_value : ∃ g, KBn K A.d_NoText_init ["self", "value"] 1 ["value"] g kw_NoText_init_value
  KW_RunOver_init_cell : ∃ g, KBn K A.d_RunOver_init ["self", "cell"] 1 ["cell"] g kw_RunOver_init_cell
  KW_Taken_init_value : ∃ g, KBn K A.d_Taken_init ["self", "value"] 1 ["value"] g kw_Taken_init_value
  KW_TooMany_init_most_what : ∃ g, KBn K A.d_TooMany_init ["self", "what", "most"] 1 ["most", "what"] g kw_TooMany_init_most_what

theorem ok_BadName_init {P : Program} {w : World} {K : PySem.W.Frag} {mg : Str → Option Value} {base : Heap} {A : Ad} (T : Txt P K mg A) : FnOk P w K mg base CX0 1 A.f_BadName_init A.d_BadName_init ["self", "value"] (sp_BadName_init K A) :=
  okX1 T.F_BadName_init scx_BadName_init T.xs_BadName T.xsup T.xn_BadName_value (by decide) (by decide) (by decide) (by decide) rfl rfl rfl (fun _ => ⟨_, rfl⟩) (fun _ => rfl) (fun _ => rfl) (fun _ => rfl)
theorem ok_BadLetter_init {P : Program} {w : World} {K : PySem.W.Frag} {mg : Str → Option Value} {base : Heap} {A : Ad} (T : Txt P K mg A) : FnOk P w K mg base CX0 1 A.f_BadLetter_init A.d_BadLetter_init ["self", "value"] (sp_BadLetter_init K A) :=
  okX1 T.F_BadLetter_init scx_BadLetter_init T.xs_BadLetter T.xsup T.xn_BadLetter_value (by decide) (by decide) (by decide) (by decide) rfl rfl rfl (fun _ => ⟨_, rfl⟩) (fun _ => rfl) (fun _ => rfl) (fun _ => rfl)
theorem ok_BadAnswer_init {P : Program} {w : World} {K : PySem.W.Frag} {mg : Str → Option Value} {base : Heap} {A : Ad} (T : Txt P K mg A) : FnOk P w K mg base CX0 1 A.f_BadAnswer_init A.d_BadAnswer_init ["self", "value"] (sp_BadAnswer_init K A) :=
  okX1 T.F_BadAnswer_init scx_BadAnswer_init T.xs_BadAnswer T.xsup T.xn_BadAnswer_value (by decide) (by decide) (by decide) (by decide) rfl rfl rfl (fun _ => ⟨_, rfl⟩) (fun _ => rfl) (fun _ => rfl) (fun _ => rfl)
theorem ok_BadNumber_init {P : Program} {w : World} {K : PySem.W.Frag} {mg : Str → Option Value} {base : Heap} {A : Ad} (T : Txt P K mg A) : FnOk P w K mg base CX0 1 A.f_BadNumber_init A.d_BadNumber_init ["self", "value"] (sp_BadNumber_init K A) :=
  okX1 T.F_BadNumber_init scx_BadNumber_init T.xs_BadNumber T.xsup T.xn_BadNumber_value (by decide) (by decide) (by decide) (by decide) rfl rfl rfl (fun _ => ⟨_, rfl⟩) (fun _ => rfl) (fun _ => rfl) (fun _ => rfl)
theorem ok_BadWord_init {P : Program} {w : World} {K : PySem.W.Frag} {mg : Str → Option Value} {base : Heap} {A : Ad} (T : Txt P K mg A) : FnOk P w K mg base CX0 1 A.f_BadWord_init A.d_BadWord_init ["self", "value"] (sp_BadWord_init K A) :=
  okX1 T.F_BadWord_init scx_BadWord_init T.xs_BadWord T.xsup T.xn_BadWord_value (by decide) (by decide) (by decide) (by decide) rfl rfl rfl (fun _ => ⟨_, rfl⟩) (fun _ => rfl) (fun _ => rfl) (fun _ => rfl)
theorem ok_NoState_init {P : Program} {w : World} {K : PySem.W.Frag} {mg : Str → Option Value} {base : Heap} {A : Ad} (T : Txt P K mg A) : FnOk P w K mg base CX0 1 A.f_NoState_init A.d_NoState_init ["self", "value"] (sp_NoState_init K A) :=
  okX1 T.F_NoState_init scx_NoState_init T.xs_NoState T.xsup T.xn_NoState_value (by decide) (by decide) (by decide) (by decide) rfl rfl rfl (fun _ => ⟨_, rfl⟩) (fun _ => rfl) (fun _ => rfl) (fun _ => rfl)
theorem ok_NoCell_init {P : Program} {w : World} {K : PySem.W.Frag} {mg : Str → Option Value} {base : Heap} {A : Ad} (T : Txt P K mg A) : FnOk P w K mg base CX0 1 A.f_NoCell_init A.d_NoCell_init ["self", "value"] (sp_NoCell_init K A) :=
  okX1 T.F_NoCell_init scx_NoCell_init T.xs_NoCell T.xsup T.xn_NoCell_value (by decide) (by decide) (by decide) (by decide) rfl rfl rfl (fun _ => ⟨_, rfl⟩) (fun _ => rfl) (fun _ => rfl) (fun _ => rfl)
theorem ok_NoText_init {P : Program} {w : World} {K : PySem.W.Frag} {mg : Str → Option Value} {base : Heap} {A : Ad} (T : Txt P K mg A) : FnOk P w K mg base CX0 1 A.f_NoText_init A.d_NoText_init ["self", "value"] (sp_NoText_init K A) :=
  okX1 T.F_NoText_init scx_NoText_init T.xs_NoText T.xsup T.xn_NoText_value (by decide) (by decide) (by decide) (by decide) rfl rfl rfl (fun _ => ⟨_, rfl⟩) (fun _ => rfl) (fun _ => rfl) (fun _ => rfl)
theorem ok_Taken_init {P : Program} {w : World} {K : PySem.W.Frag} {mg : Str → Option Value} {base : Heap} {A : Ad} (T : Txt P K mg A) : FnOk P w K mg base CX0 1 A.f_Taken_init A.d_Taken_init ["self", "value"] (sp_Taken_init K A) :=
  okX1 T.F_Taken_init scx_Taken_init T.xs_Taken T.xsup T.xn_Taken_value (by decide) (by decide) (by decide) (by decide) rfl rfl rfl (fun _ => ⟨_, rfl⟩) (fun _ => rfl) (fun _ => rfl) (fun _ => rfl)
theorem ok_BadConverter_init {P : Program} {w : World} {K : PySem.W.Frag} {mg : Str → Option Value} {base : Heap} {A : Ad} (T : Txt P K mg A) : FnOk P w K mg base CX0 1 A.f_BadConverter_init A.d_BadConverter_init ["self", "part"] (sp_BadConverter_init K A) :=
  okX1 T.F_BadConverter_init scx_BadConverter_init T.xs_BadConverter T.xsup T.xn_BadConverter_part (by decide) (by decide) (by decide) (by decide) rfl rfl rfl (fun _ => ⟨_, rfl⟩) (fun _ => rfl) (fun _ => rfl) (fun _ => rfl)
theorem ok_BadGrowth_init {P : Program} {w : World} {K : PySem.W.Frag} {mg : Str → Option Value} {base : Heap} {A : Ad} (T : Txt P K mg A) : FnOk P w K mg base CX0 1 A.f_BadGrowth_init A.d_BadGrowth_init ["self", "part"] (sp_BadGrowth_init K A) :=
  okX1 T.F_BadGrowth_init scx_BadGrowth_init T.xs_BadGrowth T.xsup T.xn_BadGrowth_part (by decide) (by decide) (by decide) (by decide) rfl rfl rfl (fun _ => ⟨_, rfl⟩) (fun _ => rfl) (fun _ => rfl) (fun _ => rfl)
theorem ok_BadPaper_init {P : Program} {w : World} {K : PySem.W.Frag} {mg : Str → Option Value} {base : Heap} {A : Ad} (T : Txt P K mg A) : FnOk P w K mg base CX0 1 A.f_BadPaper_init A.d_BadPaper_init ["self", "part"] (sp_BadPaper_init K A) :=
  okX1 T.F_BadPaper_init scx_BadPaper_init T.xs_BadPaper T.xsup T.xn_BadPaper_part (by decide) (by decide) (by decide) (by decide) rfl rfl rfl (fun _ => ⟨_, rfl⟩) (fun _ => rfl) (fun _ => rfl) (fun _ => rfl)
theorem ok_BadArray_init {P : Program} {w : World} {K : PySem.W.Frag} {mg : Str → Option Value} {base : Heap} {A : Ad} (T : Txt P K mg A) : FnOk P w K mg base CX0 1 A.f_BadArray_init A.d_BadArray_init ["self", "part"] (sp_BadArray_init K A) :=
  okX1 T.F_BadArray_init scx_BadArray_init T.xs_BadArray T.xsup T.xn_BadArray_part (by decide) (by decide) (by decide) (by decide) rfl rfl rfl (fun _ => ⟨_, rfl⟩) (fun _ => rfl) (fun _ => rfl) (fun _ => rfl)
theorem ok_BadDeed_init {P : Program} {w : World} {K : PySem.W.Frag} {mg : Str → Option Value} {base : Heap} {A : Ad} (T : Txt P K mg A) : FnOk P w K mg base CX0 1 A.f_BadDeed_init A.d_BadDeed_init ["self", "part"] (sp_BadDeed_init K A) :=
  okX1 T.F_BadDeed_init scx_BadDeed_init T.xs_BadDeed T.xsup T.xn_BadDeed_part (by decide) (by decide) (by decide) (by decide) rfl rfl rfl (fun _ => ⟨_, rfl⟩) (fun _ => rfl) (fun _ => rfl) (fun _ => rfl)
theorem ok_BadLog_init {P : Program} {w : World} {K : PySem.W.Frag} {mg : Str → Option Value} {base : Heap} {A : Ad} (T : Txt P K mg A) : FnOk P w K mg base CX0 1 A.f_BadLog_init A.d_BadLog_init ["self", "at"] (sp_BadLog_init K A) :=
  okX1 T.F_BadLog_init scx_BadLog_init T.xs_BadLog T.xsup T.xn_BadLog_at (by decide) (by decide) (by decide) (by decide) rfl rfl rfl (fun _ => ⟨_, rfl⟩) (fun _ => rfl) (fun _ => rfl) (fun _ => rfl)
theorem ok_NoTail_init {P : Program} {w : World} {K : PySem.W.Frag} {mg : Str → Option Value} {base : Heap} {A : Ad} (T : Txt P K mg A) : FnOk P w K mg base CX0 1 A.f_NoTail_init A.d_NoTail_init ["self", "state"] (sp_NoTail_init K A) :=
  okX1 T.F_NoTail_init scx_NoTail_init T.xs_NoTail T.xsup T.xn_NoTail_state (by decide) (by decide) (by decide) (by decide) rfl rfl rfl (fun _ => ⟨_, rfl⟩) (fun _ => rfl) (fun _ => rfl) (fun _ => rfl)
theorem ok_RunOver_init {P : Program} {w : World} {K : PySem.W.Frag} {mg : Str → Option Value} {base : Heap} {A : Ad} (T : Txt P K mg A) : FnOk P w K mg base CX0 1 A.f_RunOver_init A.d_RunOver_init ["self", "cell"] (sp_RunOver_init K A) :=
  okX1 T.F_RunOver_init scx_RunOver_init T.xs_RunOver T.xsup T.xn_RunOver_cell (by decide) (by decide) (by decide) (by decide) rfl rfl rfl (fun _ => ⟨_, rfl⟩) (fun _ => rfl) (fun _ => rfl) (fun _ => rfl)
theorem ok_NoRoom_init {P : Program} {w : World} {K : PySem.W.Frag} {mg : Str → Option Value} {base : Heap} {A : Ad} (T : Txt P K mg A) : FnOk P w K mg base CX0 1 A.f_NoRoom_init A.d_NoRoom_init ["self", "cell"] (sp_NoRoom_init K A) :=
  okX1 T.F_NoRoom_init scx_NoRoom_init T.xs_NoRoom T.xsup T.xn_NoRoom_cell (by decide) (by decide) (by decide) (by decide) rfl rfl rfl (fun _ => ⟨_, rfl⟩) (fun _ => rfl) (fun _ => rfl) (fun _ => rfl)
theorem ok_BadCommand_init {P : Program} {w : World} {K : PySem.W.Frag} {mg : Str → Option Value} {base : Heap} {A : Ad} (T : Txt P K mg A) : FnOk P w K mg base CX0 1 A.f_BadCommand_init A.d_BadCommand_init ["self", "word"] (sp_BadCommand_init K A) :=
  okX1 T.F_BadCommand_init scx_BadCommand_init T.xs_BadCommand T.xsup T.xn_BadCommand_word (by decide) (by decide) (by decide) (by decide) rfl rfl rfl (fun _ => ⟨_, rfl⟩) (fun _ => rfl) (fun _ => rfl) (fun _ => rfl)
theorem ok_BadText_init {P : Program} {w : World} {K : PySem.W.Frag} {mg : Str → Option Value} {base : Heap} {A : Ad} (T : Txt P K mg A) : FnOk P w K mg base CX0 1 A.f_BadText_init A.d_BadText_init ["self", "line", "word"] (sp_BadText_init K A) :=
  okX2 T.F_BadText_init scx_BadText_init T.xs_BadText T.xsup T.xn_BadText_line T.xn_BadText_word (by decide) (by decide) (by decide) (by decide) (by decide) (by decide) rfl rfl rfl (fun _ => ⟨_, rfl⟩) (fun _ => rfl) (fun _ => rfl) (fun _ => rfl) (fun _ => rfl)
theorem ok_NoStep_init {P : Program} {w : World} {K : PySem.W.Frag} {mg : Str → Option Value} {base : Heap} {A : Ad} (T : Txt P K mg A) : FnOk P w K mg base CX0 1 A.f_NoStep_init A.d_NoStep_init ["self", "at", "state"] (sp_NoStep_init K A) :=
  okX2 T.F_NoStep_init scx_NoStep_init T.xs_NoStep T.xsup T.xn_NoStep_at T.xn_NoStep_state (by decide) (by decide) (by decide) (by decide) (by decide) (by decide) rfl rfl rfl (fun _ => ⟨_, rfl⟩) (fun _ => rfl) (fun _ => rfl) (fun _ => rfl) (fun _ => rfl)
theorem ok_TooMany_init {P : Program} {w : World} {K : PySem.W.Frag} {mg : Str → Option Value} {base : Heap} {A : Ad} (T : Txt P K mg A) : FnOk P w K mg base CX0 1 A.f_TooMany_init A.d_TooMany_init ["self", "what", "most"] (sp_TooMany_init K A) :=
  okX2 T.F_TooMany_init scx_TooMany_init T.xs_TooMany T.xsup T.xn_TooMany_what T.xn_TooMany_most (by decide) (by decide) (by decide) (by decide) (by decide) (by decide) rfl rfl rfl (fun _ => ⟨_, rfl⟩) (fun _ => rfl) (fun _ => rfl) (fun _ => rfl) (fun _ => rfl)
theorem ok_Nothing_init {P : Program} {w : World} {K : PySem.W.Frag} {mg : Str → Option Value} {base : Heap} {A : Ad} (T : Txt P K mg A) : FnOk P w K mg base CX0 1 A.f_Nothing_init A.d_Nothing_init ["self"] (sp_Nothing_init K A) :=
  okX0 T.F_Nothing_init scx_Nothing_init T.xs_Nothing T.xsup rfl rfl rfl (fun _ => ⟨_, rfl⟩) (fun _ => rfl) (fun _ => rfl)
theorem ok_law_pen {P : Program} {w : World} {K : PySem.W.Frag} {mg : Str → Option Value} {base : Heap} {A : Ad} (T : Txt P K mg A) :
    FnG P w K mg base CX0 1 A.f_law_pen A.d_law_pen ["_law_script"] (sp_law_pen K A) := by
  refine okG T.F_law_pen sc_law_pen (fun vs H Q E h => ?_) (fun cdv A' outer s H vs Q E hr hG h => ⟨(t_law_pen_0 K A), ?_, pure_law_pen h⟩)
  · unfold sp_law_pen at h
    try unfold spPenL at h
    try unfold spDrawL at h
    try unfold spPickL at h
    try unfold spLaw at h
    split at h <;> first | rfl | exact h.elim
  · exact (pss_one (ps_ret (pe_lst (pa_cons (pe_callTy call_listU (by rfl) T.b_list (by decide +kernel) (pa_cons (pe_slice sl_list (pv 0) po_none (po_some pe_int)) pa_nil)) (pa_cons pe_int (pa_cons pe_int pa_nil))))))
theorem ok_law_draw {P : Program} {w : World} {K : PySem.W.Frag} {mg : Str → Option Value} {base : Heap} {A : Ad} (T : Txt P K mg A) :
    FnG P w K mg base CX0 1 A.f_law_draw A.d_law_draw ["_law_pen_here", "_law_many"] (sp_law_draw K A) := by
  refine okG T.F_law_draw sc_law_draw (fun vs H Q E h => ?_) (fun cdv A' outer s H vs Q E hr hG h => ⟨(t_law_draw_0 K A), ?_, pure_law_draw h⟩)
  · unfold sp_law_draw at h
    try unfold spPenL at h
    try unfold spDrawL at h
    try unfold spPickL at h
    try unfold spLaw at h
    split at h <;> first | rfl | exact h.elim
  · exact (pss_cons (ps_if (pt_cmpR op_gtU (pe_ix ix_U (pv 0) pe_int (fun _ _ => rfl)) pe_int (nomark _)) (pss_cons (ps_set (i := 2) sc_law_draw.nd rfl (Or.inl rfl) (pe_op op_modU (pe_callTy call_intU (by rfl) T.b_int (by decide +kernel) (pa_cons (pe_ix ix_U (pv 0) pe_int (fun _ _ => rfl)) pa_nil)) (pv 1)))
    (pss_cons (ps_asg (pe_op op_fdivU (pe_callTy call_intU (by rfl) T.b_int (by decide +kernel) (pa_cons (pe_ix ix_U (pv 0) pe_int (fun _ _ => rfl)) pa_nil)) (pv 1)) (pg_sub (pv 0) pe_int set_U))
    (pss_one (ps_ret (pv 2))))) pss_nil)
    (pss_cons (ps_set (i := 3) sc_law_draw.nd rfl (Or.inl rfl) (pe_ix ix_U (pv 0) pe_int (fun _ _ => rfl)))
    (pss_cons (ps_asg (pe_op op_addU (pv 3) pe_int) (pg_sub (pv 0) pe_int set_U))
    (pss_cons (ps_set (i := 4) sc_law_draw.nd rfl (Or.inl rfl) (pe_op op_addU (pe_op op_mulU pe_int (pv 3)) pe_int))
    (pss_cons (ps_if (pt_cmpR (op_neU hr.units) (pe_ix ix_U (pv 0) pe_int (fun _ _ => rfl)) (pe_lst pa_nil) (nomark _)) (pss_one (ps_set (i := 4) sc_law_draw.nd rfl (Or.inl rfl) (pe_ix ix_U (pe_ix ix_U (pv 0) pe_int (fun _ _ => rfl)) (pe_op op_modU (pe_callTy call_intU (by rfl) T.b_int (by decide +kernel) (pa_cons (pv 3) pa_nil)) (pe_callB call_lenU (by rfl) T.b_len PySem.boot_len (pa_cons (pe_ix ix_U (pv 0) pe_int (fun _ _ => rfl)) pa_nil))) (fun _ _ => rfl)))) pss_nil)
    (pss_cons (ps_if (PW.pt (pw_and (pt_cmpR op_ltU (pv 3) (pe_callB call_lenU (by rfl) T.b_len PySem.boot_len (pa_cons (pe_ix ix_U (pv 0) pe_int (fun _ _ => rfl)) pa_nil)) (nomark _)) (pw_and1 (pt_cmpR op_geU (pe_callB call_absU (by rfl) T.b_abs (by decide +kernel) (pa_cons (pv 4) pa_nil)) (pe_op op_powU pe_int pe_int) (nomark _))))) (pss_cons (ps_set (i := 5) sc_law_draw.nd rfl (Or.inl rfl) (pe_op op_addU (pe_op op_mulU pe_int (pe_op op_subU (pe_callB call_absU (by rfl) T.b_abs (by decide +kernel) (pa_cons (pv 4) pa_nil)) (pe_op op_powU pe_int pe_int))) (pe_callTy call_intU (by rfl) T.b_int (by decide +kernel) (pa_cons (pe_cmpR op_ltU (pv 4) pe_int (nomark _)) pa_nil))))
    (pss_cons (ps_asg (pe_op op_fdivU (pe_callTy call_intU (by rfl) T.b_int (by decide +kernel) (pa_cons (pv 5) pa_nil)) (pv 1)) (pg_sub (pv 0) pe_int set_U))
    (pss_one (ps_ret (pe_op op_modU (pe_callTy call_intU (by rfl) T.b_int (by decide +kernel) (pa_cons (pv 5) pa_nil)) (pv 1)))))) pss_nil)
    (pss_cons (ps_set (i := 6) sc_law_draw.nd rfl (Or.inl rfl) (pe_op op_modU (pe_callTy call_intU (by rfl) T.b_int (by decide +kernel) (pa_cons (pe_op op_powU (pe_op op_addU (pe_op op_addU (pe_op op_modU (pe_callTy call_intU (by rfl) T.b_int (by decide +kernel) (pa_cons (pv 4) pa_nil)) pe_int) (pe_op op_mulU pe_int (pv 3))) pe_int) pe_int) pa_nil)) pe_int))
    (pss_cons (ps_set (i := 6) sc_law_draw.nd rfl (Or.inl rfl) (pe_op op_modU (pe_callTy call_intU (by rfl) T.b_int (by decide +kernel) (pa_cons (pe_op op_powU (pe_op op_addU (pe_op op_addU (pe_op op_mulU (pv 6) (pe_op op_addU (pe_op op_mulU pe_int (pv 3)) pe_int)) (pe_op op_mulU (pe_op op_mulU pe_int (pv 3)) (pv 3))) pe_int) pe_int) pa_nil)) pe_int))
    (pss_one (ps_ret (pe_op op_modU (pe_callTy call_intU (by rfl) T.b_int (by decide +kernel) (pa_cons (pe_op op_fdivU (pv 6) pe_int) pa_nil)) (pv 1))))))))))))
theorem ok_law_pick {P : Program} {w : World} {K : PySem.W.Frag} {mg : Str → Option Value} {base : Heap} {A : Ad} (T : Txt P K mg A)
    (G_law_draw : FnG P w K mg base CX0 1 A.f_law_draw A.d_law_draw ["_law_pen_here", "_law_many"] (sp_law_draw K A)) :
    FnG P w K mg base CX0 3 A.f_law_pick A.d_law_pick ["_law_pen_here", "_law_some"] (sp_law_pick K A) := by
  refine okG T.F_law_pick sc_law_pick (fun vs H Q E h => ?_) (fun cdv A' outer s H vs Q E hr hG h => ⟨(t_law_pick_0 K A), ?_, pure_law_pick h⟩)
  · unfold sp_law_pick at h
    try unfold spPenL at h
    try unfold spDrawL at h
    try unfold spPickL at h
    try unfold spLaw at h
    split at h <;> first | rfl | exact h.elim
  · exact (pss_one (ps_ret (pe_ix ix_U (pv 1) (pe_callG G_law_draw (hr.mono (by decide)) hG rfl T.g_law_draw T.F_law_draw.kp T.B_law_draw .nil pass0 (pa_cons (pv 0) (pa_cons (pe_callB call_lenU (by rfl) T.b_len PySem.boot_len (pa_cons (pv 1) pa_nil)) pa_nil))) (fun _ _ => rfl))))
theorem ok_law_made {P : Program} {w : World} {K : PySem.W.Frag} {mg : Str → Option Value} {base : Heap} {A : Ad} (T : Txt P K mg A)
    (G_BadName_init : FnOk P w K mg base CX0 1 A.f_BadName_init A.d_BadName_init ["self", "value"] (sp_BadName_init K A))
    (G_BadLetter_init : FnOk P w K mg base CX0 1 A.f_BadLetter_init A.d_BadLetter_init ["self", "value"] (sp_BadLetter_init K A))
    (G_BadAnswer_init : FnOk P w K mg base CX0 1 A.f_BadAnswer_init A.d_BadAnswer_init ["self", "value"] (sp_BadAnswer_init K A))
    (G_BadNumber_init : FnOk P w K mg base CX0 1 A.f_BadNumber_init A.d_BadNumber_init ["self", "value"] (sp_BadNumber_init K A))
    (G_BadWord_init : FnOk P w K mg base CX0 1 A.f_BadWord_init A.d_BadWord_init ["self", "value"] (sp_BadWord_init K A))
    (G_NoState_init : FnOk P w K mg base CX0 1 A.f_NoState_init A.d_NoState_init ["self", "value"] (sp_NoState_init K A))
    (G_NoCell_init : FnOk P w K mg base CX0 1 A.f_NoCell_init A.d_NoCell_init ["self", "value"] (sp_NoCell_init K A))
    (G_NoText_init : FnOk P w K mg base CX0 1 A.f_NoText_init A.d_NoText_init ["self", "value"] (sp_NoText_init K A))
    (G_Taken_init : FnOk P w K mg base CX0 1 A.f_Taken_init A.d_Taken_init ["self", "value"] (sp_Taken_init K A))
    (G_BadConverter_init : FnOk P w K mg base CX0 1 A.f_BadConverter_init A.d_BadConverter_init ["self", "part"] (sp_BadConverter_init K A))
    (G_BadGrowth_init : FnOk P w K mg base CX0 1 A.f_BadGrowth_init A.d_BadGrowth_init ["self", "part"] (sp_BadGrowth_init K A))
    (G_BadPaper_init : FnOk P w K mg base CX0 1 A.f_BadPaper_init A.d_BadPaper_init ["self", "part"] (sp_BadPaper_init K A))
    (G_BadArray_init : FnOk P w K mg base CX0 1 A.f_BadArray_init A.d_BadArray_init ["self", "part"] (sp_BadArray_init K A))
    (G_BadDeed_init : FnOk P w K mg base CX0 1 A.f_BadDeed_init A.d_BadDeed_init ["self", "part"] (sp_BadDeed_init K A))
    (G_BadLog_init : FnOk P w K mg base CX0 1 A.f_BadLog_init A.d_BadLog_init ["self", "at"] (sp_BadLog_init K A))
    (G_NoTail_init : FnOk P w K mg base CX0 1 A.f_NoTail_init A.d_NoTail_init ["self", "state"] (sp_NoTail_init K A))
    (G_RunOver_init : FnOk P w K mg base CX0 1 A.f_RunOver_init A.d_RunOver_init ["self", "cell"] (sp_RunOver_init K A))
    (G_NoRoom_init : FnOk P w K mg base CX0 1 A.f_NoRoom_init A.d_NoRoom_init ["self", "cell"] (sp_NoRoom_init K A))
    (G_BadCommand_init : FnOk P w K mg base CX0 1 A.f_BadCommand_init A.d_BadCommand_init ["self", "word"] (sp_BadCommand_init K A))
    (G_BadText_init : FnOk P w K mg base CX0 1 A.f_BadText_init A.d_BadText_init ["self", "line", "word"] (sp_BadText_init K A))
    (G_NoStep_init : FnOk P w K mg base CX0 1 A.f_NoStep_init A.d_NoStep_init ["self", "at", "state"] (sp_NoStep_init K A))
    (G_TooMany_init : FnOk P w K mg base CX0 1 A.f_TooMany_init A.d_TooMany_init ["self", "what", "most"] (sp_TooMany_init K A))
    (G_Nothing_init : FnOk P w K mg base CX0 1 A.f_Nothing_init A.d_Nothing_init ["self"] (sp_Nothing_init K A)) :
    FnG P w K mg base CX0 3 A.f_law_made A.d_law_made ["_law_x", "_law_y"] (sp_law_made K A) := by
  obtain ⟨gK_BadAnswer_init_value, k_BadAnswer_init_value⟩ := T.KW_BadAnswer_init_value
  obtain ⟨gK_BadArray_init_part, k_BadArray_init_part⟩ := T.KW_BadArray_init_part
  obtain ⟨gK_BadCommand_init_word, k_BadCommand_init_word⟩ := T.KW_BadCommand_init_word
  obtain ⟨gK_BadConverter_init_part, k_BadConverter_init_part⟩ := T.KW_BadConverter_init_part
  obtain ⟨gK_BadDeed_init_part, k_BadDeed_init_part⟩ := T.KW_BadDeed_init_part
  obtain ⟨gK_BadGrowth_init_part, k_BadGrowth_init_part⟩ := T.KW_BadGrowth_init_part
  obtain ⟨gK_BadLetter_init_value, k_BadLetter_init_value⟩ := T.KW_BadLetter_init_value
  obtain ⟨gK_BadLog_init_at, k_BadLog_init_at⟩ := T.KW_BadLog_init_at
  obtain ⟨gK_BadName_init_value, k_BadName_init_value⟩ := T.KW_BadName_init_value
  obtain ⟨gK_BadNumber_init_value, k_BadNumber_init_value⟩ := T.KW_BadNumber_init_value
  obtain ⟨gK_BadPaper_init_part, k_BadPaper_init_part⟩ := T.KW_BadPaper_init_part
  obtain ⟨gK_BadText_init_word_line, k_BadText_init_word_line⟩ := T.KW_BadText_init_word_line
  obtain ⟨gK_BadWord_init_value, k_BadWord_init_value⟩ := T.KW_BadWord_init_value
  obtain ⟨gK_NoCell_init_value, k_NoCell_init_value⟩ := T.KW_NoCell_init_value
  obtain ⟨gK_NoRoom_init_cell, k_NoRoom_init_cell⟩ := T.KW_NoRoom_init_cell
  obtain ⟨gK_NoState_init_value, k_NoState_init_value⟩ := T.KW_NoState_init_value
  obtain ⟨gK_NoStep_init_state_at, k_NoStep_init_state_at⟩ := T.KW_NoStep_init_state_at
  obtain ⟨gK_NoTail_init_state, k_NoTail_init_state⟩ := T.KW_NoTail_init_state
  obtain ⟨gK_NoText_init_value, k_NoText_init_value⟩ := T.KW_NoText_init_value
  obtain ⟨gK_RunOver_init_cell, k_RunOver_init_cell⟩ := T.KW_RunOver_init_cell
  obtain ⟨gK_Taken_init_value, k_Taken_init_value⟩ := T.KW_Taken_init_value
  obtain ⟨gK_TooMany_init_most_what, k_TooMany_init_most_what⟩ := T.KW_TooMany_init_most_what
  refine okG T.F_law_made sc_law_made (fun vs H Q E h => ?_) (fun cdv A' outer s H vs Q E hr hG h => ⟨(t_law_made_0 K A), ?_, pure_law_made h⟩)
  · unfold sp_law_made at h
    try unfold spPenL at h
    try unfold spDrawL at h
    try unfold spPickL at h
    try unfold spLaw at h
    split at h <;> first | rfl | exact h.elim
  · exact (pss_one (ps_ret (pe_lstN (pa_cons (pe_tup (pa_cons (pe_mkE T.xo_BadName T.xi_BadName T.xt_BadName G_BadName_init (hr.mono (by decide)) T.B_BadName_init pass0 rfl T.g_BadName (pa_cons (pv 0) pa_nil) (by decide)) (pa_cons (pe_mkEK T.xo_BadName T.xi_BadName T.xt_BadName G_BadName_init (hr.mono (by decide)) k_BadName_init_value pass0 rfl T.g_BadName (pk_cons (pv 0) pk_nil)) (pa_cons pe_str pa_nil)))) (pa_cons (pe_tup (pa_cons (pe_mkE T.xo_BadLetter T.xi_BadLetter T.xt_BadLetter G_BadLetter_init (hr.mono (by decide)) T.B_BadLetter_init pass0 rfl T.g_BadLetter (pa_cons (pv 0) pa_nil) (by decide)) (pa_cons (pe_mkEK T.xo_BadLetter T.xi_BadLetter T.xt_BadLetter G_BadLetter_init (hr.mono (by decide)) k_BadLetter_init_value pass0 rfl T.g_BadLetter (pk_cons (pv 0) pk_nil)) (pa_cons pe_str pa_nil)))) (pa_cons (pe_tup (pa_cons (pe_mkE T.xo_BadAnswer T.xi_BadAnswer T.xt_BadAnswer G_BadAnswer_init (hr.mono (by decide)) T.B_BadAnswer_init pass0 rfl T.g_BadAnswer (pa_cons (pv 0) pa_nil) (by decide)) (pa_cons (pe_mkEK T.xo_BadAnswer T.xi_BadAnswer T.xt_BadAnswer G_BadAnswer_init (hr.mono (by decide)) k_BadAnswer_init_value pass0 rfl T.g_BadAnswer (pk_cons (pv 0) pk_nil)) (pa_cons pe_str pa_nil)))) (pa_cons (pe_tup (pa_cons (pe_mkE T.xo_BadNumber T.xi_BadNumber T.xt_BadNumber G_BadNumber_init (hr.mono (by decide)) T.B_BadNumber_init pass0 rfl T.g_BadNumber (pa_cons (pv 0) pa_nil) (by decide)) (pa_cons (pe_mkEK T.xo_BadNumber T.xi_BadNumber T.xt_BadNumber G_BadNumber_init (hr.mono (by decide)) k_BadNumber_init_value pass0 rfl T.g_BadNumber (pk_cons (pv 0) pk_nil)) (pa_cons pe_str pa_nil)))) (pa_cons (pe_tup (pa_cons (pe_mkE T.xo_BadWord T.xi_BadWord T.xt_BadWord G_BadWord_init (hr.mono (by decide)) T.B_BadWord_init pass0 rfl T.g_BadWord (pa_cons (pv 0) pa_nil) (by decide)) (pa_cons (pe_mkEK T.xo_BadWord T.xi_BadWord T.xt_BadWord G_BadWord_init (hr.mono (by decide)) k_BadWord_init_value pass0 rfl T.g_BadWord (pk_cons (pv 0) pk_nil)) (pa_cons pe_str pa_nil)))) (pa_cons (pe_tup (pa_cons (pe_mkE T.xo_NoState T.xi_NoState T.xt_NoState G_NoState_init (hr.mono (by decide)) T.B_NoState_init pass0 rfl T.g_NoState (pa_cons (pv 0) pa_nil) (by decide)) (pa_cons (pe_mkEK T.xo_NoState T.xi_NoState T.xt_NoState G_NoState_init (hr.mono (by decide)) k_NoState_init_value pass0 rfl T.g_NoState (pk_cons (pv 0) pk_nil)) (pa_cons pe_str pa_nil)))) (pa_cons (pe_tup (pa_cons (pe_mkE T.xo_NoCell T.xi_NoCell T.xt_NoCell G_NoCell_init (hr.mono (by decide)) T.B_NoCell_init pass0 rfl T.g_NoCell (pa_cons (pv 0) pa_nil) (by decide)) (pa_cons (pe_mkEK T.xo_NoCell T.xi_NoCell T.xt_NoCell G_NoCell_init (hr.mono (by decide)) k_NoCell_init_value pass0 rfl T.g_NoCell (pk_cons (pv 0) pk_nil)) (pa_cons pe_str pa_nil)))) (pa_cons (pe_tup (pa_cons (pe_mkE T.xo_NoText T.xi_NoText T.xt_NoText G_NoText_init (hr.mono (by decide)) T.B_NoText_init pass0 rfl T.g_NoText (pa_cons (pv 0) pa_nil) (by decide)) (pa_cons (pe_mkEK T.xo_NoText T.xi_NoText T.xt_NoText G_NoText_init (hr.mono (by decide)) k_NoText_init_value pass0 rfl T.g_NoText (pk_cons (pv 0) pk_nil)) (pa_cons pe_str pa_nil)))) (pa_cons (pe_tup (pa_cons (pe_mkE T.xo_Taken T.xi_Taken T.xt_Taken G_Taken_init (hr.mono (by decide)) T.B_Taken_init pass0 rfl T.g_Taken (pa_cons (pv 0) pa_nil) (by decide)) (pa_cons (pe_mkEK T.xo_Taken T.xi_Taken T.xt_Taken G_Taken_init (hr.mono (by decide)) k_Taken_init_value pass0 rfl T.g_Taken (pk_cons (pv 0) pk_nil)) (pa_cons pe_str pa_nil)))) (pa_cons (pe_tup (pa_cons (pe_mkE T.xo_BadConverter T.xi_BadConverter T.xt_BadConverter G_BadConverter_init (hr.mono (by decide)) T.B_BadConverter_init pass0 rfl T.g_BadConverter (pa_cons (pv 0) pa_nil) (by decide)) (pa_cons (pe_mkEK T.xo_BadConverter T.xi_BadConverter T.xt_BadConverter G_BadConverter_init (hr.mono (by decide)) k_BadConverter_init_part pass0 rfl T.g_BadConverter (pk_cons (pv 0) pk_nil)) (pa_cons pe_str pa_nil)))) (pa_cons (pe_tup (pa_cons (pe_mkE T.xo_BadGrowth T.xi_BadGrowth T.xt_BadGrowth G_BadGrowth_init (hr.mono (by decide)) T.B_BadGrowth_init pass0 rfl T.g_BadGrowth (pa_cons (pv 0) pa_nil) (by decide)) (pa_cons (pe_mkEK T.xo_BadGrowth T.xi_BadGrowth T.xt_BadGrowth G_BadGrowth_init (hr.mono (by decide)) k_BadGrowth_init_part pass0 rfl T.g_BadGrowth (pk_cons (pv 0) pk_nil)) (pa_cons pe_str pa_nil)))) (pa_cons (pe_tup (pa_cons (pe_mkE T.xo_BadPaper T.xi_BadPaper T.xt_BadPaper G_BadPaper_init (hr.mono (by decide)) T.B_BadPaper_init pass0 rfl T.g_BadPaper (pa_cons (pv 0) pa_nil) (by decide)) (pa_cons (pe_mkEK T.xo_BadPaper T.xi_BadPaper T.xt_BadPaper G_BadPaper_init (hr.mono (by decide)) k_BadPaper_init_part pass0 rfl T.g_BadPaper (pk_cons (pv 0) pk_nil)) (pa_cons pe_str pa_nil)))) (pa_cons (pe_tup (pa_cons (pe_mkE T.xo_BadArray T.xi_BadArray T.xt_BadArray G_BadArray_init (hr.mono (by decide)) T.B_BadArray_init pass0 rfl T.g_BadArray (pa_cons (pv 0) pa_nil) (by decide)) (pa_cons (pe_mkEK T.xo_BadArray T.xi_BadArray T.xt_BadArray G_BadArray_init (hr.mono (by decide)) k_BadArray_init_part pass0 rfl T.g_BadArray (pk_cons (pv 0) pk_nil)) (pa_cons pe_str pa_nil)))) (pa_cons (pe_tup (pa_cons (pe_mkE T.xo_BadDeed T.xi_BadDeed T.xt_BadDeed G_BadDeed_init (hr.mono (by decide)) T.B_BadDeed_init pass0 rfl T.g_BadDeed (pa_cons (pv 0) pa_nil) (by decide)) (pa_cons (pe_mkEK T.xo_BadDeed T.xi_BadDeed T.xt_BadDeed G_BadDeed_init (hr.mono (by decide)) k_BadDeed_init_part pass0 rfl T.g_BadDeed (pk_cons (pv 0) pk_nil)) (pa_cons pe_str pa_nil)))) (pa_cons (pe_tup (pa_cons (pe_mkE T.xo_BadLog T.xi_BadLog T.xt_BadLog G_BadLog_init (hr.mono (by decide)) T.B_BadLog_init pass0 rfl T.g_BadLog (pa_cons (pv 0) pa_nil) (by decide)) (pa_cons (pe_mkEK T.xo_BadLog T.xi_BadLog T.xt_BadLog G_BadLog_init (hr.mono (by decide)) k_BadLog_init_at pass0 rfl T.g_BadLog (pk_cons (pv 0) pk_nil)) (pa_cons pe_str pa_nil)))) (pa_cons (pe_tup (pa_cons (pe_mkE T.xo_NoTail T.xi_NoTail T.xt_NoTail G_NoTail_init (hr.mono (by decide)) T.B_NoTail_init pass0 rfl T.g_NoTail (pa_cons (pv 0) pa_nil) (by decide)) (pa_cons (pe_mkEK T.xo_NoTail T.xi_NoTail T.xt_NoTail G_NoTail_init (hr.mono (by decide)) k_NoTail_init_state pass0 rfl T.g_NoTail (pk_cons (pv 0) pk_nil)) (pa_cons pe_str pa_nil)))) (pa_cons (pe_tup (pa_cons (pe_mkE T.xo_RunOver T.xi_RunOver T.xt_RunOver G_RunOver_init (hr.mono (by decide)) T.B_RunOver_init pass0 rfl T.g_RunOver (pa_cons (pv 0) pa_nil) (by decide)) (pa_cons (pe_mkEK T.xo_RunOver T.xi_RunOver T.xt_RunOver G_RunOver_init (hr.mono (by decide)) k_RunOver_init_cell pass0 rfl T.g_RunOver (pk_cons (pv 0) pk_nil)) (pa_cons pe_str pa_nil)))) (pa_cons (pe_tup (pa_cons (pe_mkE T.xo_NoRoom T.xi_NoRoom T.xt_NoRoom G_NoRoom_init (hr.mono (by decide)) T.B_NoRoom_init pass0 rfl T.g_NoRoom (pa_cons (pv 0) pa_nil) (by decide)) (pa_cons (pe_mkEK T.xo_NoRoom T.xi_NoRoom T.xt_NoRoom G_NoRoom_init (hr.mono (by decide)) k_NoRoom_init_cell pass0 rfl T.g_NoRoom (pk_cons (pv 0) pk_nil)) (pa_cons pe_str pa_nil)))) (pa_cons (pe_tup (pa_cons (pe_mkE T.xo_BadCommand T.xi_BadCommand T.xt_BadCommand G_BadCommand_init (hr.mono (by decide)) T.B_BadCommand_init pass0 rfl T.g_BadCommand (pa_cons (pv 0) pa_nil) (by decide)) (pa_cons (pe_mkEK T.xo_BadCommand T.xi_BadCommand T.xt_BadCommand G_BadCommand_init (hr.mono (by decide)) k_BadCommand_init_word pass0 rfl T.g_BadCommand (pk_cons (pv 0) pk_nil)) (pa_cons pe_str pa_nil)))) (pa_cons (pe_tup (pa_cons (pe_mkE T.xo_BadText T.xi_BadText T.xt_BadText G_BadText_init (hr.mono (by decide)) T.B_BadText_init pass0 rfl T.g_BadText (pa_cons (pv 0) (pa_cons (pv 1) pa_nil)) (by decide)) (pa_cons (pe_mkEK T.xo_BadText T.xi_BadText T.xt_BadText G_BadText_init (hr.mono (by decide)) k_BadText_init_word_line pass0 rfl T.g_BadText (pk_cons (pv 1) (pk_cons (pv 0) pk_nil))) (pa_cons pe_str pa_nil)))) (pa_cons (pe_tup (pa_cons (pe_mkE T.xo_NoStep T.xi_NoStep T.xt_NoStep G_NoStep_init (hr.mono (by decide)) T.B_NoStep_init pass0 rfl T.g_NoStep (pa_cons (pv 0) (pa_cons (pv 1) pa_nil)) (by decide)) (pa_cons (pe_mkEK T.xo_NoStep T.xi_NoStep T.xt_NoStep G_NoStep_init (hr.mono (by decide)) k_NoStep_init_state_at pass0 rfl T.g_NoStep (pk_cons (pv 1) (pk_cons (pv 0) pk_nil))) (pa_cons pe_str pa_nil)))) (pa_cons (pe_tup (pa_cons (pe_mkE T.xo_TooMany T.xi_TooMany T.xt_TooMany G_TooMany_init (hr.mono (by decide)) T.B_TooMany_init pass0 rfl T.g_TooMany (pa_cons (pv 0) (pa_cons (pv 1) pa_nil)) (by decide)) (pa_cons (pe_mkEK T.xo_TooMany T.xi_TooMany T.xt_TooMany G_TooMany_init (hr.mono (by decide)) k_TooMany_init_most_what pass0 rfl T.g_TooMany (pk_cons (pv 1) (pk_cons (pv 0) pk_nil))) (pa_cons pe_str pa_nil)))) (pa_cons (pe_tup (pa_cons (pe_mkE0 T.xo_Nothing T.xi_Nothing T.xt_Nothing G_Nothing_init (hr.mono (by decide)) T.B_Nothing_init pass0 rfl T.g_Nothing) (pa_cons (pe_mkE0 T.xo_Nothing T.xi_Nothing T.xt_Nothing G_Nothing_init (hr.mono (by decide)) T.B_Nothing_init pass0 rfl T.g_Nothing) (pa_cons pe_str pa_nil)))) pa_nil))))))))))))))))))))))))))
theorem ok_law_fields {P : Program} {w : World} {K : PySem.W.Frag} {mg : Str → Option Value} {base : Heap} {A : Ad} (T : Txt P K mg A) :
    FnG P w K mg base CX0 1 A.f_law_fields A.d_law_fields ["_law_error"] (sp_law_fields K A) := by
  refine okG T.F_law_fields sc_law_fields (fun vs H Q E h => ?_) (fun cdv A' outer s H vs Q E hr hG h => ⟨(t_law_fields_0 K A), ?_, pure_law_fields T.kf h⟩)
  · unfold sp_law_fields at h
    try unfold spPenL at h
    try unfold spDrawL at h
    try unfold spPickL at h
    try unfold spLaw at h
    split at h <;> first | rfl | exact h.elim
  · exact (pss_cons (ps_set (i := 1) sc_law_fields.nd rfl (Or.inl rfl) (pe_lstN pa_nil))
    (pss_cons (ps_if (pt_val (pe_callB (call_isV T.xcs) (by rfl) T.b_isinstance (by decide +kernel) (pa_cons (pv 0) (pa_cons (pe_glob rfl T.g_BadName rfl) pa_nil)))) (pss_one (ps_expr (pe_bm PySem.F.plainAttrs_list PySem.F.slot_list_append PySem.F.type_list_append mt_append (pv 1) (pa_cons (pe_tup (pa_cons pe_str (pa_cons (pe_lstN (pa_cons (pe_xfV T.xf_BadName T.xn_BadName_value (pv 0)) pa_nil)) pa_nil))) pa_nil)))) pss_nil)
    (pss_cons (ps_if (pt_val (pe_callB (call_isV T.xcs) (by rfl) T.b_isinstance (by decide +kernel) (pa_cons (pv 0) (pa_cons (pe_glob rfl T.g_BadLetter rfl) pa_nil)))) (pss_one (ps_expr (pe_bm PySem.F.plainAttrs_list PySem.F.slot_list_append PySem.F.type_list_append mt_append (pv 1) (pa_cons (pe_tup (pa_cons pe_str (pa_cons (pe_lstN (pa_cons (pe_xfV T.xf_BadLetter T.xn_BadLetter_value (pv 0)) pa_nil)) pa_nil))) pa_nil)))) pss_nil)
    (pss_cons (ps_if (pt_val (pe_callB (call_isV T.xcs) (by rfl) T.b_isinstance (by decide +kernel) (pa_cons (pv 0) (pa_cons (pe_glob rfl T.g_BadAnswer rfl) pa_nil)))) (pss_one (ps_expr (pe_bm PySem.F.plainAttrs_list PySem.F.slot_list_append PySem.F.type_list_append mt_append (pv 1) (pa_cons (pe_tup (pa_cons pe_str (pa_cons (pe_lstN (pa_cons (pe_xfV T.xf_BadAnswer T.xn_BadAnswer_value (pv 0)) pa_nil)) pa_nil))) pa_nil)))) pss_nil)
    (pss_cons (ps_if (pt_val (pe_callB (call_isV T.xcs) (by rfl) T.b_isinstance (by decide +kernel) (pa_cons (pv 0) (pa_cons (pe_glob rfl T.g_BadNumber rfl) pa_nil)))) (pss_one (ps_expr (pe_bm PySem.F.plainAttrs_list PySem.F.slot_list_append PySem.F.type_list_append mt_append (pv 1) (pa_cons (pe_tup (pa_cons pe_str (pa_cons (pe_lstN (pa_cons (pe_xfV T.xf_BadNumber T.xn_BadNumber_value (pv 0)) pa_nil)) pa_nil))) pa_nil)))) pss_nil)
    (pss_cons (ps_if (pt_val (pe_callB (call_isV T.xcs) (by rfl) T.b_isinstance (by decide +kernel) (pa_cons (pv 0) (pa_cons (pe_glob rfl T.g_BadWord rfl) pa_nil)))) (pss_one (ps_expr (pe_bm PySem.F.plainAttrs_list PySem.F.slot_list_append PySem.F.type_list_append mt_append (pv 1) (pa_cons (pe_tup (pa_cons pe_str (pa_cons (pe_lstN (pa_cons (pe_xfV T.xf_BadWord T.xn_BadWord_value (pv 0)) pa_nil)) pa_nil))) pa_nil)))) pss_nil)
    (pss_cons (ps_if (pt_val (pe_callB (call_isV T.xcs) (by rfl) T.b_isinstance (by decide +kernel) (pa_cons (pv 0) (pa_cons (pe_glob rfl T.g_NoState rfl) pa_nil)))) (pss_one (ps_expr (pe_bm PySem.F.plainAttrs_list PySem.F.slot_list_append PySem.F.type_list_append mt_append (pv 1) (pa_cons (pe_tup (pa_cons pe_str (pa_cons (pe_lstN (pa_cons (pe_xfV T.xf_NoState T.xn_NoState_value (pv 0)) pa_nil)) pa_nil))) pa_nil)))) pss_nil)
    (pss_cons (ps_if (pt_val (pe_callB (call_isV T.xcs) (by rfl) T.b_isinstance (by decide +kernel) (pa_cons (pv 0) (pa_cons (pe_glob rfl T.g_NoCell rfl) pa_nil)))) (pss_one (ps_expr (pe_bm PySem.F.plainAttrs_list PySem.F.slot_list_append PySem.F.type_list_append mt_append (pv 1) (pa_cons (pe_tup (pa_cons pe_str (pa_cons (pe_lstN (pa_cons (pe_xfV T.xf_NoCell T.xn_NoCell_value (pv 0)) pa_nil)) pa_nil))) pa_nil)))) pss_nil)
    (pss_cons (ps_if (pt_val (pe_callB (call_isV T.xcs) (by rfl) T.b_isinstance (by decide +kernel) (pa_cons (pv 0) (pa_cons (pe_glob rfl T.g_NoText rfl) pa_nil)))) (pss_one (ps_expr (pe_bm PySem.F.plainAttrs_list PySem.F.slot_list_append PySem.F.type_list_append mt_append (pv 1) (pa_cons (pe_tup (pa_cons pe_str (pa_cons (pe_lstN (pa_cons (pe_xfV T.xf_NoText T.xn_NoText_value (pv 0)) pa_nil)) pa_nil))) pa_nil)))) pss_nil)
    (pss_cons (ps_if (pt_val (pe_callB (call_isV T.xcs) (by rfl) T.b_isinstance (by decide +kernel) (pa_cons (pv 0) (pa_cons (pe_glob rfl T.g_Taken rfl) pa_nil)))) (pss_one (ps_expr (pe_bm PySem.F.plainAttrs_list PySem.F.slot_list_append PySem.F.type_list_append mt_append (pv 1) (pa_cons (pe_tup (pa_cons pe_str (pa_cons (pe_lstN (pa_cons (pe_xfV T.xf_Taken T.xn_Taken_value (pv 0)) pa_nil)) pa_nil))) pa_nil)))) pss_nil)
    (pss_cons (ps_if (pt_val (pe_callB (call_isV T.xcs) (by rfl) T.b_isinstance (by decide +kernel) (pa_cons (pv 0) (pa_cons (pe_glob rfl T.g_BadConverter rfl) pa_nil)))) (pss_one (ps_expr (pe_bm PySem.F.plainAttrs_list PySem.F.slot_list_append PySem.F.type_list_append mt_append (pv 1) (pa_cons (pe_tup (pa_cons pe_str (pa_cons (pe_lstN (pa_cons (pe_xfV T.xf_BadConverter T.xn_BadConverter_part (pv 0)) pa_nil)) pa_nil))) pa_nil)))) pss_nil)
    (pss_cons (ps_if (pt_val (pe_callB (call_isV T.xcs) (by rfl) T.b_isinstance (by decide +kernel) (pa_cons (pv 0) (pa_cons (pe_glob rfl T.g_BadGrowth rfl) pa_nil)))) (pss_one (ps_expr (pe_bm PySem.F.plainAttrs_list PySem.F.slot_list_append PySem.F.type_list_append mt_append (pv 1) (pa_cons (pe_tup (pa_cons pe_str (pa_cons (pe_lstN (pa_cons (pe_xfV T.xf_BadGrowth T.xn_BadGrowth_part (pv 0)) pa_nil)) pa_nil))) pa_nil)))) pss_nil)
    (pss_cons (ps_if (pt_val (pe_callB (call_isV T.xcs) (by rfl) T.b_isinstance (by decide +kernel) (pa_cons (pv 0) (pa_cons (pe_glob rfl T.g_BadPaper rfl) pa_nil)))) (pss_one (ps_expr (pe_bm PySem.F.plainAttrs_list PySem.F.slot_list_append PySem.F.type_list_append mt_append (pv 1) (pa_cons (pe_tup (pa_cons pe_str (pa_cons (pe_lstN (pa_cons (pe_xfV T.xf_BadPaper T.xn_BadPaper_part (pv 0)) pa_nil)) pa_nil))) pa_nil)))) pss_nil)
    (pss_cons (ps_if (pt_val (pe_callB (call_isV T.xcs) (by rfl) T.b_isinstance (by decide +kernel) (pa_cons (pv 0) (pa_cons (pe_glob rfl T.g_BadArray rfl) pa_nil)))) (pss_one (ps_expr (pe_bm PySem.F.plainAttrs_list PySem.F.slot_list_append PySem.F.type_list_append mt_append (pv 1) (pa_cons (pe_tup (pa_cons pe_str (pa_cons (pe_lstN (pa_cons (pe_xfV T.xf_BadArray T.xn_BadArray_part (pv 0)) pa_nil)) pa_nil))) pa_nil)))) pss_nil)
    (pss_cons (ps_if (pt_val (pe_callB (call_isV T.xcs) (by rfl) T.b_isinstance (by decide +kernel) (pa_cons (pv 0) (pa_cons (pe_glob rfl T.g_BadDeed rfl) pa_nil)))) (pss_one (ps_expr (pe_bm PySem.F.plainAttrs_list PySem.F.slot_list_append PySem.F.type_list_append mt_append (pv 1) (pa_cons (pe_tup (pa_cons pe_str (pa_cons (pe_lstN (pa_cons (pe_xfV T.xf_BadDeed T.xn_BadDeed_part (pv 0)) pa_nil)) pa_nil))) pa_nil)))) pss_nil)
    (pss_cons (ps_if (pt_val (pe_callB (call_isV T.xcs) (by rfl) T.b_isinstance (by decide +kernel) (pa_cons (pv 0) (pa_cons (pe_glob rfl T.g_BadLog rfl) pa_nil)))) (pss_one (ps_expr (pe_bm PySem.F.plainAttrs_list PySem.F.slot_list_append PySem.F.type_list_append mt_append (pv 1) (pa_cons (pe_tup (pa_cons pe_str (pa_cons (pe_lstN (pa_cons (pe_xfV T.xf_BadLog T.xn_BadLog_at (pv 0)) pa_nil)) pa_nil))) pa_nil)))) pss_nil)
    (pss_cons (ps_if (pt_val (pe_callB (call_isV T.xcs) (by rfl) T.b_isinstance (by decide +kernel) (pa_cons (pv 0) (pa_cons (pe_glob rfl T.g_NoTail rfl) pa_nil)))) (pss_one (ps_expr (pe_bm PySem.F.plainAttrs_list PySem.F.slot_list_append PySem.F.type_list_append mt_append (pv 1) (pa_cons (pe_tup (pa_cons pe_str (pa_cons (pe_lstN (pa_cons (pe_xfV T.xf_NoTail T.xn_NoTail_state (pv 0)) pa_nil)) pa_nil))) pa_nil)))) pss_nil)
    (pss_cons (ps_if (pt_val (pe_callB (call_isV T.xcs) (by rfl) T.b_isinstance (by decide +kernel) (pa_cons (pv 0) (pa_cons (pe_glob rfl T.g_RunOver rfl) pa_nil)))) (pss_one (ps_expr (pe_bm PySem.F.plainAttrs_list PySem.F.slot_list_append PySem.F.type_list_append mt_append (pv 1) (pa_cons (pe_tup (pa_cons pe_str (pa_cons (pe_lstN (pa_cons (pe_xfV T.xf_RunOver T.xn_RunOver_cell (pv 0)) pa_nil)) pa_nil))) pa_nil)))) pss_nil)
    (pss_cons (ps_if (pt_val (pe_callB (call_isV T.xcs) (by rfl) T.b_isinstance (by decide +kernel) (pa_cons (pv 0) (pa_cons (pe_glob rfl T.g_NoRoom rfl) pa_nil)))) (pss_one (ps_expr (pe_bm PySem.F.plainAttrs_list PySem.F.slot_list_append PySem.F.type_list_append mt_append (pv 1) (pa_cons (pe_tup (pa_cons pe_str (pa_cons (pe_lstN (pa_cons (pe_xfV T.xf_NoRoom T.xn_NoRoom_cell (pv 0)) pa_nil)) pa_nil))) pa_nil)))) pss_nil)
    (pss_cons (ps_if (pt_val (pe_callB (call_isV T.xcs) (by rfl) T.b_isinstance (by decide +kernel) (pa_cons (pv 0) (pa_cons (pe_glob rfl T.g_BadCommand rfl) pa_nil)))) (pss_one (ps_expr (pe_bm PySem.F.plainAttrs_list PySem.F.slot_list_append PySem.F.type_list_append mt_append (pv 1) (pa_cons (pe_tup (pa_cons pe_str (pa_cons (pe_lstN (pa_cons (pe_xfV T.xf_BadCommand T.xn_BadCommand_word (pv 0)) pa_nil)) pa_nil))) pa_nil)))) pss_nil)
    (pss_cons (ps_if (pt_val (pe_callB (call_isV T.xcs) (by rfl) T.b_isinstance (by decide +kernel) (pa_cons (pv 0) (pa_cons (pe_glob rfl T.g_BadText rfl) pa_nil)))) (pss_one (ps_expr (pe_bm PySem.F.plainAttrs_list PySem.F.slot_list_append PySem.F.type_list_append mt_append (pv 1) (pa_cons (pe_tup (pa_cons pe_str (pa_cons (pe_lstN (pa_cons (pe_xfV T.xf_BadText T.xn_BadText_line (pv 0)) (pa_cons (pe_xfV T.xf_BadText T.xn_BadText_word (pv 0)) pa_nil))) pa_nil))) pa_nil)))) pss_nil)
    (pss_cons (ps_if (pt_val (pe_callB (call_isV T.xcs) (by rfl) T.b_isinstance (by decide +kernel) (pa_cons (pv 0) (pa_cons (pe_glob rfl T.g_NoStep rfl) pa_nil)))) (pss_one (ps_expr (pe_bm PySem.F.plainAttrs_list PySem.F.slot_list_append PySem.F.type_list_append mt_append (pv 1) (pa_cons (pe_tup (pa_cons pe_str (pa_cons (pe_lstN (pa_cons (pe_xfV T.xf_NoStep T.xn_NoStep_at (pv 0)) (pa_cons (pe_xfV T.xf_NoStep T.xn_NoStep_state (pv 0)) pa_nil))) pa_nil))) pa_nil)))) pss_nil)
    (pss_cons (ps_if (pt_val (pe_callB (call_isV T.xcs) (by rfl) T.b_isinstance (by decide +kernel) (pa_cons (pv 0) (pa_cons (pe_glob rfl T.g_TooMany rfl) pa_nil)))) (pss_one (ps_expr (pe_bm PySem.F.plainAttrs_list PySem.F.slot_list_append PySem.F.type_list_append mt_append (pv 1) (pa_cons (pe_tup (pa_cons pe_str (pa_cons (pe_lstN (pa_cons (pe_xfV T.xf_TooMany T.xn_TooMany_what (pv 0)) (pa_cons (pe_xfV T.xf_TooMany T.xn_TooMany_most (pv 0)) pa_nil))) pa_nil))) pa_nil)))) pss_nil)
    (pss_cons (ps_if (pt_val (pe_callB (call_isV T.xcs) (by rfl) T.b_isinstance (by decide +kernel) (pa_cons (pv 0) (pa_cons (pe_glob rfl T.g_Nothing rfl) pa_nil)))) (pss_one (ps_expr (pe_bm PySem.F.plainAttrs_list PySem.F.slot_list_append PySem.F.type_list_append mt_append (pv 1) (pa_cons (pe_tup (pa_cons pe_str (pa_cons (pe_lstN pa_nil) pa_nil))) pa_nil)))) pss_nil)
    (pss_one (ps_ret (pv 1)))))))))))))))))))))))))))
theorem ok_law {P : Program} {w : World} {K : PySem.W.Frag} {mg : Str → Option Value} {base : Heap} {A : Ad} (T : Txt P K mg A)
    (G_BadText_init : FnOk P w K mg base CX0 1 A.f_BadText_init A.d_BadText_init ["self", "line", "word"] (sp_BadText_init K A))
    (G_Nothing_init : FnOk P w K mg base CX0 1 A.f_Nothing_init A.d_Nothing_init ["self"] (sp_Nothing_init K A))
    (G_law_pen : FnG P w K mg base CX0 1 A.f_law_pen A.d_law_pen ["_law_script"] (sp_law_pen K A))
    (G_law_pick : FnG P w K mg base CX0 3 A.f_law_pick A.d_law_pick ["_law_pen_here", "_law_some"] (sp_law_pick K A))
    (G_law_made : FnG P w K mg base CX0 3 A.f_law_made A.d_law_made ["_law_x", "_law_y"] (sp_law_made K A))
    (G_law_fields : FnG P w K mg base CX0 1 A.f_law_fields A.d_law_fields ["_law_error"] (sp_law_fields K A)) :
    FnG P w K mg base CX0 5 A.f_law A.d_law ["_law_script"] (sp_law K A) := by
  refine okG T.F_law sc_law (fun vs H Q E h => ?_) (fun cdv A' outer s H vs Q E hr hG h => ⟨(t_law_0 K A), ?_, pure_law T.kf h⟩)
  · unfold sp_law at h
    try unfold spPenL at h
    try unfold spDrawL at h
    try unfold spPickL at h
    try unfold spLaw at h
    split at h <;> first | rfl | exact h.elim
  · exact (pss_cons (ps_set (i := 1) sc_law.nd rfl (Or.inl rfl) (pe_callG G_law_pen (hr.mono (by decide)) hG rfl T.g_law_pen T.F_law_pen.kp T.B_law_pen .nil pass0 (pa_cons (pv 0) pa_nil)))
    (pss_cons (ps_set (i := 2) sc_law.nd rfl (Or.inl rfl) (pe_lstN (pa_cons pe_non (pa_cons pe_int (pa_cons pe_bl (pa_cons pe_str (pa_cons pe_str (pa_cons (pe_un un_negU (pe_op op_powU pe_int pe_int)) (pa_cons (pe_tup (pa_cons pe_int (pa_cons pe_str pa_nil))) (pa_cons (pe_lstN (pa_cons pe_int pa_nil)) (pa_cons (pe_disp (pps_cons pe_str pe_non pps_nil) rfl rfl (fun z => nomatch z) (by decide)) pa_nil)))))))))))
    (pss_cons (ps_for never0 rfl (pi_range1 rfl T.b_range (pa_cons pe_int pa_nil)) (pg_name (i := 3) sc_law.nd rfl (Or.inl rfl))
    (pss_cons (ps_par (i := 4) (j := 5) rfl sc_law.nd rfl rfl (by decide) rfl rfl (pa_cons (pe_callG G_law_pick (hr.mono (by decide)) hG rfl T.g_law_pick T.F_law_pick.kp T.B_law_pick .nil pass0 (pa_cons (pv 1) (pa_cons (pv 2) pa_nil))) (pa_cons (pe_callG G_law_pick (hr.mono (by decide)) hG rfl T.g_law_pick T.F_law_pick.kp T.B_law_pick .nil pass0 (pa_cons (pv 1) (pa_cons (pv 2) pa_nil))) pa_nil)) rfl)
    (pss_cons (ps_for never0 rfl (pi_seq (pe_callG G_law_made (hr.mono (by decide)) hG rfl T.g_law_made T.F_law_made.kp T.B_law_made .nil pass0 (pa_cons (pv 4) (pa_cons (pv 5) pa_nil)))) (pg_tup rfl (pgs_cons (pg_name (i := 6) sc_law.nd rfl (Or.inl rfl)) (pgs_cons (pg_name (i := 7) sc_law.nd rfl (Or.inl rfl)) (pgs_cons (pg_name (i := 8) sc_law.nd rfl (Or.inl rfl)) pgs_nil))))
    (pss_cons (ps_set (i := 9) sc_law.nd rfl (Or.inl rfl) (pe_callG G_law_fields (hr.mono (by decide)) hG rfl T.g_law_fields T.F_law_fields.kp T.B_law_fields .nil pass0 (pa_cons (pv 6) pa_nil)))
    (pss_cons (ps_if (PW.pt (pw_or (pt_cmpR (op_neU hr.units) (pe_callB call_lenE (by rfl) T.b_len PySem.boot_len (pa_cons (pv 9) pa_nil)) pe_int (nomark _)) (pw_or (pt_cmpR (op_neU hr.units) (pe_callB (call_reprU9 hG hr.units) (by rfl) T.b_repr (by decide +kernel) (pa_cons (pv 9) pa_nil)) (pe_callB (call_reprU9 hG hr.units) (by rfl) T.b_repr (by decide +kernel) (pa_cons (pe_callG G_law_fields (hr.mono (by decide)) hG rfl T.g_law_fields T.F_law_fields.kp T.B_law_fields .nil pass0 (pa_cons (pv 7) pa_nil)) pa_nil)) (nomark _)) (pw_or1 (pt_cmpR (op_neU hr.units) (pe_ix ix_seq (pe_ix ix_seq (pv 9) pe_int (fun _ _ => rfl)) pe_int (fun _ _ => rfl)) (pv 8) (nomark _)))))) (pss_one (ps_ret pe_bl)) pss_nil)
    (pss_cons (ps_if (pt_cmpR (op_neU hr.units) (pe_callB (call_reprU9 hG hr.units) (by rfl) T.b_repr (by decide +kernel) (pa_cons (pe_ix ix_seq (pe_ix ix_seq (pv 9) pe_int (fun _ _ => rfl)) pe_int (fun _ _ => rfl)) pa_nil)) (pe_callB (call_reprU9 hG hr.units) (by rfl) T.b_repr (by decide +kernel) (pa_cons (pe_slice sl_listN (pe_lstN (pa_cons (pv 4) (pa_cons (pv 5) pa_nil))) po_none (po_some (pe_callB call_lenE (by rfl) T.b_len PySem.boot_len (pa_cons (pe_ix ix_seq (pe_ix ix_seq (pv 9) pe_int (fun _ _ => rfl)) pe_int (fun _ _ => rfl)) pa_nil)))) pa_nil)) (nomark _)) (pss_one (ps_ret pe_bl)) pss_nil)
    (pss_cons (ps_if (PW.pt (pw_or (pt_not (pt_val (pe_callB (call_isV T.xcs) (by rfl) T.b_isinstance (by decide +kernel) (pa_cons (pv 6) (pa_cons (pe_glob rfl T.g_HeadError rfl) pa_nil))))) (pw_or1 (pt_not (pt_val (pe_callB (call_isV T.xcs) (by rfl) T.b_isinstance (by decide +kernel) (pa_cons (pv 6) (pa_cons (pe_bltn rfl T.b_ValueError (by decide +kernel) rfl) pa_nil)))))))) (pss_one (ps_ret pe_bl)) pss_nil)
    (pss_one (ps_if (PW.pt (pw_or (pt_val (pe_callB (call_isV T.xcs) (by rfl) T.b_isinstance (by decide +kernel) (pa_cons (pv 6) (pa_cons (pe_bltn rfl T.b_LookupError (by decide +kernel) rfl) pa_nil)))) (pw_or (pt_val (pe_callB (call_isV T.xcs) (by rfl) T.b_isinstance (by decide +kernel) (pa_cons (pv 6) (pa_cons (pe_bltn rfl T.b_ArithmeticError (by decide +kernel) rfl) pa_nil)))) (pw_or1 (pt_val (pe_callB (call_isV T.xcs) (by rfl) T.b_isinstance (by decide +kernel) (pa_cons (pv 6) (pa_cons (pe_bltn rfl T.b_TypeError (by decide +kernel) rfl) pa_nil)))))))) (pss_one (ps_ret pe_bl)) pss_nil)))))))
    (pss_one (ps_if (PW.pt (pw_or (pt_cmpR (op_neU hr.units) (pe_callB call_lenE (by rfl) T.b_len PySem.boot_len (pa_cons (pe_ix ix_seq (pe_ix ix_seq (pe_callG G_law_fields (hr.mono (by decide)) hG rfl T.g_law_fields T.F_law_fields.kp T.B_law_fields .nil pass0 (pa_cons (pe_mkE T.xo_BadText T.xi_BadText T.xt_BadText G_BadText_init (hr.mono (by decide)) T.B_BadText_init pass0 rfl T.g_BadText (pa_cons (pv 4) (pa_cons (pv 5) pa_nil)) (by decide)) pa_nil)) pe_int (fun _ _ => rfl)) pe_int (fun _ _ => rfl)) pa_nil)) pe_int (nomark _)) (pw_or1 (pt_cmpR (op_neU hr.units) (pe_callG G_law_fields (hr.mono (by decide)) hG rfl T.g_law_fields T.F_law_fields.kp T.B_law_fields .nil pass0 (pa_cons (pe_mkE0 T.xo_Nothing T.xi_Nothing T.xt_Nothing G_Nothing_init (hr.mono (by decide)) T.B_Nothing_init pass0 rfl T.g_Nothing) pa_nil)) (pe_lstN (pa_cons (pe_tup (pa_cons pe_str (pa_cons (pe_lstN pa_nil) pa_nil))) pa_nil)) (nomark _))))) (pss_one (ps_ret pe_bl)) pss_nil)))))
    (pss_one (ps_ret pe_bl)))))

theorem ok_all {P : Program} {w : World} {K : PySem.W.Frag} {mg : Str → Option Value} {base : Heap} {A : Ad} (T : Txt P K mg A) : FnG P w K mg base CX0 5 A.f_law A.d_law ["_law_script"] (sp_law K A) := by
  have G_BadName_init : FnOk P w K mg base CX0 1 A.f_BadName_init A.d_BadName_init ["self", "value"] (sp_BadName_init K A) := ok_BadName_init T
  have G_BadLetter_init : FnOk P w K mg base CX0 1 A.f_BadLetter_init A.d_BadLetter_init ["self", "value"] (sp_BadLetter_init K A) := ok_BadLetter_init T
  have G_BadAnswer_init : FnOk P w K mg base CX0 1 A.f_BadAnswer_init A.d_BadAnswer_init ["self", "value"] (sp_BadAnswer_init K A) := ok_BadAnswer_init T
  have G_BadNumber_init : FnOk P w K mg base CX0 1 A.f_BadNumber_init A.d_BadNumber_init ["self", "value"] (sp_BadNumber_init K A) := ok_BadNumber_init T
  have G_BadWord_init : FnOk P w K mg base CX0 1 A.f_BadWord_init A.d_BadWord_init ["self", "value"] (sp_BadWord_init K A) := ok_BadWord_init T
  have G_NoState_init : FnOk P w K mg base CX0 1 A.f_NoState_init A.d_NoState_init ["self", "value"] (sp_NoState_init K A) := ok_NoState_init T
  have G_NoCell_init : FnOk P w K mg base CX0 1 A.f_NoCell_init A.d_NoCell_init ["self", "value"] (sp_NoCell_init K A) := ok_NoCell_init T
  have G_NoText_init : FnOk P w K mg base CX0 1 A.f_NoText_init A.d_NoText_init ["self", "value"] (sp_NoText_init K A) := ok_NoText_init T
  have G_Taken_init : FnOk P w K mg base CX0 1 A.f_Taken_init A.d_Taken_init ["self", "value"] (sp_Taken_init K A) := ok_Taken_init T
  have G_BadConverter_init : FnOk P w K mg base CX0 1 A.f_BadConverter_init A.d_BadConverter_init ["self", "part"] (sp_BadConverter_init K A) := ok_BadConverter_init T
  have G_BadGrowth_init : FnOk P w K mg base CX0 1 A.f_BadGrowth_init A.d_BadGrowth_init ["self", "part"] (sp_BadGrowth_init K A) := ok_BadGrowth_init T
  have G_BadPaper_init : FnOk P w K mg base CX0 1 A.f_BadPaper_init A.d_BadPaper_init ["self", "part"] (sp_BadPaper_init K A) := ok_BadPaper_init T
  have G_BadArray_init : FnOk P w K mg base CX0 1 A.f_BadArray_init A.d_BadArray_init ["self", "part"] (sp_BadArray_init K A) := ok_BadArray_init T
  have G_BadDeed_init : FnOk P w K mg base CX0 1 A.f_BadDeed_init A.d_BadDeed_init ["self", "part"] (sp_BadDeed_init K A) := ok_BadDeed_init T
  have G_BadLog_init : FnOk P w K mg base CX0 1 A.f_BadLog_init A.d_BadLog_init ["self", "at"] (sp_BadLog_init K A) := ok_BadLog_init T
  have G_NoTail_init : FnOk P w K mg base CX0 1 A.f_NoTail_init A.d_NoTail_init ["self", "state"] (sp_NoTail_init K A) := ok_NoTail_init T
  have G_RunOver_init : FnOk P w K mg base CX0 1 A.f_RunOver_init A.d_RunOver_init ["self", "cell"] (sp_RunOver_init K A) := ok_RunOver_init T
  have G_NoRoom_init : FnOk P w K mg base CX0 1 A.f_NoRoom_init A.d_NoRoom_init ["self", "cell"] (sp_NoRoom_init K A) := ok_NoRoom_init T
  have G_BadCommand_init : FnOk P w K mg base CX0 1 A.f_BadCommand_init A.d_BadCommand_init ["self", "word"] (sp_BadCommand_init K A) := ok_BadCommand_init T
  have G_BadText_init : FnOk P w K mg base CX0 1 A.f_BadText_init A.d_BadText_init ["self", "line", "word"] (sp_BadText_init K A) := ok_BadText_init T
  have G_NoStep_init : FnOk P w K mg base CX0 1 A.f_NoStep_init A.d_NoStep_init ["self", "at", "state"] (sp_NoStep_init K A) := ok_NoStep_init T
  have G_TooMany_init : FnOk P w K mg base CX0 1 A.f_TooMany_init A.d_TooMany_init ["self", "what", "most"] (sp_TooMany_init K A) := ok_TooMany_init T
  have G_Nothing_init : FnOk P w K mg base CX0 1 A.f_Nothing_init A.d_Nothing_init ["self"] (sp_Nothing_init K A) := ok_Nothing_init T
  have G_law_pen : FnG P w K mg base CX0 1 A.f_law_pen A.d_law_pen ["_law_script"] (sp_law_pen K A) := ok_law_pen T
  have G_law_draw : FnG P w K mg base CX0 1 A.f_law_draw A.d_law_draw ["_law_pen_here", "_law_many"] (sp_law_draw K A) := ok_law_draw T
  have G_law_pick : FnG P w K mg base CX0 3 A.f_law_pick A.d_law_pick ["_law_pen_here", "_law_some"] (sp_law_pick K A) := ok_law_pick T G_law_draw
  have G_law_made : FnG P w K mg base CX0 3 A.f_law_made A.d_law_made ["_law_x", "_law_y"] (sp_law_made K A) := ok_law_made T G_BadName_init G_BadLetter_init G_BadAnswer_init G_BadNumber_init G_BadWord_init G_NoState_init G_NoCell_init G_NoText_init G_Taken_init G_BadConverter_init G_BadGrowth_init G_BadPaper_init G_BadArray_init G_BadDeed_init G_BadLog_init G_NoTail_init G_RunOver_init G_NoRoom_init G_BadCommand_init G_BadText_init G_NoStep_init G_TooMany_init G_Nothing_init
  have G_law_fields : FnG P w K mg base CX0 1 A.f_law_fields A.d_law_fields ["_law_error"] (sp_law_fields K A) := ok_law_fields T
  have G_law : FnG P w K mg base CX0 5 A.f_law A.d_law ["_law_script"] (sp_law K A) := ok_law T G_BadText_init G_Nothing_init G_law_pen G_law_pick G_law_made G_law_fields
  exact G_law

end HG

namespace HG
open PySem L2 PyProof.Rows
theorem sub_mro {K : PySem.W.Frag} {C : Addr} {cd : ClassData} {l : List Value} {b : Value} (h : PySem.W.clsIn K C = some cd) (e : cd.mro = l) (ne : l.isEmpty = false) : PySem.W.subIn K (.ref C) b = some (l.contains b) := by
  show PySem.W.mroIn K C b = _
  unfold PySem.W.mroIn
  rw [h]
  show (if cd.mro.isEmpty then none else some (cd.mro.contains b)) = _
  rw [e, ne]
  rfl
theorem kit_sub {K : PySem.W.Frag} {C D : Addr} {b : Bool} (hne : C ≠ D) (hc : PySem.W.isClsIn K D = true) (ht : PySem.W.typeIn K (.ref D) = some (.type "type")) (hs : PySem.W.subIn K (.ref C) (.ref D) = some b) : PySem.W.kitOne K (.ref C) (.ref D) = some b := by
  have hne : (Value.ref C == Value.ref D) = false := Bool.eq_false_iff.mpr fun q => hne (by injection (beq_iff_eq.mp q))
  have hc' : (PySem.W.clsIn K D).isSome = true := hc
  unfold PySem.W.kitOne PySem.W.kitCls
  simp only [hne, hc', ht, hs, Bool.false_eq_true, if_false, beq_self_eq_true, Bool.and_self, if_true]
theorem cls_of {K : PySem.W.Frag} {C N : Addr} {nm q : Str} {bs bm sub : List Value} {hd ab : Bool} {sn : List Str} {col : Option Bool} {dd : Option Addr} {k0 k1 k2 k3 k5 : Option Value} {ni : String} (lC : K.lookup C = some (excClassObj nm q C N bs bm hd sn sub ab col dd k0 k1 k2 k3 k5 ni)) : ∃ cd, PySem.W.clsIn K C = some cd ∧ cd.mro = .ref C :: bm := by
  unfold PySem.W.clsIn
  rw [lC]
  exact ⟨_, rfl, rfl⟩
theorem cls_bm {K : PySem.W.Frag} {C : Addr} {bm l : List Value} (h : ∃ cd : ClassData, PySem.W.clsIn K C = some cd ∧ cd.mro = .ref C :: bm) (e : bm = l) : ∃ cd : ClassData, PySem.W.clsIn K C = some cd ∧ cd.mro = .ref C :: l := by subst e; exact h
def E23.idx : E23 → Nat
  | .BadName => 0
  | .BadLetter => 1
  | .BadAnswer => 2
  | .BadNumber => 3
  | .BadWord => 4
  | .NoState => 5
  | .NoCell => 6
  | .NoText => 7
  | .Taken => 8
  | .BadConverter => 9
  | .BadGrowth => 10
  | .BadPaper => 11
  | .BadArray => 12
  | .BadDeed => 13
  | .BadLog => 14
  | .NoTail => 15
  | .RunOver => 16
  | .NoRoom => 17
  | .BadCommand => 18
  | .BadText => 19
  | .NoStep => 20
  | .TooMany => 21
  | .Nothing => 22
theorem E23.at_ (A : Ad) (i : E23) : (E23.all.map (E23.c A) ++ [A.c_HeadError])[i.idx]? = some (i.c A) := by cases i <;> rfl
theorem E23.idx_all (i : E23) : E23.all[i.idx]? = some i := by cases i <;> rfl
theorem E23.idx_inj (i j : E23) (h : i.idx = j.idx) : i = j := by
  have a := E23.idx_all i
  rw [h, E23.idx_all j] at a
  exact (Option.some.inj a).symm
theorem E23.idx_lt (i : E23) : i.idx < 23 := by cases i <;> decide
theorem nd_ne {l : List Addr} (nd : l.Nodup) {a b : Nat} {x y : Addr} (ha : l[a]? = some x) (hb : l[b]? = some y) (h : a ≠ b) : x ≠ y := by
  obtain ⟨h1, rfl⟩ := List.getElem?_eq_some_iff.mp ha
  obtain ⟨h2, rfl⟩ := List.getElem?_eq_some_iff.mp hb
  rcases Nat.lt_or_gt_of_ne h with q | q
  · exact List.pairwise_iff_getElem.mp nd a b h1 h2 q
  · exact fun e => List.pairwise_iff_getElem.mp nd b a h2 h1 q e.symm
def veM : List Value := [.type "ValueError", .type "Exception", .type "BaseException", .type "object"]
theorem kf_mk {K : PySem.W.Frag} {A : Ad} {bmR : List Value} (nd : (E23.all.map (E23.c A) ++ [A.c_HeadError]).Nodup) (eR : bmR = veM) (hcd : ∀ i : E23, ∃ cd : ClassData, PySem.W.clsIn K (i.c A) = some cd ∧ cd.mro = .ref (i.c A) :: .ref A.c_HeadError :: bmR)
    (ty : ∀ i : E23, PySem.W.typeIn K (.ref (i.c A)) = some (.type "type")) (vc : ∃ cd : ClassData, PySem.W.clsIn K A.c_HeadError = some cd ∧ cd.mro = .ref A.c_HeadError :: bmR) (vt : PySem.W.typeIn K (.ref A.c_HeadError) = some (.type "type")) : KF K A := by
  subst eR
  have ne : ∀ i j : E23, i ≠ j → i.c A ≠ j.c A := fun i j h => nd_ne nd (E23.at_ A i) (E23.at_ A j) fun e => h (E23.idx_inj i j e)
  have nv : ∀ i : E23, i.c A ≠ A.c_HeadError := fun i => nd_ne nd (E23.at_ A i) (b := 23) rfl (by have := i.idx_lt; omega)
  have ic : ∀ i : E23, PySem.W.isClsIn K (i.c A) = true := fun i => by
    obtain ⟨cd, h, _⟩ := hcd i
    unfold PySem.W.isClsIn
    rw [h]; rfl
  have sub : ∀ i : E23, ∀ b, PySem.W.subIn K (.ref (i.c A)) b = some ((.ref (i.c A) :: .ref A.c_HeadError :: veM).contains b) := fun i b => by
    obtain ⟨cd, h1, h2⟩ := hcd i
    exact sub_mro h1 h2 rfl
  refine ⟨fun i j => ?_, fun i => ?_, fun i p hp => ?_⟩
  · by_cases e : i = j
    · subst e
      rw [decide_eq_true rfl]
      exact kit_rr
    · rw [decide_eq_false e]
      refine kit_sub (ne i j e) (ic j) (ty j) ?_
      rw [sub i]
      have n1 := ne j i (Ne.symm e)
      have n2 := nv j
      simp [n1, n2, veM]
  · refine kit_sub (nv i) ?_ vt ?_
    · obtain ⟨cd, h, _⟩ := vc
      unfold PySem.W.isClsIn
      rw [h]; rfl
    · rw [sub i]
      simp
  · refine kit_rt ?_ ?_
    · revert p; decide +kernel
    · rw [sub i]
      simp only [BT, List.mem_cons, List.not_mem_nil, or_false] at hp
      rcases hp with rfl | rfl | rfl | rfl <;> simp [veM]
theorem all_mk {l : PySem.W.OpenLaw} {w : World} {K : PySem.W.Frag} {h : Heap} {mg : Str → Option Value} {fa : Addr} {c_BadName c_BadLetter c_BadAnswer c_BadNumber c_BadWord c_NoState c_NoCell c_NoText c_Taken c_BadConverter c_BadGrowth c_BadPaper c_BadArray c_BadDeed c_BadLog c_NoTail c_RunOver c_NoRoom c_BadCommand c_BadText c_NoStep c_TooMany c_Nothing c_HeadError cda_BadName cel_BadName cda_BadLetter cel_BadLetter cda_BadAnswer cel_BadAnswer cda_BadNumber cel_BadNumber cda_BadWord cel_BadWord cda_NoState cel_NoState cda_NoCell cel_NoCell cda_NoText cel_NoText cda_Taken cel_Taken cda_BadConverter cel_BadConverter cda_BadGrowth cel_BadGrowth cda_BadPaper cel_BadPaper cda_BadArray cel_BadArray cda_BadDeed cel_BadDeed cda_BadLog cel_BadLog cda_NoTail cel_NoTail cda_RunOver cel_RunOver cda_NoRoom cel_NoRoom cda_BadCommand cel_BadCommand cda_BadText cel_BadText cda_NoStep cel_NoStep cda_TooMany cel_TooMany cda_Nothing cel_Nothing f_BadName_init f_BadLetter_init f_BadAnswer_init f_BadNumber_init f_BadWord_init f_NoState_init f_NoCell_init f_NoText_init f_Taken_init f_BadConverter_init f_BadGrowth_init f_BadPaper_init f_BadArray_init f_BadDeed_init f_BadLog_init f_NoTail_init f_RunOver_init f_NoRoom_init f_BadCommand_init f_BadText_init f_NoStep_init f_TooMany_init f_Nothing_init f_law_pen f_law_draw f_law_pick f_law_made f_law_fields f_law : Addr} (X : K.In h) (G : h.Ns mainGlobals mg) (hfa : mg "law" = some (.ref fa))
    {od_BadName_init an_BadName_init od_BadLetter_init an_BadLetter_init od_BadAnswer_init an_BadAnswer_init od_BadNumber_init an_BadNumber_init od_BadWord_init an_BadWord_init od_NoState_init an_NoState_init od_NoCell_init an_NoCell_init od_NoText_init an_NoText_init od_Taken_init an_Taken_init od_BadConverter_init an_BadConverter_init od_BadGrowth_init an_BadGrowth_init od_BadPaper_init an_BadPaper_init od_BadArray_init an_BadArray_init od_BadDeed_init an_BadDeed_init od_BadLog_init an_BadLog_init od_NoTail_init an_NoTail_init od_RunOver_init an_RunOver_init od_NoRoom_init an_NoRoom_init od_BadCommand_init an_BadCommand_init od_BadText_init an_BadText_init od_NoStep_init an_NoStep_init od_TooMany_init an_TooMany_init od_Nothing_init an_Nothing_init od_law_pen an_law_pen od_law_draw an_law_draw od_law_pick an_law_pick od_law_made an_law_made od_law_fields an_law_fields od_law an_law : Option Addr} {sl_BadName_init sl_BadLetter_init sl_BadAnswer_init sl_BadNumber_init sl_BadWord_init sl_NoState_init sl_NoCell_init sl_NoText_init sl_Taken_init sl_BadConverter_init sl_BadGrowth_init sl_BadPaper_init sl_BadArray_init sl_BadDeed_init sl_BadLog_init sl_NoTail_init sl_RunOver_init sl_NoRoom_init sl_BadCommand_init sl_BadText_init sl_NoStep_init sl_TooMany_init sl_Nothing_init sl_law_pen sl_law_draw sl_law_pick sl_law_made sl_law_fields sl_law : Array (Option Value)} {oc_BadName_init kV_BadName_init dc_BadName_init pm_BadName_init ct_BadName_init oc_BadLetter_init kV_BadLetter_init dc_BadLetter_init pm_BadLetter_init ct_BadLetter_init oc_BadAnswer_init kV_BadAnswer_init dc_BadAnswer_init pm_BadAnswer_init ct_BadAnswer_init oc_BadNumber_init kV_BadNumber_init dc_BadNumber_init pm_BadNumber_init ct_BadNumber_init oc_BadWord_init kV_BadWord_init dc_BadWord_init pm_BadWord_init ct_BadWord_init oc_NoState_init kV_NoState_init dc_NoState_init pm_NoState_init ct_NoState_init oc_NoCell_init kV_NoCell_init dc_NoCell_init pm_NoCell_init ct_NoCell_init oc_NoText_init kV_NoText_init dc_NoText_init pm_NoText_init ct_NoText_init oc_Taken_init kV_Taken_init dc_Taken_init pm_Taken_init ct_Taken_init oc_BadConverter_init kV_BadConverter_init dc_BadConverter_init pm_BadConverter_init ct_BadConverter_init oc_BadGrowth_init kV_BadGrowth_init dc_BadGrowth_init pm_BadGrowth_init ct_BadGrowth_init oc_BadPaper_init kV_BadPaper_init dc_BadPaper_init pm_BadPaper_init ct_BadPaper_init oc_BadArray_init kV_BadArray_init dc_BadArray_init pm_BadArray_init ct_BadArray_init oc_BadDeed_init kV_BadDeed_init dc_BadDeed_init pm_BadDeed_init ct_BadDeed_init oc_BadLog_init kV_BadLog_init dc_BadLog_init pm_BadLog_init ct_BadLog_init oc_NoTail_init kV_NoTail_init dc_NoTail_init pm_NoTail_init ct_NoTail_init oc_RunOver_init kV_RunOver_init dc_RunOver_init pm_RunOver_init ct_RunOver_init oc_NoRoom_init kV_NoRoom_init dc_NoRoom_init pm_NoRoom_init ct_NoRoom_init oc_BadCommand_init kV_BadCommand_init dc_BadCommand_init pm_BadCommand_init ct_BadCommand_init oc_BadText_init kV_BadText_init dc_BadText_init pm_BadText_init ct_BadText_init oc_NoStep_init kV_NoStep_init dc_NoStep_init pm_NoStep_init ct_NoStep_init oc_TooMany_init kV_TooMany_init dc_TooMany_init pm_TooMany_init ct_TooMany_init oc_Nothing_init kV_Nothing_init dc_Nothing_init pm_Nothing_init ct_Nothing_init oc_law_pen kV_law_pen dc_law_pen pm_law_pen cd_law_pen ct_law_pen oc_law_draw kV_law_draw dc_law_draw pm_law_draw cd_law_draw ct_law_draw oc_law_pick kV_law_pick dc_law_pick pm_law_pick cd_law_pick ct_law_pick oc_law_made kV_law_made dc_law_made pm_law_made cd_law_made ct_law_made oc_law_fields kV_law_fields dc_law_fields pm_law_fields cd_law_fields ct_law_fields oc_law kV_law dc_law pm_law cd_law ct_law : Value} {xnm_BadName xq_BadName : Str} {xN_BadName : Addr} {xbs_BadName xbm_BadName xsub_BadName : List Value} {xsn_BadName : List Str} {xab_BadName : Bool} {xcol_BadName : Option Bool} {xdd_BadName : Option Addr} {x0_BadName x1_BadName x2_BadName x3_BadName x5_BadName : Option Value} {xnm_BadLetter xq_BadLetter : Str} {xN_BadLetter : Addr} {xbs_BadLetter xbm_BadLetter xsub_BadLetter : List Value} {xsn_BadLetter : List Str} {xab_BadLetter : Bool} {xcol_BadLetter : Option Bool} {xdd_BadLetter : Option Addr} {x0_BadLetter x1_BadLetter x2_BadLetter x3_BadLetter x5_BadLetter : Option Value} {xnm_BadAnswer xq_BadAnswer : Str} {xN_BadAnswer : Addr} {xbs_BadAnswer xbm_BadAnswer xsub_BadAnswer : List Value} {xsn_BadAnswer : List Str} {xab_BadAnswer : Bool} {xcol_BadAnswer : Option Bool} {xdd_BadAnswer : Option Addr} {x0_BadAnswer x1_BadAnswer x2_BadAnswer x3_BadAnswer x5_BadAnswer : Option Value} {xnm_BadNumber xq_BadNumber : Str} {xN_BadNumber : Addr} {xbs_BadNumber xbm_BadNumber xsub_BadNumber : List Value} {xsn_BadNumber : List Str} {xab_BadNumber : Bool} {xcol_BadNumber : Option Bool} {xdd_BadNumber : Option Addr} {x0_BadNumber x1_BadNumber x2_BadNumber x3_BadNumber x5_BadNumber : Option Value} {xnm_BadWord xq_BadWord : Str} {xN_BadWord : Addr} {xbs_BadWord xbm_BadWord xsub_BadWord : List Value} {xsn_BadWord : List Str} {xab_BadWord : Bool} {xcol_BadWord : Option Bool} {xdd_BadWord : Option Addr} {x0_BadWord x1_BadWord x2_BadWord x3_BadWord x5_BadWord : Option Value} {xnm_NoState xq_NoState : Str} {xN_NoState : Addr} {xbs_NoState xbm_NoState xsub_NoState : List Value} {xsn_NoState : List Str} {xab_NoState : Bool} {xcol_NoState : Option Bool} {xdd_NoState : Option Addr} {x0_NoState x1_NoState x2_NoState x3_NoState x5_NoState : Option Value} {xnm_NoCell xq_NoCell : Str} {xN_NoCell : Addr} {xbs_NoCell xbm_NoCell xsub_NoCell : List Value} {xsn_NoCell : List Str} {xab_NoCell : Bool} {xcol_NoCell : Option Bool} {xdd_NoCell : Option Addr} {x0_NoCell x1_NoCell x2_NoCell x3_NoCell x5_NoCell : Option Value} {xnm_NoText xq_NoText : Str} {xN_NoText : Addr} {xbs_NoText xbm_NoText xsub_NoText : List Value} {xsn_NoText : List Str} {xab_NoText : Bool} {xcol_NoText : Option Bool} {xdd_NoText : Option Addr} {x0_NoText x1_NoText x2_NoText x3_NoText x5_NoText : Option Value} {xnm_Taken xq_Taken : Str} {xN_Taken : Addr} {xbs_Taken xbm_Taken xsub_Taken : List Value} {xsn_Taken : List Str} {xab_Taken : Bool} {xcol_Taken : Option Bool} {xdd_Taken : Option Addr} {x0_Taken x1_Taken x2_Taken x3_Taken x5_Taken : Option Value} {xnm_BadConverter xq_BadConverter : Str} {xN_BadConverter : Addr} {xbs_BadConverter xbm_BadConverter xsub_BadConverter : List Value} {xsn_BadConverter : List Str} {xab_BadConverter : Bool} {xcol_BadConverter : Option Bool} {xdd_BadConverter : Option Addr} {x0_BadConverter x1_BadConverter x2_BadConverter x3_BadConverter x5_BadConverter : Option Value} {xnm_BadGrowth xq_BadGrowth : Str} {xN_BadGrowth : Addr} {xbs_BadGrowth xbm_BadGrowth xsub_BadGrowth : List Value} {xsn_BadGrowth : List Str} {xab_BadGrowth : Bool} {xcol_BadGrowth : Option Bool} {xdd_BadGrowth : Option Addr} {x0_BadGrowth x1_BadGrowth x2_BadGrowth x3_BadGrowth x5_BadGrowth : Option Value} {xnm_BadPaper xq_BadPaper : Str} {xN_BadPaper : Addr} {xbs_BadPaper xbm_BadPaper xsub_BadPaper : List Value} {xsn_BadPaper : List Str} {xab_BadPaper : Bool} {xcol_BadPaper : Option Bool} {xdd_BadPaper : Option Addr} {x0_BadPaper x1_BadPaper x2_BadPaper x3_BadPaper x5_BadPaper : Option Value} {xnm_BadArray xq_BadArray : Str} {xN_BadArray : Addr} {xbs_BadArray xbm_BadArray xsub_BadArray : List Value} {xsn_BadArray : List Str} {xab_BadArray : Bool} {xcol_BadArray : Option Bool} {xdd_BadArray : Option Addr} {x0_BadArray x1_BadArray x2_BadArray x3_BadArray x5_BadArray : Option Value} {xnm_BadDeed xq_BadDeed : Str} {xN_BadDeed : Addr} {xbs_BadDeed xbm_BadDeed xsub_BadDeed : List Value} {xsn_BadDeed : List Str} {xab_BadDeed : Bool} {xcol_BadDeed : Option Bool} {xdd_BadDeed : Option Addr} {x0_BadDeed x1_BadDeed x2_BadDeed x3_BadDeed x5_BadDeed : Option Value} {xnm_BadLog xq_BadLog : Str} {xN_BadLog : Addr} {xbs_BadLog xbm_BadLog xsub_BadLog : List Value} {xsn_BadLog : List Str} {xab_BadLog : Bool} {xcol_BadLog : Option Bool} {xdd_BadLog : Option Addr} {x0_BadLog x1_BadLog x2_BadLog x3_BadLog x5_BadLog : Option Value} {xnm_NoTail xq_NoTail : Str} {xN_NoTail : Addr} {xbs_NoTail xbm_NoTail xsub_NoTail : List Value} {xsn_NoTail : List Str} {xab_NoTail : Bool} {xcol_NoTail : Option Bool} {xdd_NoTail : Option Addr} {x0_NoTail x1_NoTail x2_NoTail x3_NoTail x5_NoTail : Option Value} {xnm_RunOver xq_RunOver : Str} {xN_RunOver : Addr} {xbs_RunOver xbm_RunOver xsub_RunOver : List Value} {xsn_RunOver : List Str} {xab_RunOver : Bool} {xcol_RunOver : Option Bool} {xdd_RunOver : Option Addr} {x0_RunOver x1_RunOver x2_RunOver x3_RunOver x5_RunOver : Option Value} {xnm_NoRoom xq_NoRoom : Str} {xN_NoRoom : Addr} {xbs_NoRoom xbm_NoRoom xsub_NoRoom : List Value} {xsn_NoRoom : List Str} {xab_NoRoom : Bool} {xcol_NoRoom : Option Bool} {xdd_NoRoom : Option Addr} {x0_NoRoom x1_NoRoom x2_NoRoom x3_NoRoom x5_NoRoom : Option Value} {xnm_BadCommand xq_BadCommand : Str} {xN_BadCommand : Addr} {xbs_BadCommand xbm_BadCommand xsub_BadCommand : List Value} {xsn_BadCommand : List Str} {xab_BadCommand : Bool} {xcol_BadCommand : Option Bool} {xdd_BadCommand : Option Addr} {x0_BadCommand x1_BadCommand x2_BadCommand x3_BadCommand x5_BadCommand : Option Value} {xnm_BadText xq_BadText : Str} {xN_BadText : Addr} {xbs_BadText xbm_BadText xsub_BadText : List Value} {xsn_BadText : List Str} {xab_BadText : Bool} {xcol_BadText : Option Bool} {xdd_BadText : Option Addr} {x0_BadText x1_BadText x2_BadText x3_BadText x5_BadText : Option Value} {xnm_NoStep xq_NoStep : Str} {xN_NoStep : Addr} {xbs_NoStep xbm_NoStep xsub_NoStep : List Value} {xsn_NoStep : List Str} {xab_NoStep : Bool} {xcol_NoStep : Option Bool} {xdd_NoStep : Option Addr} {x0_NoStep x1_NoStep x2_NoStep x3_NoStep x5_NoStep : Option Value} {xnm_TooMany xq_TooMany : Str} {xN_TooMany : Addr} {xbs_TooMany xbm_TooMany xsub_TooMany : List Value} {xsn_TooMany : List Str} {xab_TooMany : Bool} {xcol_TooMany : Option Bool} {xdd_TooMany : Option Addr} {x0_TooMany x1_TooMany x2_TooMany x3_TooMany x5_TooMany : Option Value} {xnm_Nothing xq_Nothing : Str} {xN_Nothing : Addr} {xbs_Nothing xbm_Nothing xsub_Nothing : List Value} {xsn_Nothing : List Str} {xab_Nothing : Bool} {xcol_Nothing : Option Bool} {xdd_Nothing : Option Addr} {x0_Nothing x1_Nothing x2_Nothing x3_Nothing x5_Nothing : Option Value} {xnm_HeadError xq_HeadError : Str} {xN_HeadError : Addr} {xbs_HeadError xbm_HeadError xsub_HeadError : List Value} {xsn_HeadError : List Str} {xab_HeadError : Bool} {xcol_HeadError : Option Bool} {xdd_HeadError : Option Addr} {x0_HeadError x1_HeadError x2_HeadError x3_HeadError x5_HeadError : Option Value} {xcc_BadName xecl_BadName : Value} {xcdd_BadName xecd_BadName : Option Addr} {xvs_BadName : Array Value} {xcs_BadName xecs_BadName : Array (Option Value)} {xfile_BadName : Str} {xtf_BadName : Tok} {xcc_BadLetter xecl_BadLetter : Value} {xcdd_BadLetter xecd_BadLetter : Option Addr} {xvs_BadLetter : Array Value} {xcs_BadLetter xecs_BadLetter : Array (Option Value)} {xfile_BadLetter : Str} {xtf_BadLetter : Tok} {xcc_BadAnswer xecl_BadAnswer : Value} {xcdd_BadAnswer xecd_BadAnswer : Option Addr} {xvs_BadAnswer : Array Value} {xcs_BadAnswer xecs_BadAnswer : Array (Option Value)} {xfile_BadAnswer : Str} {xtf_BadAnswer : Tok} {xcc_BadNumber xecl_BadNumber : Value} {xcdd_BadNumber xecd_BadNumber : Option Addr} {xvs_BadNumber : Array Value} {xcs_BadNumber xecs_BadNumber : Array (Option Value)} {xfile_BadNumber : Str} {xtf_BadNumber : Tok} {xcc_BadWord xecl_BadWord : Value} {xcdd_BadWord xecd_BadWord : Option Addr} {xvs_BadWord : Array Value} {xcs_BadWord xecs_BadWord : Array (Option Value)} {xfile_BadWord : Str} {xtf_BadWord : Tok} {xcc_NoState xecl_NoState : Value} {xcdd_NoState xecd_NoState : Option Addr} {xvs_NoState : Array Value} {xcs_NoState xecs_NoState : Array (Option Value)} {xfile_NoState : Str} {xtf_NoState : Tok} {xcc_NoCell xecl_NoCell : Value} {xcdd_NoCell xecd_NoCell : Option Addr} {xvs_NoCell : Array Value} {xcs_NoCell xecs_NoCell : Array (Option Value)} {xfile_NoCell : Str} {xtf_NoCell : Tok} {xcc_NoText xecl_NoText : Value} {xcdd_NoText xecd_NoText : Option Addr} {xvs_NoText : Array Value} {xcs_NoText xecs_NoText : Array (Option Value)} {xfile_NoText : Str} {xtf_NoText : Tok} {xcc_Taken xecl_Taken : Value} {xcdd_Taken xecd_Taken : Option Addr} {xvs_Taken : Array Value} {xcs_Taken xecs_Taken : Array (Option Value)} {xfile_Taken : Str} {xtf_Taken : Tok} {xcc_BadConverter xecl_BadConverter : Value} {xcdd_BadConverter xecd_BadConverter : Option Addr} {xvs_BadConverter : Array Value} {xcs_BadConverter xecs_BadConverter : Array (Option Value)} {xfile_BadConverter : Str} {xtf_BadConverter : Tok} {xcc_BadGrowth xecl_BadGrowth : Value} {xcdd_BadGrowth xecd_BadGrowth : Option Addr} {xvs_BadGrowth : Array Value} {xcs_BadGrowth xecs_BadGrowth : Array (Option Value)} {xfile_BadGrowth : Str} {xtf_BadGrowth : Tok} {xcc_BadPaper xecl_BadPaper : Value} {xcdd_BadPaper xecd_BadPaper : Option Addr} {xvs_BadPaper : Array Value} {xcs_BadPaper xecs_BadPaper : Array (Option Value)} {xfile_BadPaper : Str} {xtf_BadPaper : Tok} {xcc_BadArray xecl_BadArray : Value} {xcdd_BadArray xecd_BadArray : Option Addr} {xvs_BadArray : Array Value} {xcs_BadArray xecs_BadArray : Array (Option Value)} {xfile_BadArray : Str} {xtf_BadArray : Tok} {xcc_BadDeed xecl_BadDeed : Value} {xcdd_BadDeed xecd_BadDeed : Option Addr} {xvs_BadDeed : Array Value} {xcs_BadDeed xecs_BadDeed : Array (Option Value)} {xfile_BadDeed : Str} {xtf_BadDeed : Tok} {xcc_BadLog xecl_BadLog : Value} {xcdd_BadLog xecd_BadLog : Option Addr} {xvs_BadLog : Array Value} {xcs_BadLog xecs_BadLog : Array (Option Value)} {xfile_BadLog : Str} {xtf_BadLog : Tok} {xcc_NoTail xecl_NoTail : Value} {xcdd_NoTail xecd_NoTail : Option Addr} {xvs_NoTail : Array Value} {xcs_NoTail xecs_NoTail : Array (Option Value)} {xfile_NoTail : Str} {xtf_NoTail : Tok} {xcc_RunOver xecl_RunOver : Value} {xcdd_RunOver xecd_RunOver : Option Addr} {xvs_RunOver : Array Value} {xcs_RunOver xecs_RunOver : Array (Option Value)} {xfile_RunOver : Str} {xtf_RunOver : Tok} {xcc_NoRoom xecl_NoRoom : Value} {xcdd_NoRoom xecd_NoRoom : Option Addr} {xvs_NoRoom : Array Value} {xcs_NoRoom xecs_NoRoom : Array (Option Value)} {xfile_NoRoom : Str} {xtf_NoRoom : Tok} {xcc_BadCommand xecl_BadCommand : Value} {xcdd_BadCommand xecd_BadCommand : Option Addr} {xvs_BadCommand : Array Value} {xcs_BadCommand xecs_BadCommand : Array (Option Value)} {xfile_BadCommand : Str} {xtf_BadCommand : Tok} {xcc_BadText xecl_BadText : Value} {xcdd_BadText xecd_BadText : Option Addr} {xvs_BadText : Array Value} {xcs_BadText xecs_BadText : Array (Option Value)} {xfile_BadText : Str} {xtf_BadText : Tok} {xcc_NoStep xecl_NoStep : Value} {xcdd_NoStep xecd_NoStep : Option Addr} {xvs_NoStep : Array Value} {xcs_NoStep xecs_NoStep : Array (Option Value)} {xfile_NoStep : Str} {xtf_NoStep : Tok} {xcc_TooMany xecl_TooMany : Value} {xcdd_TooMany xecd_TooMany : Option Addr} {xvs_TooMany : Array Value} {xcs_TooMany xecs_TooMany : Array (Option Value)} {xfile_TooMany : Str} {xtf_TooMany : Tok} {xcc_Nothing xecl_Nothing : Value} {xcdd_Nothing xecd_Nothing : Option Addr} {xvs_Nothing : Array Value} {xcs_Nothing xecs_Nothing : Array (Option Value)} {xfile_Nothing : Str} {xtf_Nothing : Tok}
    (l_BadName_init : K.lookup f_BadName_init = some ⟨oc_BadName_init, od_BadName_init, .func (PySem.W.ksFn "__init__" "BadName.__init__" (defArgs s_BadName_init) (defBody s_BadName_init) (defScope s_BadName_init) .none kV_BadName_init dc_BadName_init pm_BadName_init an_BadName_init (.ref cda_BadName) ct_BadName_init cel_BadName), sl_BadName_init⟩)
    (c_BadName_init : PySem.W.codeIn K (.ref cda_BadName) "BadName.__init__" = true)
    (l_BadLetter_init : K.lookup f_BadLetter_init = some ⟨oc_BadLetter_init, od_BadLetter_init, .func (PySem.W.ksFn "__init__" "BadLetter.__init__" (defArgs s_BadLetter_init) (defBody s_BadLetter_init) (defScope s_BadLetter_init) .none kV_BadLetter_init dc_BadLetter_init pm_BadLetter_init an_BadLetter_init (.ref cda_BadLetter) ct_BadLetter_init cel_BadLetter), sl_BadLetter_init⟩)
    (c_BadLetter_init : PySem.W.codeIn K (.ref cda_BadLetter) "BadLetter.__init__" = true)
    (l_BadAnswer_init : K.lookup f_BadAnswer_init = some ⟨oc_BadAnswer_init, od_BadAnswer_init, .func (PySem.W.ksFn "__init__" "BadAnswer.__init__" (defArgs s_BadAnswer_init) (defBody s_BadAnswer_init) (defScope s_BadAnswer_init) .none kV_BadAnswer_init dc_BadAnswer_init pm_BadAnswer_init an_BadAnswer_init (.ref cda_BadAnswer) ct_BadAnswer_init cel_BadAnswer), sl_BadAnswer_init⟩)
    (c_BadAnswer_init : PySem.W.codeIn K (.ref cda_BadAnswer) "BadAnswer.__init__" = true)
    (l_BadNumber_init : K.lookup f_BadNumber_init = some ⟨oc_BadNumber_init, od_BadNumber_init, .func (PySem.W.ksFn "__init__" "BadNumber.__init__" (defArgs s_BadNumber_init) (defBody s_BadNumber_init) (defScope s_BadNumber_init) .none kV_BadNumber_init dc_BadNumber_init pm_BadNumber_init an_BadNumber_init (.ref cda_BadNumber) ct_BadNumber_init cel_BadNumber), sl_BadNumber_init⟩)
    (c_BadNumber_init : PySem.W.codeIn K (.ref cda_BadNumber) "BadNumber.__init__" = true)
    (l_BadWord_init : K.lookup f_BadWord_init = some ⟨oc_BadWord_init, od_BadWord_init, .func (PySem.W.ksFn "__init__" "BadWord.__init__" (defArgs s_BadWord_init) (defBody s_BadWord_init) (defScope s_BadWord_init) .none kV_BadWord_init dc_BadWord_init pm_BadWord_init an_BadWord_init (.ref cda_BadWord) ct_BadWord_init cel_BadWord), sl_BadWord_init⟩)
    (c_BadWord_init : PySem.W.codeIn K (.ref cda_BadWord) "BadWord.__init__" = true)
    (l_NoState_init : K.lookup f_NoState_init = some ⟨oc_NoState_init, od_NoState_init, .func (PySem.W.ksFn "__init__" "NoState.__init__" (defArgs s_NoState_init) (defBody s_NoState_init) (defScope s_NoState_init) .none kV_NoState_init dc_NoState_init pm_NoState_init an_NoState_init (.ref cda_NoState) ct_NoState_init cel_NoState), sl_NoState_init⟩)
    (c_NoState_init : PySem.W.codeIn K (.ref cda_NoState) "NoState.__init__" = true)
    (l_NoCell_init : K.lookup f_NoCell_init = some ⟨oc_NoCell_init, od_NoCell_init, .func (PySem.W.ksFn "__init__" "NoCell.__init__" (defArgs s_NoCell_init) (defBody s_NoCell_init) (defScope s_NoCell_init) .none kV_NoCell_init dc_NoCell_init pm_NoCell_init an_NoCell_init (.ref cda_NoCell) ct_NoCell_init cel_NoCell), sl_NoCell_init⟩)
    (c_NoCell_init : PySem.W.codeIn K (.ref cda_NoCell) "NoCell.__init__" = true)
    (l_NoText_init : K.lookup f_NoText_init = some ⟨oc_NoText_init, od_NoText_init, .func (PySem.W.ksFn "__init__" "NoText.__init__" (defArgs s_NoText_init) (defBody s_NoText_init) (defScope s_NoText_init) .none kV_NoText_init dc_NoText_init pm_NoText_init an_NoText_init (.ref cda_NoText) ct_NoText_init cel_NoText), sl_NoText_init⟩)
    (c_NoText_init : PySem.W.codeIn K (.ref cda_NoText) "NoText.__init__" = true)
    (l_Taken_init : K.lookup f_Taken_init = some ⟨oc_Taken_init, od_Taken_init, .func (PySem.W.ksFn "__init__" "Taken.__init__" (defArgs s_Taken_init) (defBody s_Taken_init) (defScope s_Taken_init) .none kV_Taken_init dc_Taken_init pm_Taken_init an_Taken_init (.ref cda_Taken) ct_Taken_init cel_Taken), sl_Taken_init⟩)
    (c_Taken_init : PySem.W.codeIn K (.ref cda_Taken) "Taken.__init__" = true)
    (l_BadConverter_init : K.lookup f_BadConverter_init = some ⟨oc_BadConverter_init, od_BadConverter_init, .func (PySem.W.ksFn "__init__" "BadConverter.__init__" (defArgs s_BadConverter_init) (defBody s_BadConverter_init) (defScope s_BadConverter_init) .none kV_BadConverter_init dc_BadConverter_init pm_BadConverter_init an_BadConverter_init (.ref cda_BadConverter) ct_BadConverter_init cel_BadConverter), sl_BadConverter_init⟩)
    (c_BadConverter_init : PySem.W.codeIn K (.ref cda_BadConverter) "BadConverter.__init__" = true)
    (l_BadGrowth_init : K.lookup f_BadGrowth_init = some ⟨oc_BadGrowth_init, od_BadGrowth_init, .func (PySem.W.ksFn "__init__" "BadGrowth.__init__" (defArgs s_BadGrowth_init) (defBody s_BadGrowth_init) (defScope s_BadGrowth_init) .none kV_BadGrowth_init dc_BadGrowth_init pm_BadGrowth_init an_BadGrowth_init (.ref cda_BadGrowth) ct_BadGrowth_init cel_BadGrowth), sl_BadGrowth_init⟩)
    (c_BadGrowth_init : PySem.W.codeIn K (.ref cda_BadGrowth) "BadGrowth.__init__" = true)
    (l_BadPaper_init : K.lookup f_BadPaper_init = some ⟨oc_BadPaper_init, od_BadPaper_init, .func (PySem.W.ksFn "__init__" "BadPaper.__init__" (defArgs s_BadPaper_init) (defBody s_BadPaper_init) (defScope s_BadPaper_init) .none kV_BadPaper_init dc_BadPaper_init pm_BadPaper_init an_BadPaper_init (.ref cda_BadPaper) ct_BadPaper_init cel_BadPaper), sl_BadPaper_init⟩)
    (c_BadPaper_init : PySem.W.codeIn K (.ref cda_BadPaper) "BadPaper.__init__" = true)
    (l_BadArray_init : K.lookup f_BadArray_init = some ⟨oc_BadArray_init, od_BadArray_init, .func (PySem.W.ksFn "__init__" "BadArray.__init__" (defArgs s_BadArray_init) (defBody s_BadArray_init) (defScope s_BadArray_init) .none kV_BadArray_init dc_BadArray_init pm_BadArray_init an_BadArray_init (.ref cda_BadArray) ct_BadArray_init cel_BadArray), sl_BadArray_init⟩)
    (c_BadArray_init : PySem.W.codeIn K (.ref cda_BadArray) "BadArray.__init__" = true)
    (l_BadDeed_init : K.lookup f_BadDeed_init = some ⟨oc_BadDeed_init, od_BadDeed_init, .func (PySem.W.ksFn "__init__" "BadDeed.__init__" (defArgs s_BadDeed_init) (defBody s_BadDeed_init) (defScope s_BadDeed_init) .none kV_BadDeed_init dc_BadDeed_init pm_BadDeed_init an_BadDeed_init (.ref cda_BadDeed) ct_BadDeed_init cel_BadDeed), sl_BadDeed_init⟩)
    (c_BadDeed_init : PySem.W.codeIn K (.ref cda_BadDeed) "BadDeed.__init__" = true)
    (l_BadLog_init : K.lookup f_BadLog_init = some ⟨oc_BadLog_init, od_BadLog_init, .func (PySem.W.ksFn "__init__" "BadLog.__init__" (defArgs s_BadLog_init) (defBody s_BadLog_init) (defScope s_BadLog_init) .none kV_BadLog_init dc_BadLog_init pm_BadLog_init an_BadLog_init (.ref cda_BadLog) ct_BadLog_init cel_BadLog), sl_BadLog_init⟩)
    (c_BadLog_init : PySem.W.codeIn K (.ref cda_BadLog) "BadLog.__init__" = true)
    (l_NoTail_init : K.lookup f_NoTail_init = some ⟨oc_NoTail_init, od_NoTail_init, .func (PySem.W.ksFn "__init__" "NoTail.__init__" (defArgs s_NoTail_init) (defBody s_NoTail_init) (defScope s_NoTail_init) .none kV_NoTail_init dc_NoTail_init pm_NoTail_init an_NoTail_init (.ref cda_NoTail) ct_NoTail_init cel_NoTail), sl_NoTail_init⟩)
    (c_NoTail_init : PySem.W.codeIn K (.ref cda_NoTail) "NoTail.__init__" = true)
    (l_RunOver_init : K.lookup f_RunOver_init = some ⟨oc_RunOver_init, od_RunOver_init, .func (PySem.W.ksFn "__init__" "RunOver.__init__" (defArgs s_RunOver_init) (defBody s_RunOver_init) (defScope s_RunOver_init) .none kV_RunOver_init dc_RunOver_init pm_RunOver_init an_RunOver_init (.ref cda_RunOver) ct_RunOver_init cel_RunOver), sl_RunOver_init⟩)
    (c_RunOver_init : PySem.W.codeIn K (.ref cda_RunOver) "RunOver.__init__" = true)
    (l_NoRoom_init : K.lookup f_NoRoom_init = some ⟨oc_NoRoom_init, od_NoRoom_init, .func (PySem.W.ksFn "__init__" "NoRoom.__init__" (defArgs s_NoRoom_init) (defBody s_NoRoom_init) (defScope s_NoRoom_init) .none kV_NoRoom_init dc_NoRoom_init pm_NoRoom_init an_NoRoom_init (.ref cda_NoRoom) ct_NoRoom_init cel_NoRoom), sl_NoRoom_init⟩)
    (c_NoRoom_init : PySem.W.codeIn K (.ref cda_NoRoom) "NoRoom.__init__" = true)
    (l_BadCommand_init : K.lookup f_BadCommand_init = some ⟨oc_BadCommand_init, od_BadCommand_init, .func (PySem.W.ksFn "__init__" "BadCommand.__init__" (defArgs s_BadCommand_init) (defBody s_BadCommand_init) (defScope s_BadCommand_init) .none kV_BadCommand_init dc_BadCommand_init pm_BadCommand_init an_BadCommand_init (.ref cda_BadCommand) ct_BadCommand_init cel_BadCommand), sl_BadCommand_init⟩)
    (c_BadCommand_init : PySem.W.codeIn K (.ref cda_BadCommand) "BadCommand.__init__" = true)
    (l_BadText_init : K.lookup f_BadText_init = some ⟨oc_BadText_init, od_BadText_init, .func (PySem.W.ksFn "__init__" "BadText.__init__" (defArgs s_BadText_init) (defBody s_BadText_init) (defScope s_BadText_init) .none kV_BadText_init dc_BadText_init pm_BadText_init an_BadText_init (.ref cda_BadText) ct_BadText_init cel_BadText), sl_BadText_init⟩)
    (c_BadText_init : PySem.W.codeIn K (.ref cda_BadText) "BadText.__init__" = true)
    (l_NoStep_init : K.lookup f_NoStep_init = some ⟨oc_NoStep_init, od_NoStep_init, .func (PySem.W.ksFn "__init__" "NoStep.__init__" (defArgs s_NoStep_init) (defBody s_NoStep_init) (defScope s_NoStep_init) .none kV_NoStep_init dc_NoStep_init pm_NoStep_init an_NoStep_init (.ref cda_NoStep) ct_NoStep_init cel_NoStep), sl_NoStep_init⟩)
    (c_NoStep_init : PySem.W.codeIn K (.ref cda_NoStep) "NoStep.__init__" = true)
    (l_TooMany_init : K.lookup f_TooMany_init = some ⟨oc_TooMany_init, od_TooMany_init, .func (PySem.W.ksFn "__init__" "TooMany.__init__" (defArgs s_TooMany_init) (defBody s_TooMany_init) (defScope s_TooMany_init) .none kV_TooMany_init dc_TooMany_init pm_TooMany_init an_TooMany_init (.ref cda_TooMany) ct_TooMany_init cel_TooMany), sl_TooMany_init⟩)
    (c_TooMany_init : PySem.W.codeIn K (.ref cda_TooMany) "TooMany.__init__" = true)
    (l_Nothing_init : K.lookup f_Nothing_init = some ⟨oc_Nothing_init, od_Nothing_init, .func (PySem.W.ksFn "__init__" "Nothing.__init__" (defArgs s_Nothing_init) (defBody s_Nothing_init) (defScope s_Nothing_init) .none kV_Nothing_init dc_Nothing_init pm_Nothing_init an_Nothing_init (.ref cda_Nothing) ct_Nothing_init cel_Nothing), sl_Nothing_init⟩)
    (c_Nothing_init : PySem.W.codeIn K (.ref cda_Nothing) "Nothing.__init__" = true)
    (a_law_pen : PySem.W.nsIn K mainGlobals "_law_pen" = some (some (.ref f_law_pen)))
    (l_law_pen : K.lookup f_law_pen = some ⟨oc_law_pen, od_law_pen, .func (PySem.W.fnOf "_law_pen" "_law_pen" (defArgs s_law_pen) (defBody s_law_pen) (defScope s_law_pen) .none kV_law_pen dc_law_pen pm_law_pen an_law_pen cd_law_pen ct_law_pen), sl_law_pen⟩)
    (c_law_pen : PySem.W.codeIn K cd_law_pen "_law_pen" = true)
    (k_law_pen : PySem.W.keepIn K (.ref f_law_pen) = true)
    (a_law_draw : PySem.W.nsIn K mainGlobals "_law_draw" = some (some (.ref f_law_draw)))
    (l_law_draw : K.lookup f_law_draw = some ⟨oc_law_draw, od_law_draw, .func (PySem.W.fnOf "_law_draw" "_law_draw" (defArgs s_law_draw) (defBody s_law_draw) (defScope s_law_draw) .none kV_law_draw dc_law_draw pm_law_draw an_law_draw cd_law_draw ct_law_draw), sl_law_draw⟩)
    (c_law_draw : PySem.W.codeIn K cd_law_draw "_law_draw" = true)
    (k_law_draw : PySem.W.keepIn K (.ref f_law_draw) = true)
    (a_law_pick : PySem.W.nsIn K mainGlobals "_law_pick" = some (some (.ref f_law_pick)))
    (l_law_pick : K.lookup f_law_pick = some ⟨oc_law_pick, od_law_pick, .func (PySem.W.fnOf "_law_pick" "_law_pick" (defArgs s_law_pick) (defBody s_law_pick) (defScope s_law_pick) .none kV_law_pick dc_law_pick pm_law_pick an_law_pick cd_law_pick ct_law_pick), sl_law_pick⟩)
    (c_law_pick : PySem.W.codeIn K cd_law_pick "_law_pick" = true)
    (k_law_pick : PySem.W.keepIn K (.ref f_law_pick) = true)
    (a_law_made : PySem.W.nsIn K mainGlobals "_law_made" = some (some (.ref f_law_made)))
    (l_law_made : K.lookup f_law_made = some ⟨oc_law_made, od_law_made, .func (PySem.W.fnOf "_law_made" "_law_made" (defArgs s_law_made) (defBody s_law_made) (defScope s_law_made) .none kV_law_made dc_law_made pm_law_made an_law_made cd_law_made ct_law_made), sl_law_made⟩)
    (c_law_made : PySem.W.codeIn K cd_law_made "_law_made" = true)
    (k_law_made : PySem.W.keepIn K (.ref f_law_made) = true)
    (a_law_fields : PySem.W.nsIn K mainGlobals "_law_fields" = some (some (.ref f_law_fields)))
    (l_law_fields : K.lookup f_law_fields = some ⟨oc_law_fields, od_law_fields, .func (PySem.W.fnOf "_law_fields" "_law_fields" (defArgs s_law_fields) (defBody s_law_fields) (defScope s_law_fields) .none kV_law_fields dc_law_fields pm_law_fields an_law_fields cd_law_fields ct_law_fields), sl_law_fields⟩)
    (c_law_fields : PySem.W.codeIn K cd_law_fields "_law_fields" = true)
    (k_law_fields : PySem.W.keepIn K (.ref f_law_fields) = true)
    (a_law : PySem.W.nsIn K mainGlobals "law" = some (some (.ref f_law)))
    (l_law : K.lookup f_law = some ⟨oc_law, od_law, .func (PySem.W.fnOf "law" "law" (defArgs s_law) (defBody s_law) (defScope s_law) .none kV_law dc_law pm_law an_law cd_law ct_law), sl_law⟩)
    (c_law : PySem.W.codeIn K cd_law "law" = true)
    (k_law : PySem.W.keepIn K (.ref f_law) = true)
    (aC_BadName : PySem.W.nsIn K mainGlobals "BadName" = some (some (.ref c_BadName)))
    (xl_BadName : K.lookup c_BadName = some (excClassObj xnm_BadName xq_BadName c_BadName xN_BadName xbs_BadName xbm_BadName true xsn_BadName xsub_BadName xab_BadName xcol_BadName xdd_BadName x0_BadName x1_BadName x2_BadName x3_BadName x5_BadName "ValueError.__new__"))
    (xb_BadName : PySem.W.subIn K (.ref c_BadName) (.type "BaseException") = some true)
    (xty_BadName : PySem.W.typeIn K (.ref c_BadName) = some (.type "type"))
    (xhd_BadName : PySem.W.hasDictIn K c_BadName = true)
    (aC_BadLetter : PySem.W.nsIn K mainGlobals "BadLetter" = some (some (.ref c_BadLetter)))
    (xl_BadLetter : K.lookup c_BadLetter = some (excClassObj xnm_BadLetter xq_BadLetter c_BadLetter xN_BadLetter xbs_BadLetter xbm_BadLetter true xsn_BadLetter xsub_BadLetter xab_BadLetter xcol_BadLetter xdd_BadLetter x0_BadLetter x1_BadLetter x2_BadLetter x3_BadLetter x5_BadLetter "ValueError.__new__"))
    (xb_BadLetter : PySem.W.subIn K (.ref c_BadLetter) (.type "BaseException") = some true)
    (xty_BadLetter : PySem.W.typeIn K (.ref c_BadLetter) = some (.type "type"))
    (xhd_BadLetter : PySem.W.hasDictIn K c_BadLetter = true)
    (aC_BadAnswer : PySem.W.nsIn K mainGlobals "BadAnswer" = some (some (.ref c_BadAnswer)))
    (xl_BadAnswer : K.lookup c_BadAnswer = some (excClassObj xnm_BadAnswer xq_BadAnswer c_BadAnswer xN_BadAnswer xbs_BadAnswer xbm_BadAnswer true xsn_BadAnswer xsub_BadAnswer xab_BadAnswer xcol_BadAnswer xdd_BadAnswer x0_BadAnswer x1_BadAnswer x2_BadAnswer x3_BadAnswer x5_BadAnswer "ValueError.__new__"))
    (xb_BadAnswer : PySem.W.subIn K (.ref c_BadAnswer) (.type "BaseException") = some true)
    (xty_BadAnswer : PySem.W.typeIn K (.ref c_BadAnswer) = some (.type "type"))
    (xhd_BadAnswer : PySem.W.hasDictIn K c_BadAnswer = true)
    (aC_BadNumber : PySem.W.nsIn K mainGlobals "BadNumber" = some (some (.ref c_BadNumber)))
    (xl_BadNumber : K.lookup c_BadNumber = some (excClassObj xnm_BadNumber xq_BadNumber c_BadNumber xN_BadNumber xbs_BadNumber xbm_BadNumber true xsn_BadNumber xsub_BadNumber xab_BadNumber xcol_BadNumber xdd_BadNumber x0_BadNumber x1_BadNumber x2_BadNumber x3_BadNumber x5_BadNumber "ValueError.__new__"))
    (xb_BadNumber : PySem.W.subIn K (.ref c_BadNumber) (.type "BaseException") = some true)
    (xty_BadNumber : PySem.W.typeIn K (.ref c_BadNumber) = some (.type "type"))
    (xhd_BadNumber : PySem.W.hasDictIn K c_BadNumber = true)
    (aC_BadWord : PySem.W.nsIn K mainGlobals "BadWord" = some (some (.ref c_BadWord)))
    (xl_BadWord : K.lookup c_BadWord = some (excClassObj xnm_BadWord xq_BadWord c_BadWord xN_BadWord xbs_BadWord xbm_BadWord true xsn_BadWord xsub_BadWord xab_BadWord xcol_BadWord xdd_BadWord x0_BadWord x1_BadWord x2_BadWord x3_BadWord x5_BadWord "ValueError.__new__"))
    (xb_BadWord : PySem.W.subIn K (.ref c_BadWord) (.type "BaseException") = some true)
    (xty_BadWord : PySem.W.typeIn K (.ref c_BadWord) = some (.type "type"))
    (xhd_BadWord : PySem.W.hasDictIn K c_BadWord = true)
    (aC_NoState : PySem.W.nsIn K mainGlobals "NoState" = some (some (.ref c_NoState)))
    (xl_NoState : K.lookup c_NoState = some (excClassObj xnm_NoState xq_NoState c_NoState xN_NoState xbs_NoState xbm_NoState true xsn_NoState xsub_NoState xab_NoState xcol_NoState xdd_NoState x0_NoState x1_NoState x2_NoState x3_NoState x5_NoState "ValueError.__new__"))
    (xb_NoState : PySem.W.subIn K (.ref c_NoState) (.type "BaseException") = some true)
    (xty_NoState : PySem.W.typeIn K (.ref c_NoState) = some (.type "type"))
    (xhd_NoState : PySem.W.hasDictIn K c_NoState = true)
    (aC_NoCell : PySem.W.nsIn K mainGlobals "NoCell" = some (some (.ref c_NoCell)))
    (xl_NoCell : K.lookup c_NoCell = some (excClassObj xnm_NoCell xq_NoCell c_NoCell xN_NoCell xbs_NoCell xbm_NoCell true xsn_NoCell xsub_NoCell xab_NoCell xcol_NoCell xdd_NoCell x0_NoCell x1_NoCell x2_NoCell x3_NoCell x5_NoCell "ValueError.__new__"))
    (xb_NoCell : PySem.W.subIn K (.ref c_NoCell) (.type "BaseException") = some true)
    (xty_NoCell : PySem.W.typeIn K (.ref c_NoCell) = some (.type "type"))
    (xhd_NoCell : PySem.W.hasDictIn K c_NoCell = true)
    (aC_NoText : PySem.W.nsIn K mainGlobals "NoText" = some (some (.ref c_NoText)))
    (xl_NoText : K.lookup c_NoText = some (excClassObj xnm_NoText xq_NoText c_NoText xN_NoText xbs_NoText xbm_NoText true xsn_NoText xsub_NoText xab_NoText xcol_NoText xdd_NoText x0_NoText x1_NoText x2_NoText x3_NoText x5_NoText "ValueError.__new__"))
    (xb_NoText : PySem.W.subIn K (.ref c_NoText) (.type "BaseException") = some true)
    (xty_NoText : PySem.W.typeIn K (.ref c_NoText) = some (.type "type"))
    (xhd_NoText : PySem.W.hasDictIn K c_NoText = true)
    (aC_Taken : PySem.W.nsIn K mainGlobals "Taken" = some (some (.ref c_Taken)))
    (xl_Taken : K.lookup c_Taken = some (excClassObj xnm_Taken xq_Taken c_Taken xN_Taken xbs_Taken xbm_Taken true xsn_Taken xsub_Taken xab_Taken xcol_Taken xdd_Taken x0_Taken x1_Taken x2_Taken x3_Taken x5_Taken "ValueError.__new__"))
    (xb_Taken : PySem.W.subIn K (.ref c_Taken) (.type "BaseException") = some true)
    (xty_Taken : PySem.W.typeIn K (.ref c_Taken) = some (.type "type"))
    (xhd_Taken : PySem.W.hasDictIn K c_Taken = true)
    (aC_BadConverter : PySem.W.nsIn K mainGlobals "BadConverter" = some (some (.ref c_BadConverter)))
    (xl_BadConverter : K.lookup c_BadConverter = some (excClassObj xnm_BadConverter xq_BadConverter c_BadConverter xN_BadConverter xbs_BadConverter xbm_BadConverter true xsn_BadConverter xsub_BadConverter xab_BadConverter xcol_BadConverter xdd_BadConverter x0_BadConverter x1_BadConverter x2_BadConverter x3_BadConverter x5_BadConverter "ValueError.__new__"))
    (xb_BadConverter : PySem.W.subIn K (.ref c_BadConverter) (.type "BaseException") = some true)
    (xty_BadConverter : PySem.W.typeIn K (.ref c_BadConverter) = some (.type "type"))
    (xhd_BadConverter : PySem.W.hasDictIn K c_BadConverter = true)
    (aC_BadGrowth : PySem.W.nsIn K mainGlobals "BadGrowth" = some (some (.ref c_BadGrowth)))
    (xl_BadGrowth : K.lookup c_BadGrowth = some (excClassObj xnm_BadGrowth xq_BadGrowth c_BadGrowth xN_BadGrowth xbs_BadGrowth xbm_BadGrowth true xsn_BadGrowth xsub_BadGrowth xab_BadGrowth xcol_BadGrowth xdd_BadGrowth x0_BadGrowth x1_BadGrowth x2_BadGrowth x3_BadGrowth x5_BadGrowth "ValueError.__new__"))
    (xb_BadGrowth : PySem.W.subIn K (.ref c_BadGrowth) (.type "BaseException") = some true)
    (xty_BadGrowth : PySem.W.typeIn K (.ref c_BadGrowth) = some (.type "type"))
    (xhd_BadGrowth : PySem.W.hasDictIn K c_BadGrowth = true)
    (aC_BadPaper : PySem.W.nsIn K mainGlobals "BadPaper" = some (some (.ref c_BadPaper)))
    (xl_BadPaper : K.lookup c_BadPaper = some (excClassObj xnm_BadPaper xq_BadPaper c_BadPaper xN_BadPaper xbs_BadPaper xbm_BadPaper true xsn_BadPaper xsub_BadPaper xab_BadPaper xcol_BadPaper xdd_BadPaper x0_BadPaper x1_BadPaper x2_BadPaper x3_BadPaper x5_BadPaper "ValueError.__new__"))
    (xb_BadPaper : PySem.W.subIn K (.ref c_BadPaper) (.type "BaseException") = some true)
    (xty_BadPaper : PySem.W.typeIn K (.ref c_BadPaper) = some (.type "type"))
    (xhd_BadPaper : PySem.W.hasDictIn K c_BadPaper = true)
    (aC_BadArray : PySem.W.nsIn K mainGlobals "BadArray" = some (some (.ref c_BadArray)))
    (xl_BadArray : K.lookup c_BadArray = some (excClassObj xnm_BadArray xq_BadArray c_BadArray xN_BadArray xbs_BadArray xbm_BadArray true xsn_BadArray xsub_BadArray xab_BadArray xcol_BadArray xdd_BadArray x0_BadArray x1_BadArray x2_BadArray x3_BadArray x5_BadArray "ValueError.__new__"))
    (xb_BadArray : PySem.W.subIn K (.ref c_BadArray) (.type "BaseException") = some true)
    (xty_BadArray : PySem.W.typeIn K (.ref c_BadArray) = some (.type "type"))
    (xhd_BadArray : PySem.W.hasDictIn K c_BadArray = true)
    (aC_BadDeed : PySem.W.nsIn K mainGlobals "BadDeed" = some (some (.ref c_BadDeed)))
    (xl_BadDeed : K.lookup c_BadDeed = some (excClassObj xnm_BadDeed xq_BadDeed c_BadDeed xN_BadDeed xbs_BadDeed xbm_BadDeed true xsn_BadDeed xsub_BadDeed xab_BadDeed xcol_BadDeed xdd_BadDeed x0_BadDeed x1_BadDeed x2_BadDeed x3_BadDeed x5_BadDeed "ValueError.__new__"))
    (xb_BadDeed : PySem.W.subIn K (.ref c_BadDeed) (.type "BaseException") = some true)
    (xty_BadDeed : PySem.W.typeIn K (.ref c_BadDeed) = some (.type "type"))
    (xhd_BadDeed : PySem.W.hasDictIn K c_BadDeed = true)
    (aC_BadLog : PySem.W.nsIn K mainGlobals "BadLog" = some (some (.ref c_BadLog)))
    (xl_BadLog : K.lookup c_BadLog = some (excClassObj xnm_BadLog xq_BadLog c_BadLog xN_BadLog xbs_BadLog xbm_BadLog true xsn_BadLog xsub_BadLog xab_BadLog xcol_BadLog xdd_BadLog x0_BadLog x1_BadLog x2_BadLog x3_BadLog x5_BadLog "ValueError.__new__"))
    (xb_BadLog : PySem.W.subIn K (.ref c_BadLog) (.type "BaseException") = some true)
    (xty_BadLog : PySem.W.typeIn K (.ref c_BadLog) = some (.type "type"))
    (xhd_BadLog : PySem.W.hasDictIn K c_BadLog = true)
    (aC_NoTail : PySem.W.nsIn K mainGlobals "NoTail" = some (some (.ref c_NoTail)))
    (xl_NoTail : K.lookup c_NoTail = some (excClassObj xnm_NoTail xq_NoTail c_NoTail xN_NoTail xbs_NoTail xbm_NoTail true xsn_NoTail xsub_NoTail xab_NoTail xcol_NoTail xdd_NoTail x0_NoTail x1_NoTail x2_NoTail x3_NoTail x5_NoTail "ValueError.__new__"))
    (xb_NoTail : PySem.W.subIn K (.ref c_NoTail) (.type "BaseException") = some true)
    (xty_NoTail : PySem.W.typeIn K (.ref c_NoTail) = some (.type "type"))
    (xhd_NoTail : PySem.W.hasDictIn K c_NoTail = true)
    (aC_RunOver : PySem.W.nsIn K mainGlobals "RunOver" = some (some (.ref c_RunOver)))
    (xl_RunOver : K.lookup c_RunOver = some (excClassObj xnm_RunOver xq_RunOver c_RunOver xN_RunOver xbs_RunOver xbm_RunOver true xsn_RunOver xsub_RunOver xab_RunOver xcol_RunOver xdd_RunOver x0_RunOver x1_RunOver x2_RunOver x3_RunOver x5_RunOver "ValueError.__new__"))
    (xb_RunOver : PySem.W.subIn K (.ref c_RunOver) (.type "BaseException") = some true)
    (xty_RunOver : PySem.W.typeIn K (.ref c_RunOver) = some (.type "type"))
    (xhd_RunOver : PySem.W.hasDictIn K c_RunOver = true)
    (aC_NoRoom : PySem.W.nsIn K mainGlobals "NoRoom" = some (some (.ref c_NoRoom)))
    (xl_NoRoom : K.lookup c_NoRoom = some (excClassObj xnm_NoRoom xq_NoRoom c_NoRoom xN_NoRoom xbs_NoRoom xbm_NoRoom true xsn_NoRoom xsub_NoRoom xab_NoRoom xcol_NoRoom xdd_NoRoom x0_NoRoom x1_NoRoom x2_NoRoom x3_NoRoom x5_NoRoom "ValueError.__new__"))
    (xb_NoRoom : PySem.W.subIn K (.ref c_NoRoom) (.type "BaseException") = some true)
    (xty_NoRoom : PySem.W.typeIn K (.ref c_NoRoom) = some (.type "type"))
    (xhd_NoRoom : PySem.W.hasDictIn K c_NoRoom = true)
    (aC_BadCommand : PySem.W.nsIn K mainGlobals "BadCommand" = some (some (.ref c_BadCommand)))
    (xl_BadCommand : K.lookup c_BadCommand = some (excClassObj xnm_BadCommand xq_BadCommand c_BadCommand xN_BadCommand xbs_BadCommand xbm_BadCommand true xsn_BadCommand xsub_BadCommand xab_BadCommand xcol_BadCommand xdd_BadCommand x0_BadCommand x1_BadCommand x2_BadCommand x3_BadCommand x5_BadCommand "ValueError.__new__"))
    (xb_BadCommand : PySem.W.subIn K (.ref c_BadCommand) (.type "BaseException") = some true)
    (xty_BadCommand : PySem.W.typeIn K (.ref c_BadCommand) = some (.type "type"))
    (xhd_BadCommand : PySem.W.hasDictIn K c_BadCommand = true)
    (aC_BadText : PySem.W.nsIn K mainGlobals "BadText" = some (some (.ref c_BadText)))
    (xl_BadText : K.lookup c_BadText = some (excClassObj xnm_BadText xq_BadText c_BadText xN_BadText xbs_BadText xbm_BadText true xsn_BadText xsub_BadText xab_BadText xcol_BadText xdd_BadText x0_BadText x1_BadText x2_BadText x3_BadText x5_BadText "ValueError.__new__"))
    (xb_BadText : PySem.W.subIn K (.ref c_BadText) (.type "BaseException") = some true)
    (xty_BadText : PySem.W.typeIn K (.ref c_BadText) = some (.type "type"))
    (xhd_BadText : PySem.W.hasDictIn K c_BadText = true)
    (aC_NoStep : PySem.W.nsIn K mainGlobals "NoStep" = some (some (.ref c_NoStep)))
    (xl_NoStep : K.lookup c_NoStep = some (excClassObj xnm_NoStep xq_NoStep c_NoStep xN_NoStep xbs_NoStep xbm_NoStep true xsn_NoStep xsub_NoStep xab_NoStep xcol_NoStep xdd_NoStep x0_NoStep x1_NoStep x2_NoStep x3_NoStep x5_NoStep "ValueError.__new__"))
    (xb_NoStep : PySem.W.subIn K (.ref c_NoStep) (.type "BaseException") = some true)
    (xty_NoStep : PySem.W.typeIn K (.ref c_NoStep) = some (.type "type"))
    (xhd_NoStep : PySem.W.hasDictIn K c_NoStep = true)
    (aC_TooMany : PySem.W.nsIn K mainGlobals "TooMany" = some (some (.ref c_TooMany)))
    (xl_TooMany : K.lookup c_TooMany = some (excClassObj xnm_TooMany xq_TooMany c_TooMany xN_TooMany xbs_TooMany xbm_TooMany true xsn_TooMany xsub_TooMany xab_TooMany xcol_TooMany xdd_TooMany x0_TooMany x1_TooMany x2_TooMany x3_TooMany x5_TooMany "ValueError.__new__"))
    (xb_TooMany : PySem.W.subIn K (.ref c_TooMany) (.type "BaseException") = some true)
    (xty_TooMany : PySem.W.typeIn K (.ref c_TooMany) = some (.type "type"))
    (xhd_TooMany : PySem.W.hasDictIn K c_TooMany = true)
    (aC_Nothing : PySem.W.nsIn K mainGlobals "Nothing" = some (some (.ref c_Nothing)))
    (xl_Nothing : K.lookup c_Nothing = some (excClassObj xnm_Nothing xq_Nothing c_Nothing xN_Nothing xbs_Nothing xbm_Nothing true xsn_Nothing xsub_Nothing xab_Nothing xcol_Nothing xdd_Nothing x0_Nothing x1_Nothing x2_Nothing x3_Nothing x5_Nothing "ValueError.__new__"))
    (xb_Nothing : PySem.W.subIn K (.ref c_Nothing) (.type "BaseException") = some true)
    (xty_Nothing : PySem.W.typeIn K (.ref c_Nothing) = some (.type "type"))
    (xhd_Nothing : PySem.W.hasDictIn K c_Nothing = true)
    (aC_HeadError : PySem.W.nsIn K mainGlobals "HeadError" = some (some (.ref c_HeadError)))
    (xl_HeadError : K.lookup c_HeadError = some (excClassObj xnm_HeadError xq_HeadError c_HeadError xN_HeadError xbs_HeadError xbm_HeadError true xsn_HeadError xsub_HeadError xab_HeadError xcol_HeadError xdd_HeadError x0_HeadError x1_HeadError x2_HeadError x3_HeadError x5_HeadError "ValueError.__new__"))
    (xty_HeadError : PySem.W.typeIn K (.ref c_HeadError) = some (.type "type"))
    (xfi : PySem.W.findIn K (.ref c_HeadError) "__init__" = some (some (.builtin "ValueError.__init__")))
    (xopq : PySem.W.nsIn K cStatics "thirdparty.any" = some none)
    (de_top : (l.prog.main.scope.names.lookup ("super" : Str)).isSome = false)
    (zsup : PySem.W.nsIn K mainGlobals "super" = some none)
    (xhn : PySem.W.specialIn K (.builtin "object.__class__") "__get__" = some (some (.builtin "getset_descriptor.__get__")))
    (xht : PySem.W.takesIn K (.builtin "object.__class__") = some true)
    (rf_xve_BadName : PySem.HandSPX.refsVE xbm_BadName = true)
    (rf_xbm_BadName : xbm_BadName = .ref c_HeadError :: xbm_HeadError)
    (xsa_BadName : PySem.W.findIn K (.ref c_BadName) "__setattr__" = some (some (.builtin "object.__setattr__")))
    (xkp_BadName : PySem.W.keepIn K (.ref c_BadName) = true)
    (xcd_BadName : K.lookup cda_BadName = some ⟨xcc_BadName, xcdd_BadName, .fields xvs_BadName, xcs_BadName⟩)
    (rf_xfl_BadName : xvs_BadName[2]? = some (.str xfile_BadName xtf_BadName))
    (de_xfe_BadName : ((l.prog.main.file : Str) == xfile_BadName) = true)
    (xce_BadName : K.lookup cel_BadName = some ⟨xecl_BadName, xecd_BadName, .cell (some (.ref c_BadName)), xecs_BadName⟩)
    (xm_BadName : PySem.W.mroIn K c_BadName (.ref c_BadName) = some true)
    (xv_BadName : PySem.W.subIn K (.ref c_BadName) (.type "ValueError") = some true)
    (xi_BadName : PySem.W.findIn K (.ref c_BadName) "__init__" = some (some (.ref f_BadName_init)))
    (xt_BadName : PySem.W.typeIn K (.ref f_BadName_init) = some (.type "function"))
    (xga_BadName : PySem.W.findIn K (.ref c_BadName) "__getattribute__" = some (some (.builtin "BaseException.__getattribute__")))
    (xgg_BadName : PySem.W.findIn K (.ref c_BadName) "__getattr__" = some none)
    (xha_BadName : PySem.W.findIn K (.ref c_BadName) "__class__" = some (some (.builtin "object.__class__")))
    (xmo_BadName : PySem.W.mroIn K c_BadName (.type "object") = some true)
    (xn_BadName_value : PySem.W.findIn K (.ref c_BadName) "value" = some none)
    (rf_xve_BadLetter : PySem.HandSPX.refsVE xbm_BadLetter = true)
    (rf_xbm_BadLetter : xbm_BadLetter = .ref c_HeadError :: xbm_HeadError)
    (xsa_BadLetter : PySem.W.findIn K (.ref c_BadLetter) "__setattr__" = some (some (.builtin "object.__setattr__")))
    (xkp_BadLetter : PySem.W.keepIn K (.ref c_BadLetter) = true)
    (xcd_BadLetter : K.lookup cda_BadLetter = some ⟨xcc_BadLetter, xcdd_BadLetter, .fields xvs_BadLetter, xcs_BadLetter⟩)
    (rf_xfl_BadLetter : xvs_BadLetter[2]? = some (.str xfile_BadLetter xtf_BadLetter))
    (de_xfe_BadLetter : ((l.prog.main.file : Str) == xfile_BadLetter) = true)
    (xce_BadLetter : K.lookup cel_BadLetter = some ⟨xecl_BadLetter, xecd_BadLetter, .cell (some (.ref c_BadLetter)), xecs_BadLetter⟩)
    (xm_BadLetter : PySem.W.mroIn K c_BadLetter (.ref c_BadLetter) = some true)
    (xv_BadLetter : PySem.W.subIn K (.ref c_BadLetter) (.type "ValueError") = some true)
    (xi_BadLetter : PySem.W.findIn K (.ref c_BadLetter) "__init__" = some (some (.ref f_BadLetter_init)))
    (xt_BadLetter : PySem.W.typeIn K (.ref f_BadLetter_init) = some (.type "function"))
    (xga_BadLetter : PySem.W.findIn K (.ref c_BadLetter) "__getattribute__" = some (some (.builtin "BaseException.__getattribute__")))
    (xgg_BadLetter : PySem.W.findIn K (.ref c_BadLetter) "__getattr__" = some none)
    (xha_BadLetter : PySem.W.findIn K (.ref c_BadLetter) "__class__" = some (some (.builtin "object.__class__")))
    (xmo_BadLetter : PySem.W.mroIn K c_BadLetter (.type "object") = some true)
    (xn_BadLetter_value : PySem.W.findIn K (.ref c_BadLetter) "value" = some none)
    (rf_xve_BadAnswer : PySem.HandSPX.refsVE xbm_BadAnswer = true)
    (rf_xbm_BadAnswer : xbm_BadAnswer = .ref c_HeadError :: xbm_HeadError)
    (xsa_BadAnswer : PySem.W.findIn K (.ref c_BadAnswer) "__setattr__" = some (some (.builtin "object.__setattr__")))
    (xkp_BadAnswer : PySem.W.keepIn K (.ref c_BadAnswer) = true)
    (xcd_BadAnswer : K.lookup cda_BadAnswer = some ⟨xcc_BadAnswer, xcdd_BadAnswer, .fields xvs_BadAnswer, xcs_BadAnswer⟩)
    (rf_xfl_BadAnswer : xvs_BadAnswer[2]? = some (.str xfile_BadAnswer xtf_BadAnswer))
    (de_xfe_BadAnswer : ((l.prog.main.file : Str) == xfile_BadAnswer) = true)
    (xce_BadAnswer : K.lookup cel_BadAnswer = some ⟨xecl_BadAnswer, xecd_BadAnswer, .cell (some (.ref c_BadAnswer)), xecs_BadAnswer⟩)
    (xm_BadAnswer : PySem.W.mroIn K c_BadAnswer (.ref c_BadAnswer) = some true)
    (xv_BadAnswer : PySem.W.subIn K (.ref c_BadAnswer) (.type "ValueError") = some true)
    (xi_BadAnswer : PySem.W.findIn K (.ref c_BadAnswer) "__init__" = some (some (.ref f_BadAnswer_init)))
    (xt_BadAnswer : PySem.W.typeIn K (.ref f_BadAnswer_init) = some (.type "function"))
    (xga_BadAnswer : PySem.W.findIn K (.ref c_BadAnswer) "__getattribute__" = some (some (.builtin "BaseException.__getattribute__")))
    (xgg_BadAnswer : PySem.W.findIn K (.ref c_BadAnswer) "__getattr__" = some none)
    (xha_BadAnswer : PySem.W.findIn K (.ref c_BadAnswer) "__class__" = some (some (.builtin "object.__class__")))
    (xmo_BadAnswer : PySem.W.mroIn K c_BadAnswer (.type "object") = some true)
    (xn_BadAnswer_value : PySem.W.findIn K (.ref c_BadAnswer) "value" = some none)
    (rf_xve_BadNumber : PySem.HandSPX.refsVE xbm_BadNumber = true)
    (rf_xbm_BadNumber : xbm_BadNumber = .ref c_HeadError :: xbm_HeadError)
    (xsa_BadNumber : PySem.W.findIn K (.ref c_BadNumber) "__setattr__" = some (some (.builtin "object.__setattr__")))
    (xkp_BadNumber : PySem.W.keepIn K (.ref c_BadNumber) = true)
    (xcd_BadNumber : K.lookup cda_BadNumber = some ⟨xcc_BadNumber, xcdd_BadNumber, .fields xvs_BadNumber, xcs_BadNumber⟩)
    (rf_xfl_BadNumber : xvs_BadNumber[2]? = some (.str xfile_BadNumber xtf_BadNumber))
    (de_xfe_BadNumber : ((l.prog.main.file : Str) == xfile_BadNumber) = true)
    (xce_BadNumber : K.lookup cel_BadNumber = some ⟨xecl_BadNumber, xecd_BadNumber, .cell (some (.ref c_BadNumber)), xecs_BadNumber⟩)
    (xm_BadNumber : PySem.W.mroIn K c_BadNumber (.ref c_BadNumber) = some true)
    (xv_BadNumber : PySem.W.subIn K (.ref c_BadNumber) (.type "ValueError") = some true)
    (xi_BadNumber : PySem.W.findIn K (.ref c_BadNumber) "__init__" = some (some (.ref f_BadNumber_init)))
    (xt_BadNumber : PySem.W.typeIn K (.ref f_BadNumber_init) = some (.type "function"))
    (xga_BadNumber : PySem.W.findIn K (.ref c_BadNumber) "__getattribute__" = some (some (.builtin "BaseException.__getattribute__")))
    (xgg_BadNumber : PySem.W.findIn K (.ref c_BadNumber) "__getattr__" = some none)
    (xha_BadNumber : PySem.W.findIn K (.ref c_BadNumber) "__class__" = some (some (.builtin "object.__class__")))
    (xmo_BadNumber : PySem.W.mroIn K c_BadNumber (.type "object") = some true)
    (xn_BadNumber_value : PySem.W.findIn K (.ref c_BadNumber) "value" = some none)
    (rf_xve_BadWord : PySem.HandSPX.refsVE xbm_BadWord = true)
    (rf_xbm_BadWord : xbm_BadWord = .ref c_HeadError :: xbm_HeadError)
    (xsa_BadWord : PySem.W.findIn K (.ref c_BadWord) "__setattr__" = some (some (.builtin "object.__setattr__")))
    (xkp_BadWord : PySem.W.keepIn K (.ref c_BadWord) = true)
    (xcd_BadWord : K.lookup cda_BadWord = some ⟨xcc_BadWord, xcdd_BadWord, .fields xvs_BadWord, xcs_BadWord⟩)
    (rf_xfl_BadWord : xvs_BadWord[2]? = some (.str xfile_BadWord xtf_BadWord))
    (de_xfe_BadWord : ((l.prog.main.file : Str) == xfile_BadWord) = true)
    (xce_BadWord : K.lookup cel_BadWord = some ⟨xecl_BadWord, xecd_BadWord, .cell (some (.ref c_BadWord)), xecs_BadWord⟩)
    (xm_BadWord : PySem.W.mroIn K c_BadWord (.ref c_BadWord) = some true)
    (xv_BadWord : PySem.W.subIn K (.ref c_BadWord) (.type "ValueError") = some true)
    (xi_BadWord : PySem.W.findIn K (.ref c_BadWord) "__init__" = some (some (.ref f_BadWord_init)))
    (xt_BadWord : PySem.W.typeIn K (.ref f_BadWord_init) = some (.type "function"))
    (xga_BadWord : PySem.W.findIn K (.ref c_BadWord) "__getattribute__" = some (some (.builtin "BaseException.__getattribute__")))
    (xgg_BadWord : PySem.W.findIn K (.ref c_BadWord) "__getattr__" = some none)
    (xha_BadWord : PySem.W.findIn K (.ref c_BadWord) "__class__" = some (some (.builtin "object.__class__")))
    (xmo_BadWord : PySem.W.mroIn K c_BadWord (.type "object") = some true)
    (xn_BadWord_value : PySem.W.findIn K (.ref c_BadWord) "value" = some none)
    (rf_xve_NoState : PySem.HandSPX.refsVE xbm_NoState = true)
    (rf_xbm_NoState : xbm_NoState = .ref c_HeadError :: xbm_HeadError)
    (xsa_NoState : PySem.W.findIn K (.ref c_NoState) "__setattr__" = some (some (.builtin "object.__setattr__")))
    (xkp_NoState : PySem.W.keepIn K (.ref c_NoState) = true)
    (xcd_NoState : K.lookup cda_NoState = some ⟨xcc_NoState, xcdd_NoState, .fields xvs_NoState, xcs_NoState⟩)
    (rf_xfl_NoState : xvs_NoState[2]? = some (.str xfile_NoState xtf_NoState))
    (de_xfe_NoState : ((l.prog.main.file : Str) == xfile_NoState) = true)
    (xce_NoState : K.lookup cel_NoState = some ⟨xecl_NoState, xecd_NoState, .cell (some (.ref c_NoState)), xecs_NoState⟩)
    (xm_NoState : PySem.W.mroIn K c_NoState (.ref c_NoState) = some true)
    (xv_NoState : PySem.W.subIn K (.ref c_NoState) (.type "ValueError") = some true)
    (xi_NoState : PySem.W.findIn K (.ref c_NoState) "__init__" = some (some (.ref f_NoState_init)))
    (xt_NoState : PySem.W.typeIn K (.ref f_NoState_init) = some (.type "function"))
    (xga_NoState : PySem.W.findIn K (.ref c_NoState) "__getattribute__" = some (some (.builtin "BaseException.__getattribute__")))
    (xgg_NoState : PySem.W.findIn K (.ref c_NoState) "__getattr__" = some none)
    (xha_NoState : PySem.W.findIn K (.ref c_NoState) "__class__" = some (some (.builtin "object.__class__")))
    (xmo_NoState : PySem.W.mroIn K c_NoState (.type "object") = some true)
    (xn_NoState_value : PySem.W.findIn K (.ref c_NoState) "value" = some none)
    (rf_xve_NoCell : PySem.HandSPX.refsVE xbm_NoCell = true)
    (rf_xbm_NoCell : xbm_NoCell = .ref c_HeadError :: xbm_HeadError)
    (xsa_NoCell : PySem.W.findIn K (.ref c_NoCell) "__setattr__" = some (some (.builtin "object.__setattr__")))
    (xkp_NoCell : PySem.W.keepIn K (.ref c_NoCell) = true)
    (xcd_NoCell : K.lookup cda_NoCell = some ⟨xcc_NoCell, xcdd_NoCell, .fields xvs_NoCell, xcs_NoCell⟩)
    (rf_xfl_NoCell : xvs_NoCell[2]? = some (.str xfile_NoCell xtf_NoCell))
    (de_xfe_NoCell : ((l.prog.main.file : Str) == xfile_NoCell) = true)
    (xce_NoCell : K.lookup cel_NoCell = some ⟨xecl_NoCell, xecd_NoCell, .cell (some (.ref c_NoCell)), xecs_NoCell⟩)
    (xm_NoCell : PySem.W.mroIn K c_NoCell (.ref c_NoCell) = some true)
    (xv_NoCell : PySem.W.subIn K (.ref c_NoCell) (.type "ValueError") = some true)
    (xi_NoCell : PySem.W.findIn K (.ref c_NoCell) "__init__" = some (some (.ref f_NoCell_init)))
    (xt_NoCell : PySem.W.typeIn K (.ref f_NoCell_init) = some (.type "function"))
    (xga_NoCell : PySem.W.findIn K (.ref c_NoCell) "__getattribute__" = some (some (.builtin "BaseException.__getattribute__")))
    (xgg_NoCell : PySem.W.findIn K (.ref c_NoCell) "__getattr__" = some none)
    (xha_NoCell : PySem.W.findIn K (.ref c_NoCell) "__class__" = some (some (.builtin "object.__class__")))
    (xmo_NoCell : PySem.W.mroIn K c_NoCell (.type "object") = some true)
    (xn_NoCell_value : PySem.W.findIn K (.ref c_NoCell) "value" = some none)
    (rf_xve_NoText : PySem.HandSPX.refsVE xbm_NoText = true)
    (rf_xbm_NoText : xbm_NoText = .ref c_HeadError :: xbm_HeadError)
    (xsa_NoText : PySem.W.findIn K (.ref c_NoText) "__setattr__" = some (some (.builtin "object.__setattr__")))
    (xkp_NoText : PySem.W.keepIn K (.ref c_NoText) = true)
    (xcd_NoText : K.lookup cda_NoText = some ⟨xcc_NoText, xcdd_NoText, .fields xvs_NoText, xcs_NoText⟩)
    (rf_xfl_NoText : xvs_NoText[2]? = some (.str xfile_NoText xtf_NoText))
    (de_xfe_NoText : ((l.prog.main.file : Str) == xfile_NoText) = true)
    (xce_NoText : K.lookup cel_NoText = some ⟨xecl_NoText, xecd_NoText, .cell (some (.ref c_NoText)), xecs_NoText⟩)
    (xm_NoText : PySem.W.mroIn K c_NoText (.ref c_NoText) = some true)
    (xv_NoText : PySem.W.subIn K (.ref c_NoText) (.type "ValueError") = some true)
    (xi_NoText : PySem.W.findIn K (.ref c_NoText) "__init__" = some (some (.ref f_NoText_init)))
    (xt_NoText : PySem.W.typeIn K (.ref f_NoText_init) = some (.type "function"))
    (xga_NoText : PySem.W.findIn K (.ref c_NoText) "__getattribute__" = some (some (.builtin "BaseException.__getattribute__")))
    (xgg_NoText : PySem.W.findIn K (.ref c_NoText) "__getattr__" = some none)
    (xha_NoText : PySem.W.findIn K (.ref c_NoText) "__class__" = some (some (.builtin "object.__class__")))
    (xmo_NoText : PySem.W.mroIn K c_NoText (.type "object") = some true)
    (xn_NoText_value : PySem.W.findIn K (.ref c_NoText) "value" = some none)
    (rf_xve_Taken : PySem.HandSPX.refsVE xbm_Taken = true)
    (rf_xbm_Taken : xbm_Taken = .ref c_HeadError :: xbm_HeadError)
    (xsa_Taken : PySem.W.findIn K (.ref c_Taken) "__setattr__" = some (some (.builtin "object.__setattr__")))
    (xkp_Taken : PySem.W.keepIn K (.ref c_Taken) = true)
    (xcd_Taken : K.lookup cda_Taken = some ⟨xcc_Taken, xcdd_Taken, .fields xvs_Taken, xcs_Taken⟩)
    (rf_xfl_Taken : xvs_Taken[2]? = some (.str xfile_Taken xtf_Taken))
    (de_xfe_Taken : ((l.prog.main.file : Str) == xfile_Taken) = true)
    (xce_Taken : K.lookup cel_Taken = some ⟨xecl_Taken, xecd_Taken, .cell (some (.ref c_Taken)), xecs_Taken⟩)
    (xm_Taken : PySem.W.mroIn K c_Taken (.ref c_Taken) = some true)
    (xv_Taken : PySem.W.subIn K (.ref c_Taken) (.type "ValueError") = some true)
    (xi_Taken : PySem.W.findIn K (.ref c_Taken) "__init__" = some (some (.ref f_Taken_init)))
    (xt_Taken : PySem.W.typeIn K (.ref f_Taken_init) = some (.type "function"))
    (xga_Taken : PySem.W.findIn K (.ref c_Taken) "__getattribute__" = some (some (.builtin "BaseException.__getattribute__")))
    (xgg_Taken : PySem.W.findIn K (.ref c_Taken) "__getattr__" = some none)
    (xha_Taken : PySem.W.findIn K (.ref c_Taken) "__class__" = some (some (.builtin "object.__class__")))
    (xmo_Taken : PySem.W.mroIn K c_Taken (.type "object") = some true)
    (xn_Taken_value : PySem.W.findIn K (.ref c_Taken) "value" = some none)
    (rf_xve_BadConverter : PySem.HandSPX.refsVE xbm_BadConverter = true)
    (rf_xbm_BadConverter : xbm_BadConverter = .ref c_HeadError :: xbm_HeadError)
    (xsa_BadConverter : PySem.W.findIn K (.ref c_BadConverter) "__setattr__" = some (some (.builtin "object.__setattr__")))
    (xkp_BadConverter : PySem.W.keepIn K (.ref c_BadConverter) = true)
    (xcd_BadConverter : K.lookup cda_BadConverter = some ⟨xcc_BadConverter, xcdd_BadConverter, .fields xvs_BadConverter, xcs_BadConverter⟩)
    (rf_xfl_BadConverter : xvs_BadConverter[2]? = some (.str xfile_BadConverter xtf_BadConverter))
    (de_xfe_BadConverter : ((l.prog.main.file : Str) == xfile_BadConverter) = true)
    (xce_BadConverter : K.lookup cel_BadConverter = some ⟨xecl_BadConverter, xecd_BadConverter, .cell (some (.ref c_BadConverter)), xecs_BadConverter⟩)
    (xm_BadConverter : PySem.W.mroIn K c_BadConverter (.ref c_BadConverter) = some true)
    (xv_BadConverter : PySem.W.subIn K (.ref c_BadConverter) (.type "ValueError") = some true)
    (xi_BadConverter : PySem.W.findIn K (.ref c_BadConverter) "__init__" = some (some (.ref f_BadConverter_init)))
    (xt_BadConverter : PySem.W.typeIn K (.ref f_BadConverter_init) = some (.type "function"))
    (xga_BadConverter : PySem.W.findIn K (.ref c_BadConverter) "__getattribute__" = some (some (.builtin "BaseException.__getattribute__")))
    (xgg_BadConverter : PySem.W.findIn K (.ref c_BadConverter) "__getattr__" = some none)
    (xha_BadConverter : PySem.W.findIn K (.ref c_BadConverter) "__class__" = some (some (.builtin "object.__class__")))
    (xmo_BadConverter : PySem.W.mroIn K c_BadConverter (.type "object") = some true)
    (xn_BadConverter_part : PySem.W.findIn K (.ref c_BadConverter) "part" = some none)
    (rf_xve_BadGrowth : PySem.HandSPX.refsVE xbm_BadGrowth = true)
    (rf_xbm_BadGrowth : xbm_BadGrowth = .ref c_HeadError :: xbm_HeadError)
    (xsa_BadGrowth : PySem.W.findIn K (.ref c_BadGrowth) "__setattr__" = some (some (.builtin "object.__setattr__")))
    (xkp_BadGrowth : PySem.W.keepIn K (.ref c_BadGrowth) = true)
    (xcd_BadGrowth : K.lookup cda_BadGrowth = some ⟨xcc_BadGrowth, xcdd_BadGrowth, .fields xvs_BadGrowth, xcs_BadGrowth⟩)
    (rf_xfl_BadGrowth : xvs_BadGrowth[2]? = some (.str xfile_BadGrowth xtf_BadGrowth))
    (de_xfe_BadGrowth : ((l.prog.main.file : Str) == xfile_BadGrowth) = true)
    (xce_BadGrowth : K.lookup cel_BadGrowth = some ⟨xecl_BadGrowth, xecd_BadGrowth, .cell (some (.ref c_BadGrowth)), xecs_BadGrowth⟩)
    (xm_BadGrowth : PySem.W.mroIn K c_BadGrowth (.ref c_BadGrowth) = some true)
    (xv_BadGrowth : PySem.W.subIn K (.ref c_BadGrowth) (.type "ValueError") = some true)
    (xi_BadGrowth : PySem.W.findIn K (.ref c_BadGrowth) "__init__" = some (some (.ref f_BadGrowth_init)))
    (xt_BadGrowth : PySem.W.typeIn K (.ref f_BadGrowth_init) = some (.type "function"))
    (xga_BadGrowth : PySem.W.findIn K (.ref c_BadGrowth) "__getattribute__" = some (some (.builtin "BaseException.__getattribute__")))
    (xgg_BadGrowth : PySem.W.findIn K (.ref c_BadGrowth) "__getattr__" = some none)
    (xha_BadGrowth : PySem.W.findIn K (.ref c_BadGrowth) "__class__" = some (some (.builtin "object.__class__")))
    (xmo_BadGrowth : PySem.W.mroIn K c_BadGrowth (.type "object") = some true)
    (xn_BadGrowth_part : PySem.W.findIn K (.ref c_BadGrowth) "part" = some none)
    (rf_xve_BadPaper : PySem.HandSPX.refsVE xbm_BadPaper = true)
    (rf_xbm_BadPaper : xbm_BadPaper = .ref c_HeadError :: xbm_HeadError)
    (xsa_BadPaper : PySem.W.findIn K (.ref c_BadPaper) "__setattr__" = some (some (.builtin "object.__setattr__")))
    (xkp_BadPaper : PySem.W.keepIn K (.ref c_BadPaper) = true)
    (xcd_BadPaper : K.lookup cda_BadPaper = some ⟨xcc_BadPaper, xcdd_BadPaper, .fields xvs_BadPaper, xcs_BadPaper⟩)
    (rf_xfl_BadPaper : xvs_BadPaper[2]? = some (.str xfile_BadPaper xtf_BadPaper))
    (de_xfe_BadPaper : ((l.prog.main.file : Str) == xfile_BadPaper) = true)
    (xce_BadPaper : K.lookup cel_BadPaper = some ⟨xecl_BadPaper, xecd_BadPaper, .cell (some (.ref c_BadPaper)), xecs_BadPaper⟩)
    (xm_BadPaper : PySem.W.mroIn K c_BadPaper (.ref c_BadPaper) = some true)
    (xv_BadPaper : PySem.W.subIn K (.ref c_BadPaper) (.type "ValueError") = some true)
    (xi_BadPaper : PySem.W.findIn K (.ref c_BadPaper) "__init__" = some (some (.ref f_BadPaper_init)))
    (xt_BadPaper : PySem.W.typeIn K (.ref f_BadPaper_init) = some (.type "function"))
    (xga_BadPaper : PySem.W.findIn K (.ref c_BadPaper) "__getattribute__" = some (some (.builtin "BaseException.__getattribute__")))
    (xgg_BadPaper : PySem.W.findIn K (.ref c_BadPaper) "__getattr__" = some none)
    (xha_BadPaper : PySem.W.findIn K (.ref c_BadPaper) "__class__" = some (some (.builtin "object.__class__")))
    (xmo_BadPaper : PySem.W.mroIn K c_BadPaper (.type "object") = some true)
    (xn_BadPaper_part : PySem.W.findIn K (.ref c_BadPaper) "part" = some none)
    (rf_xve_BadArray : PySem.HandSPX.refsVE xbm_BadArray = true)
    (rf_xbm_BadArray : xbm_BadArray = .ref c_HeadError :: xbm_HeadError)
    (xsa_BadArray : PySem.W.findIn K (.ref c_BadArray) "__setattr__" = some (some (.builtin "object.__setattr__")))
    (xkp_BadArray : PySem.W.keepIn K (.ref c_BadArray) = true)
    (xcd_BadArray : K.lookup cda_BadArray = some ⟨xcc_BadArray, xcdd_BadArray, .fields xvs_BadArray, xcs_BadArray⟩)
    (rf_xfl_BadArray : xvs_BadArray[2]? = some (.str xfile_BadArray xtf_BadArray))
    (de_xfe_BadArray : ((l.prog.main.file : Str) == xfile_BadArray) = true)
    (xce_BadArray : K.lookup cel_BadArray = some ⟨xecl_BadArray, xecd_BadArray, .cell (some (.ref c_BadArray)), xecs_BadArray⟩)
    (xm_BadArray : PySem.W.mroIn K c_BadArray (.ref c_BadArray) = some true)
    (xv_BadArray : PySem.W.subIn K (.ref c_BadArray) (.type "ValueError") = some true)
    (xi_BadArray : PySem.W.findIn K (.ref c_BadArray) "__init__" = some (some (.ref f_BadArray_init)))
    (xt_BadArray : PySem.W.typeIn K (.ref f_BadArray_init) = some (.type "function"))
    (xga_BadArray : PySem.W.findIn K (.ref c_BadArray) "__getattribute__" = some (some (.builtin "BaseException.__getattribute__")))
    (xgg_BadArray : PySem.W.findIn K (.ref c_BadArray) "__getattr__" = some none)
    (xha_BadArray : PySem.W.findIn K (.ref c_BadArray) "__class__" = some (some (.builtin "object.__class__")))
    (xmo_BadArray : PySem.W.mroIn K c_BadArray (.type "object") = some true)
    (xn_BadArray_part : PySem.W.findIn K (.ref c_BadArray) "part" = some none)
    (rf_xve_BadDeed : PySem.HandSPX.refsVE xbm_BadDeed = true)
    (rf_xbm_BadDeed : xbm_BadDeed = .ref c_HeadError :: xbm_HeadError)
    (xsa_BadDeed : PySem.W.findIn K (.ref c_BadDeed) "__setattr__" = some (some (.builtin "object.__setattr__")))
    (xkp_BadDeed : PySem.W.keepIn K (.ref c_BadDeed) = true)
    (xcd_BadDeed : K.lookup cda_BadDeed = some ⟨xcc_BadDeed, xcdd_BadDeed, .fields xvs_BadDeed, xcs_BadDeed⟩)
    (rf_xfl_BadDeed : xvs_BadDeed[2]? = some (.str xfile_BadDeed xtf_BadDeed))
    (de_xfe_BadDeed : ((l.prog.main.file : Str) == xfile_BadDeed) = true)
    (xce_BadDeed : K.lookup cel_BadDeed = some ⟨xecl_BadDeed, xecd_BadDeed, .cell (some (.ref c_BadDeed)), xecs_BadDeed⟩)
    (xm_BadDeed : PySem.W.mroIn K c_BadDeed (.ref c_BadDeed) = some true)
    (xv_BadDeed : PySem.W.subIn K (.ref c_BadDeed) (.type "ValueError") = some true)
    (xi_BadDeed : PySem.W.findIn K (.ref c_BadDeed) "__init__" = some (some (.ref f_BadDeed_init)))
    (xt_BadDeed : PySem.W.typeIn K (.ref f_BadDeed_init) = some (.type "function"))
    (xga_BadDeed : PySem.W.findIn K (.ref c_BadDeed) "__getattribute__" = some (some (.builtin "BaseException.__getattribute__")))
    (xgg_BadDeed : PySem.W.findIn K (.ref c_BadDeed) "__getattr__" = some none)
    (xha_BadDeed : PySem.W.findIn K (.ref c_BadDeed) "__class__" = some (some (.builtin "object.__class__")))
    (xmo_BadDeed : PySem.W.mroIn K c_BadDeed (.type "object") = some true)
    (xn_BadDeed_part : PySem.W.findIn K (.ref c_BadDeed) "part" = some none)
    (rf_xve_BadLog : PySem.HandSPX.refsVE xbm_BadLog = true)
    (rf_xbm_BadLog : xbm_BadLog = .ref c_HeadError :: xbm_HeadError)
    (xsa_BadLog : PySem.W.findIn K (.ref c_BadLog) "__setattr__" = some (some (.builtin "object.__setattr__")))
    (xkp_BadLog : PySem.W.keepIn K (.ref c_BadLog) = true)
    (xcd_BadLog : K.lookup cda_BadLog = some ⟨xcc_BadLog, xcdd_BadLog, .fields xvs_BadLog, xcs_BadLog⟩)
    (rf_xfl_BadLog : xvs_BadLog[2]? = some (.str xfile_BadLog xtf_BadLog))
    (de_xfe_BadLog : ((l.prog.main.file : Str) == xfile_BadLog) = true)
    (xce_BadLog : K.lookup cel_BadLog = some ⟨xecl_BadLog, xecd_BadLog, .cell (some (.ref c_BadLog)), xecs_BadLog⟩)
    (xm_BadLog : PySem.W.mroIn K c_BadLog (.ref c_BadLog) = some true)
    (xv_BadLog : PySem.W.subIn K (.ref c_BadLog) (.type "ValueError") = some true)
    (xi_BadLog : PySem.W.findIn K (.ref c_BadLog) "__init__" = some (some (.ref f_BadLog_init)))
    (xt_BadLog : PySem.W.typeIn K (.ref f_BadLog_init) = some (.type "function"))
    (xga_BadLog : PySem.W.findIn K (.ref c_BadLog) "__getattribute__" = some (some (.builtin "BaseException.__getattribute__")))
    (xgg_BadLog : PySem.W.findIn K (.ref c_BadLog) "__getattr__" = some none)
    (xha_BadLog : PySem.W.findIn K (.ref c_BadLog) "__class__" = some (some (.builtin "object.__class__")))
    (xmo_BadLog : PySem.W.mroIn K c_BadLog (.type "object") = some true)
    (xn_BadLog_at : PySem.W.findIn K (.ref c_BadLog) "at" = some none)
    (rf_xve_NoTail : PySem.HandSPX.refsVE xbm_NoTail = true)
    (rf_xbm_NoTail : xbm_NoTail = .ref c_HeadError :: xbm_HeadError)
    (xsa_NoTail : PySem.W.findIn K (.ref c_NoTail) "__setattr__" = some (some (.builtin "object.__setattr__")))
    (xkp_NoTail : PySem.W.keepIn K (.ref c_NoTail) = true)
    (xcd_NoTail : K.lookup cda_NoTail = some ⟨xcc_NoTail, xcdd_NoTail, .fields xvs_NoTail, xcs_NoTail⟩)
    (rf_xfl_NoTail : xvs_NoTail[2]? = some (.str xfile_NoTail xtf_NoTail))
    (de_xfe_NoTail : ((l.prog.main.file : Str) == xfile_NoTail) = true)
    (xce_NoTail : K.lookup cel_NoTail = some ⟨xecl_NoTail, xecd_NoTail, .cell (some (.ref c_NoTail)), xecs_NoTail⟩)
    (xm_NoTail : PySem.W.mroIn K c_NoTail (.ref c_NoTail) = some true)
    (xv_NoTail : PySem.W.subIn K (.ref c_NoTail) (.type "ValueError") = some true)
    (xi_NoTail : PySem.W.findIn K (.ref c_NoTail) "__init__" = some (some (.ref f_NoTail_init)))
    (xt_NoTail : PySem.W.typeIn K (.ref f_NoTail_init) = some (.type "function"))
    (xga_NoTail : PySem.W.findIn K (.ref c_NoTail) "__getattribute__" = some (some (.builtin "BaseException.__getattribute__")))
    (xgg_NoTail : PySem.W.findIn K (.ref c_NoTail) "__getattr__" = some none)
    (xha_NoTail : PySem.W.findIn K (.ref c_NoTail) "__class__" = some (some (.builtin "object.__class__")))
    (xmo_NoTail : PySem.W.mroIn K c_NoTail (.type "object") = some true)
    (xn_NoTail_state : PySem.W.findIn K (.ref c_NoTail) "state" = some none)
    (rf_xve_RunOver : PySem.HandSPX.refsVE xbm_RunOver = true)
    (rf_xbm_RunOver : xbm_RunOver = .ref c_HeadError :: xbm_HeadError)
    (xsa_RunOver : PySem.W.findIn K (.ref c_RunOver) "__setattr__" = some (some (.builtin "object.__setattr__")))
    (xkp_RunOver : PySem.W.keepIn K (.ref c_RunOver) = true)
    (xcd_RunOver : K.lookup cda_RunOver = some ⟨xcc_RunOver, xcdd_RunOver, .fields xvs_RunOver, xcs_RunOver⟩)
    (rf_xfl_RunOver : xvs_RunOver[2]? = some (.str xfile_RunOver xtf_RunOver))
    (de_xfe_RunOver : ((l.prog.main.file : Str) == xfile_RunOver) = true)
    (xce_RunOver : K.lookup cel_RunOver = some ⟨xecl_RunOver, xecd_RunOver, .cell (some (.ref c_RunOver)), xecs_RunOver⟩)
    (xm_RunOver : PySem.W.mroIn K c_RunOver (.ref c_RunOver) = some true)
    (xv_RunOver : PySem.W.subIn K (.ref c_RunOver) (.type "ValueError") = some true)
    (xi_RunOver : PySem.W.findIn K (.ref c_RunOver) "__init__" = some (some (.ref f_RunOver_init)))
    (xt_RunOver : PySem.W.typeIn K (.ref f_RunOver_init) = some (.type "function"))
    (xga_RunOver : PySem.W.findIn K (.ref c_RunOver) "__getattribute__" = some (some (.builtin "BaseException.__getattribute__")))
    (xgg_RunOver : PySem.W.findIn K (.ref c_RunOver) "__getattr__" = some none)
    (xha_RunOver : PySem.W.findIn K (.ref c_RunOver) "__class__" = some (some (.builtin "object.__class__")))
    (xmo_RunOver : PySem.W.mroIn K c_RunOver (.type "object") = some true)
    (xn_RunOver_cell : PySem.W.findIn K (.ref c_RunOver) "cell" = some none)
    (rf_xve_NoRoom : PySem.HandSPX.refsVE xbm_NoRoom = true)
    (rf_xbm_NoRoom : xbm_NoRoom = .ref c_HeadError :: xbm_HeadError)
    (xsa_NoRoom : PySem.W.findIn K (.ref c_NoRoom) "__setattr__" = some (some (.builtin "object.__setattr__")))
    (xkp_NoRoom : PySem.W.keepIn K (.ref c_NoRoom) = true)
    (xcd_NoRoom : K.lookup cda_NoRoom = some ⟨xcc_NoRoom, xcdd_NoRoom, .fields xvs_NoRoom, xcs_NoRoom⟩)
    (rf_xfl_NoRoom : xvs_NoRoom[2]? = some (.str xfile_NoRoom xtf_NoRoom))
    (de_xfe_NoRoom : ((l.prog.main.file : Str) == xfile_NoRoom) = true)
    (xce_NoRoom : K.lookup cel_NoRoom = some ⟨xecl_NoRoom, xecd_NoRoom, .cell (some (.ref c_NoRoom)), xecs_NoRoom⟩)
    (xm_NoRoom : PySem.W.mroIn K c_NoRoom (.ref c_NoRoom) = some true)
    (xv_NoRoom : PySem.W.subIn K (.ref c_NoRoom) (.type "ValueError") = some true)
    (xi_NoRoom : PySem.W.findIn K (.ref c_NoRoom) "__init__" = some (some (.ref f_NoRoom_init)))
    (xt_NoRoom : PySem.W.typeIn K (.ref f_NoRoom_init) = some (.type "function"))
    (xga_NoRoom : PySem.W.findIn K (.ref c_NoRoom) "__getattribute__" = some (some (.builtin "BaseException.__getattribute__")))
    (xgg_NoRoom : PySem.W.findIn K (.ref c_NoRoom) "__getattr__" = some none)
    (xha_NoRoom : PySem.W.findIn K (.ref c_NoRoom) "__class__" = some (some (.builtin "object.__class__")))
    (xmo_NoRoom : PySem.W.mroIn K c_NoRoom (.type "object") = some true)
    (xn_NoRoom_cell : PySem.W.findIn K (.ref c_NoRoom) "cell" = some none)
    (rf_xve_BadCommand : PySem.HandSPX.refsVE xbm_BadCommand = true)
    (rf_xbm_BadCommand : xbm_BadCommand = .ref c_HeadError :: xbm_HeadError)
    (xsa_BadCommand : PySem.W.findIn K (.ref c_BadCommand) "__setattr__" = some (some (.builtin "object.__setattr__")))
    (xkp_BadCommand : PySem.W.keepIn K (.ref c_BadCommand) = true)
    (xcd_BadCommand : K.lookup cda_BadCommand = some ⟨xcc_BadCommand, xcdd_BadCommand, .fields xvs_BadCommand, xcs_BadCommand⟩)
    (rf_xfl_BadCommand : xvs_BadCommand[2]? = some (.str xfile_BadCommand xtf_BadCommand))
    (de_xfe_BadCommand : ((l.prog.main.file : Str) == xfile_BadCommand) = true)
    (xce_BadCommand : K.lookup cel_BadCommand = some ⟨xecl_BadCommand, xecd_BadCommand, .cell (some (.ref c_BadCommand)), xecs_BadCommand⟩)
    (xm_BadCommand : PySem.W.mroIn K c_BadCommand (.ref c_BadCommand) = some true)
    (xv_BadCommand : PySem.W.subIn K (.ref c_BadCommand) (.type "ValueError") = some true)
    (xi_BadCommand : PySem.W.findIn K (.ref c_BadCommand) "__init__" = some (some (.ref f_BadCommand_init)))
    (xt_BadCommand : PySem.W.typeIn K (.ref f_BadCommand_init) = some (.type "function"))
    (xga_BadCommand : PySem.W.findIn K (.ref c_BadCommand) "__getattribute__" = some (some (.builtin "BaseException.__getattribute__")))
    (xgg_BadCommand : PySem.W.findIn K (.ref c_BadCommand) "__getattr__" = some none)
    (xha_BadCommand : PySem.W.findIn K (.ref c_BadCommand) "__class__" = some (some (.builtin "object.__class__")))
    (xmo_BadCommand : PySem.W.mroIn K c_BadCommand (.type "object") = some true)
    (xn_BadCommand_word : PySem.W.findIn K (.ref c_BadCommand) "word" = some none)
    (rf_xve_BadText : PySem.HandSPX.refsVE xbm_BadText = true)
    (rf_xbm_BadText : xbm_BadText = .ref c_HeadError :: xbm_HeadError)
    (xsa_BadText : PySem.W.findIn K (.ref c_BadText) "__setattr__" = some (some (.builtin "object.__setattr__")))
    (xkp_BadText : PySem.W.keepIn K (.ref c_BadText) = true)
    (xcd_BadText : K.lookup cda_BadText = some ⟨xcc_BadText, xcdd_BadText, .fields xvs_BadText, xcs_BadText⟩)
    (rf_xfl_BadText : xvs_BadText[2]? = some (.str xfile_BadText xtf_BadText))
    (de_xfe_BadText : ((l.prog.main.file : Str) == xfile_BadText) = true)
    (xce_BadText : K.lookup cel_BadText = some ⟨xecl_BadText, xecd_BadText, .cell (some (.ref c_BadText)), xecs_BadText⟩)
    (xm_BadText : PySem.W.mroIn K c_BadText (.ref c_BadText) = some true)
    (xv_BadText : PySem.W.subIn K (.ref c_BadText) (.type "ValueError") = some true)
    (xi_BadText : PySem.W.findIn K (.ref c_BadText) "__init__" = some (some (.ref f_BadText_init)))
    (xt_BadText : PySem.W.typeIn K (.ref f_BadText_init) = some (.type "function"))
    (xga_BadText : PySem.W.findIn K (.ref c_BadText) "__getattribute__" = some (some (.builtin "BaseException.__getattribute__")))
    (xgg_BadText : PySem.W.findIn K (.ref c_BadText) "__getattr__" = some none)
    (xha_BadText : PySem.W.findIn K (.ref c_BadText) "__class__" = some (some (.builtin "object.__class__")))
    (xmo_BadText : PySem.W.mroIn K c_BadText (.type "object") = some true)
    (xn_BadText_line : PySem.W.findIn K (.ref c_BadText) "line" = some none)
    (xn_BadText_word : PySem.W.findIn K (.ref c_BadText) "word" = some none)
    (rf_xve_NoStep : PySem.HandSPX.refsVE xbm_NoStep = true)
    (rf_xbm_NoStep : xbm_NoStep = .ref c_HeadError :: xbm_HeadError)
    (xsa_NoStep : PySem.W.findIn K (.ref c_NoStep) "__setattr__" = some (some (.builtin "object.__setattr__")))
    (xkp_NoStep : PySem.W.keepIn K (.ref c_NoStep) = true)
    (xcd_NoStep : K.lookup cda_NoStep = some ⟨xcc_NoStep, xcdd_NoStep, .fields xvs_NoStep, xcs_NoStep⟩)
    (rf_xfl_NoStep : xvs_NoStep[2]? = some (.str xfile_NoStep xtf_NoStep))
    (de_xfe_NoStep : ((l.prog.main.file : Str) == xfile_NoStep) = true)
    (xce_NoStep : K.lookup cel_NoStep = some ⟨xecl_NoStep, xecd_NoStep, .cell (some (.ref c_NoStep)), xecs_NoStep⟩)
    (xm_NoStep : PySem.W.mroIn K c_NoStep (.ref c_NoStep) = some true)
    (xv_NoStep : PySem.W.subIn K (.ref c_NoStep) (.type "ValueError") = some true)
    (xi_NoStep : PySem.W.findIn K (.ref c_NoStep) "__init__" = some (some (.ref f_NoStep_init)))
    (xt_NoStep : PySem.W.typeIn K (.ref f_NoStep_init) = some (.type "function"))
    (xga_NoStep : PySem.W.findIn K (.ref c_NoStep) "__getattribute__" = some (some (.builtin "BaseException.__getattribute__")))
    (xgg_NoStep : PySem.W.findIn K (.ref c_NoStep) "__getattr__" = some none)
    (xha_NoStep : PySem.W.findIn K (.ref c_NoStep) "__class__" = some (some (.builtin "object.__class__")))
    (xmo_NoStep : PySem.W.mroIn K c_NoStep (.type "object") = some true)
    (xn_NoStep_at : PySem.W.findIn K (.ref c_NoStep) "at" = some none)
    (xn_NoStep_state : PySem.W.findIn K (.ref c_NoStep) "state" = some none)
    (rf_xve_TooMany : PySem.HandSPX.refsVE xbm_TooMany = true)
    (rf_xbm_TooMany : xbm_TooMany = .ref c_HeadError :: xbm_HeadError)
    (xsa_TooMany : PySem.W.findIn K (.ref c_TooMany) "__setattr__" = some (some (.builtin "object.__setattr__")))
    (xkp_TooMany : PySem.W.keepIn K (.ref c_TooMany) = true)
    (xcd_TooMany : K.lookup cda_TooMany = some ⟨xcc_TooMany, xcdd_TooMany, .fields xvs_TooMany, xcs_TooMany⟩)
    (rf_xfl_TooMany : xvs_TooMany[2]? = some (.str xfile_TooMany xtf_TooMany))
    (de_xfe_TooMany : ((l.prog.main.file : Str) == xfile_TooMany) = true)
    (xce_TooMany : K.lookup cel_TooMany = some ⟨xecl_TooMany, xecd_TooMany, .cell (some (.ref c_TooMany)), xecs_TooMany⟩)
    (xm_TooMany : PySem.W.mroIn K c_TooMany (.ref c_TooMany) = some true)
    (xv_TooMany : PySem.W.subIn K (.ref c_TooMany) (.type "ValueError") = some true)
    (xi_TooMany : PySem.W.findIn K (.ref c_TooMany) "__init__" = some (some (.ref f_TooMany_init)))
    (xt_TooMany : PySem.W.typeIn K (.ref f_TooMany_init) = some (.type "function"))
    (xga_TooMany : PySem.W.findIn K (.ref c_TooMany) "__getattribute__" = some (some (.builtin "BaseException.__getattribute__")))
    (xgg_TooMany : PySem.W.findIn K (.ref c_TooMany) "__getattr__" = some none)
    (xha_TooMany : PySem.W.findIn K (.ref c_TooMany) "__class__" = some (some (.builtin "object.__class__")))
    (xmo_TooMany : PySem.W.mroIn K c_TooMany (.type "object") = some true)
    (xn_TooMany_what : PySem.W.findIn K (.ref c_TooMany) "what" = some none)
    (xn_TooMany_most : PySem.W.findIn K (.ref c_TooMany) "most" = some none)
    (rf_xve_Nothing : PySem.HandSPX.refsVE xbm_Nothing = true)
    (rf_xbm_Nothing : xbm_Nothing = .ref c_HeadError :: xbm_HeadError)
    (xsa_Nothing : PySem.W.findIn K (.ref c_Nothing) "__setattr__" = some (some (.builtin "object.__setattr__")))
    (xkp_Nothing : PySem.W.keepIn K (.ref c_Nothing) = true)
    (xcd_Nothing : K.lookup cda_Nothing = some ⟨xcc_Nothing, xcdd_Nothing, .fields xvs_Nothing, xcs_Nothing⟩)
    (rf_xfl_Nothing : xvs_Nothing[2]? = some (.str xfile_Nothing xtf_Nothing))
    (de_xfe_Nothing : ((l.prog.main.file : Str) == xfile_Nothing) = true)
    (xce_Nothing : K.lookup cel_Nothing = some ⟨xecl_Nothing, xecd_Nothing, .cell (some (.ref c_Nothing)), xecs_Nothing⟩)
    (xm_Nothing : PySem.W.mroIn K c_Nothing (.ref c_Nothing) = some true)
    (xv_Nothing : PySem.W.subIn K (.ref c_Nothing) (.type "ValueError") = some true)
    (xi_Nothing : PySem.W.findIn K (.ref c_Nothing) "__init__" = some (some (.ref f_Nothing_init)))
    (xt_Nothing : PySem.W.typeIn K (.ref f_Nothing_init) = some (.type "function"))
    (xga_Nothing : PySem.W.findIn K (.ref c_Nothing) "__getattribute__" = some (some (.builtin "BaseException.__getattribute__")))
    (xgg_Nothing : PySem.W.findIn K (.ref c_Nothing) "__getattr__" = some none)
    (xha_Nothing : PySem.W.findIn K (.ref c_Nothing) "__class__" = some (some (.builtin "object.__class__")))
    (xmo_Nothing : PySem.W.mroIn K c_Nothing (.type "object") = some true)
    (de_nd : [c_BadName, c_BadLetter, c_BadAnswer, c_BadNumber, c_BadWord, c_NoState, c_NoCell, c_NoText, c_Taken, c_BadConverter, c_BadGrowth, c_BadPaper, c_BadArray, c_BadDeed, c_BadLog, c_NoTail, c_RunOver, c_NoRoom, c_BadCommand, c_BadText, c_NoStep, c_TooMany, c_Nothing, c_HeadError].Nodup)
    (rf_xbmR : xbm_HeadError = [.type "ValueError", .type "Exception", .type "BaseException", .type "object"])
    (zb_ArithmeticError : PySem.W.nsIn K mainGlobals "ArithmeticError" = some none)
    (zb_LookupError : PySem.W.nsIn K mainGlobals "LookupError" = some none)
    (zb_TypeError : PySem.W.nsIn K mainGlobals "TypeError" = some none)
    (zb_ValueError : PySem.W.nsIn K mainGlobals "ValueError" = some none)
    (zb_abs : PySem.W.nsIn K mainGlobals "abs" = some none)
    (zb_int : PySem.W.nsIn K mainGlobals "int" = some none)
    (zb_isinstance : PySem.W.nsIn K mainGlobals "isinstance" = some none)
    (zb_len : PySem.W.nsIn K mainGlobals "len" = some none)
    (zb_list : PySem.W.nsIn K mainGlobals "list" = some none)
    (zb_range : PySem.W.nsIn K mainGlobals "range" = some none)
    (zb_repr : PySem.W.nsIn K mainGlobals "repr" = some none)
    : ∃ fd : FuncData, (∀ (s : Shared) (v : Value), BindsTo s fd ⟨[v], []⟩ [("_law_script", v)]) ∧ ∀ base : Heap, K.In base → base.Ns mainGlobals mg → FnG l.prog w K mg base CX0 5 fa fd ["_law_script"] (spLaw K) := by
  have e := hfa.symm.trans (PySem.W.mg_of X G a_law)
  cases e
  have F_law_pen := fun_mk (st := s_law_pen) l_law_pen c_law_pen k_law_pen
  have B_law_pen := F_law_pen.binds (ps := ["_law_script"]) fun _ _ _ _ _ _ us hl => match us, hl with | [_], _ => rfl
  have F_law_draw := fun_mk (st := s_law_draw) l_law_draw c_law_draw k_law_draw
  have B_law_draw := F_law_draw.binds (ps := ["_law_pen_here", "_law_many"]) fun _ _ _ _ _ _ us hl => match us, hl with | [_, _], _ => rfl
  have F_law_pick := fun_mk (st := s_law_pick) l_law_pick c_law_pick k_law_pick
  have B_law_pick := F_law_pick.binds (ps := ["_law_pen_here", "_law_some"]) fun _ _ _ _ _ _ us hl => match us, hl with | [_, _], _ => rfl
  have F_law_made := fun_mk (st := s_law_made) l_law_made c_law_made k_law_made
  have B_law_made := F_law_made.binds (ps := ["_law_x", "_law_y"]) fun _ _ _ _ _ _ us hl => match us, hl with | [_, _], _ => rfl
  have F_law_fields := fun_mk (st := s_law_fields) l_law_fields c_law_fields k_law_fields
  have B_law_fields := F_law_fields.binds (ps := ["_law_error"]) fun _ _ _ _ _ _ us hl => match us, hl with | [_], _ => rfl
  have F_law := fun_mk (st := s_law) l_law c_law k_law
  have B_BadName_init : Binds K (PySem.W.ksFn "__init__" "BadName.__init__" (defArgs s_BadName_init) (defBody s_BadName_init) (defScope s_BadName_init) .none kV_BadName_init dc_BadName_init pm_BadName_init an_BadName_init (.ref cda_BadName) ct_BadName_init cel_BadName) ["self", "value"] [] := Binds.all fun us hl => match us, hl with | [_, _], _ => rfl
  have B_BadLetter_init : Binds K (PySem.W.ksFn "__init__" "BadLetter.__init__" (defArgs s_BadLetter_init) (defBody s_BadLetter_init) (defScope s_BadLetter_init) .none kV_BadLetter_init dc_BadLetter_init pm_BadLetter_init an_BadLetter_init (.ref cda_BadLetter) ct_BadLetter_init cel_BadLetter) ["self", "value"] [] := Binds.all fun us hl => match us, hl with | [_, _], _ => rfl
  have B_BadAnswer_init : Binds K (PySem.W.ksFn "__init__" "BadAnswer.__init__" (defArgs s_BadAnswer_init) (defBody s_BadAnswer_init) (defScope s_BadAnswer_init) .none kV_BadAnswer_init dc_BadAnswer_init pm_BadAnswer_init an_BadAnswer_init (.ref cda_BadAnswer) ct_BadAnswer_init cel_BadAnswer) ["self", "value"] [] := Binds.all fun us hl => match us, hl with | [_, _], _ => rfl
  have B_BadNumber_init : Binds K (PySem.W.ksFn "__init__" "BadNumber.__init__" (defArgs s_BadNumber_init) (defBody s_BadNumber_init) (defScope s_BadNumber_init) .none kV_BadNumber_init dc_BadNumber_init pm_BadNumber_init an_BadNumber_init (.ref cda_BadNumber) ct_BadNumber_init cel_BadNumber) ["self", "value"] [] := Binds.all fun us hl => match us, hl with | [_, _], _ => rfl
  have B_BadWord_init : Binds K (PySem.W.ksFn "__init__" "BadWord.__init__" (defArgs s_BadWord_init) (defBody s_BadWord_init) (defScope s_BadWord_init) .none kV_BadWord_init dc_BadWord_init pm_BadWord_init an_BadWord_init (.ref cda_BadWord) ct_BadWord_init cel_BadWord) ["self", "value"] [] := Binds.all fun us hl => match us, hl with | [_, _], _ => rfl
  have B_NoState_init : Binds K (PySem.W.ksFn "__init__" "NoState.__init__" (defArgs s_NoState_init) (defBody s_NoState_init) (defScope s_NoState_init) .none kV_NoState_init dc_NoState_init pm_NoState_init an_NoState_init (.ref cda_NoState) ct_NoState_init cel_NoState) ["self", "value"] [] := Binds.all fun us hl => match us, hl with | [_, _], _ => rfl
  have B_NoCell_init : Binds K (PySem.W.ksFn "__init__" "NoCell.__init__" (defArgs s_NoCell_init) (defBody s_NoCell_init) (defScope s_NoCell_init) .none kV_NoCell_init dc_NoCell_init pm_NoCell_init an_NoCell_init (.ref cda_NoCell) ct_NoCell_init cel_NoCell) ["self", "value"] [] := Binds.all fun us hl => match us, hl with | [_, _], _ => rfl
  have B_NoText_init : Binds K (PySem.W.ksFn "__init__" "NoText.__init__" (defArgs s_NoText_init) (defBody s_NoText_init) (defScope s_NoText_init) .none kV_NoText_init dc_NoText_init pm_NoText_init an_NoText_init (.ref cda_NoText) ct_NoText_init cel_NoText) ["self", "value"] [] := Binds.all fun us hl => match us, hl with | [_, _], _ => rfl
  have B_Taken_init : Binds K (PySem.W.ksFn "__init__" "Taken.__init__" (defArgs s_Taken_init) (defBody s_Taken_init) (defScope s_Taken_init) .none kV_Taken_init dc_Taken_init pm_Taken_init an_Taken_init (.ref cda_Taken) ct_Taken_init cel_Taken) ["self", "value"] [] := Binds.all fun us hl => match us, hl with | [_, _], _ => rfl
  have B_BadConverter_init : Binds K (PySem.W.ksFn "__init__" "BadConverter.__init__" (defArgs s_BadConverter_init) (defBody s_BadConverter_init) (defScope s_BadConverter_init) .none kV_BadConverter_init dc_BadConverter_init pm_BadConverter_init an_BadConverter_init (.ref cda_BadConverter) ct_BadConverter_init cel_BadConverter) ["self", "part"] [] := Binds.all fun us hl => match us, hl with | [_, _], _ => rfl
  have B_BadGrowth_init : Binds K (PySem.W.ksFn "__init__" "BadGrowth.__init__" (defArgs s_BadGrowth_init) (defBody s_BadGrowth_init) (defScope s_BadGrowth_init) .none kV_BadGrowth_init dc_BadGrowth_init pm_BadGrowth_init an_BadGrowth_init (.ref cda_BadGrowth) ct_BadGrowth_init cel_BadGrowth) ["self", "part"] [] := Binds.all fun us hl => match us, hl with | [_, _], _ => rfl
  have B_BadPaper_init : Binds K (PySem.W.ksFn "__init__" "BadPaper.__init__" (defArgs s_BadPaper_init) (defBody s_BadPaper_init) (defScope s_BadPaper_init) .none kV_BadPaper_init dc_BadPaper_init pm_BadPaper_init an_BadPaper_init (.ref cda_BadPaper) ct_BadPaper_init cel_BadPaper) ["self", "part"] [] := Binds.all fun us hl => match us, hl with | [_, _], _ => rfl
  have B_BadArray_init : Binds K (PySem.W.ksFn "__init__" "BadArray.__init__" (defArgs s_BadArray_init) (defBody s_BadArray_init) (defScope s_BadArray_init) .none kV_BadArray_init dc_BadArray_init pm_BadArray_init an_BadArray_init (.ref cda_BadArray) ct_BadArray_init cel_BadArray) ["self", "part"] [] := Binds.all fun us hl => match us, hl with | [_, _], _ => rfl
  have B_BadDeed_init : Binds K (PySem.W.ksFn "__init__" "BadDeed.__init__" (defArgs s_BadDeed_init) (defBody s_BadDeed_init) (defScope s_BadDeed_init) .none kV_BadDeed_init dc_BadDeed_init pm_BadDeed_init an_BadDeed_init (.ref cda_BadDeed) ct_BadDeed_init cel_BadDeed) ["self", "part"] [] := Binds.all fun us hl => match us, hl with | [_, _], _ => rfl
  have B_BadLog_init : Binds K (PySem.W.ksFn "__init__" "BadLog.__init__" (defArgs s_BadLog_init) (defBody s_BadLog_init) (defScope s_BadLog_init) .none kV_BadLog_init dc_BadLog_init pm_BadLog_init an_BadLog_init (.ref cda_BadLog) ct_BadLog_init cel_BadLog) ["self", "at"] [] := Binds.all fun us hl => match us, hl with | [_, _], _ => rfl
  have B_NoTail_init : Binds K (PySem.W.ksFn "__init__" "NoTail.__init__" (defArgs s_NoTail_init) (defBody s_NoTail_init) (defScope s_NoTail_init) .none kV_NoTail_init dc_NoTail_init pm_NoTail_init an_NoTail_init (.ref cda_NoTail) ct_NoTail_init cel_NoTail) ["self", "state"] [] := Binds.all fun us hl => match us, hl with | [_, _], _ => rfl
  have B_RunOver_init : Binds K (PySem.W.ksFn "__init__" "RunOver.__init__" (defArgs s_RunOver_init) (defBody s_RunOver_init) (defScope s_RunOver_init) .none kV_RunOver_init dc_RunOver_init pm_RunOver_init an_RunOver_init (.ref cda_RunOver) ct_RunOver_init cel_RunOver) ["self", "cell"] [] := Binds.all fun us hl => match us, hl with | [_, _], _ => rfl
  have B_NoRoom_init : Binds K (PySem.W.ksFn "__init__" "NoRoom.__init__" (defArgs s_NoRoom_init) (defBody s_NoRoom_init) (defScope s_NoRoom_init) .none kV_NoRoom_init dc_NoRoom_init pm_NoRoom_init an_NoRoom_init (.ref cda_NoRoom) ct_NoRoom_init cel_NoRoom) ["self", "cell"] [] := Binds.all fun us hl => match us, hl with | [_, _], _ => rfl
  have B_BadCommand_init : Binds K (PySem.W.ksFn "__init__" "BadCommand.__init__" (defArgs s_BadCommand_init) (defBody s_BadCommand_init) (defScope s_BadCommand_init) .none kV_BadCommand_init dc_BadCommand_init pm_BadCommand_init an_BadCommand_init (.ref cda_BadCommand) ct_BadCommand_init cel_BadCommand) ["self", "word"] [] := Binds.all fun us hl => match us, hl with | [_, _], _ => rfl
  have B_BadText_init : Binds K (PySem.W.ksFn "__init__" "BadText.__init__" (defArgs s_BadText_init) (defBody s_BadText_init) (defScope s_BadText_init) .none kV_BadText_init dc_BadText_init pm_BadText_init an_BadText_init (.ref cda_BadText) ct_BadText_init cel_BadText) ["self", "line", "word"] [] := Binds.all fun us hl => match us, hl with | [_, _, _], _ => rfl
  have B_NoStep_init : Binds K (PySem.W.ksFn "__init__" "NoStep.__init__" (defArgs s_NoStep_init) (defBody s_NoStep_init) (defScope s_NoStep_init) .none kV_NoStep_init dc_NoStep_init pm_NoStep_init an_NoStep_init (.ref cda_NoStep) ct_NoStep_init cel_NoStep) ["self", "at", "state"] [] := Binds.all fun us hl => match us, hl with | [_, _, _], _ => rfl
  have B_TooMany_init : Binds K (PySem.W.ksFn "__init__" "TooMany.__init__" (defArgs s_TooMany_init) (defBody s_TooMany_init) (defScope s_TooMany_init) .none kV_TooMany_init dc_TooMany_init pm_TooMany_init an_TooMany_init (.ref cda_TooMany) ct_TooMany_init cel_TooMany) ["self", "what", "most"] [] := Binds.all fun us hl => match us, hl with | [_, _, _], _ => rfl
  have B_Nothing_init : Binds K (PySem.W.ksFn "__init__" "Nothing.__init__" (defArgs s_Nothing_init) (defBody s_Nothing_init) (defScope s_Nothing_init) .none kV_Nothing_init dc_Nothing_init pm_Nothing_init an_Nothing_init (.ref cda_Nothing) ct_Nothing_init cel_Nothing) ["self"] [] := Binds.all fun us hl => match us, hl with | [_], _ => rfl
  let A : Ad := { c_BadName := c_BadName, c_BadLetter := c_BadLetter, c_BadAnswer := c_BadAnswer, c_BadNumber := c_BadNumber, c_BadWord := c_BadWord, c_NoState := c_NoState, c_NoCell := c_NoCell, c_NoText := c_NoText, c_Taken := c_Taken, c_BadConverter := c_BadConverter, c_BadGrowth := c_BadGrowth, c_BadPaper := c_BadPaper, c_BadArray := c_BadArray, c_BadDeed := c_BadDeed, c_BadLog := c_BadLog, c_NoTail := c_NoTail, c_RunOver := c_RunOver, c_NoRoom := c_NoRoom, c_BadCommand := c_BadCommand, c_BadText := c_BadText, c_NoStep := c_NoStep, c_TooMany := c_TooMany, c_Nothing := c_Nothing, c_HeadError := c_HeadError, cda_BadName := cda_BadName, cel_BadName := cel_BadName, cda_BadLetter := cda_BadLetter, cel_BadLetter := cel_BadLetter, cda_BadAnswer := cda_BadAnswer, cel_BadAnswer := cel_BadAnswer, cda_BadNumber := cda_BadNumber, cel_BadNumber := cel_BadNumber, cda_BadWord := cda_BadWord, cel_BadWord := cel_BadWord, cda_NoState := cda_NoState, cel_NoState := cel_NoState, cda_NoCell := cda_NoCell, cel_NoCell := cel_NoCell, cda_NoText := cda_NoText, cel_NoText := cel_NoText, cda_Taken := cda_Taken, cel_Taken := cel_Taken, cda_BadConverter := cda_BadConverter, cel_BadConverter := cel_BadConverter, cda_BadGrowth := cda_BadGrowth, cel_BadGrowth := cel_BadGrowth, cda_BadPaper := cda_BadPaper, cel_BadPaper := cel_BadPaper, cda_BadArray := cda_BadArray, cel_BadArray := cel_BadArray, cda_BadDeed := cda_BadDeed, cel_BadDeed := cel_BadDeed, cda_BadLog := cda_BadLog, cel_BadLog := cel_BadLog, cda_NoTail := cda_NoTail, cel_NoTail := cel_NoTail, cda_RunOver := cda_RunOver, cel_RunOver := cel_RunOver, cda_NoRoom := cda_NoRoom, cel_NoRoom := cel_NoRoom, cda_BadCommand := cda_BadCommand, cel_BadCommand := cel_BadCommand, cda_BadText := cda_BadText, cel_BadText := cel_BadText, cda_NoStep := cda_NoStep, cel_NoStep := cel_NoStep, cda_TooMany := cda_TooMany, cel_TooMany := cel_TooMany, cda_Nothing := cda_Nothing, cel_Nothing := cel_Nothing, f_BadName_init := f_BadName_init, f_BadLetter_init := f_BadLetter_init, f_BadAnswer_init := f_BadAnswer_init, f_BadNumber_init := f_BadNumber_init, f_BadWord_init := f_BadWord_init, f_NoState_init := f_NoState_init, f_NoCell_init := f_NoCell_init, f_NoText_init := f_NoText_init, f_Taken_init := f_Taken_init, f_BadConverter_init := f_BadConverter_init, f_BadGrowth_init := f_BadGrowth_init, f_BadPaper_init := f_BadPaper_init, f_BadArray_init := f_BadArray_init, f_BadDeed_init := f_BadDeed_init, f_BadLog_init := f_BadLog_init, f_NoTail_init := f_NoTail_init, f_RunOver_init := f_RunOver_init, f_NoRoom_init := f_NoRoom_init, f_BadCommand_init := f_BadCommand_init, f_BadText_init := f_BadText_init, f_NoStep_init := f_NoStep_init, f_TooMany_init := f_TooMany_init, f_Nothing_init := f_Nothing_init, f_law_pen := f_law_pen, f_law_draw := f_law_draw, f_law_pick := f_law_pick, f_law_made := f_law_made, f_law_fields := f_law_fields, f_law := fa, d_BadName_init := PySem.W.ksFn "__init__" "BadName.__init__" (defArgs s_BadName_init) (defBody s_BadName_init) (defScope s_BadName_init) .none kV_BadName_init dc_BadName_init pm_BadName_init an_BadName_init (.ref cda_BadName) ct_BadName_init cel_BadName, d_BadLetter_init := PySem.W.ksFn "__init__" "BadLetter.__init__" (defArgs s_BadLetter_init) (defBody s_BadLetter_init) (defScope s_BadLetter_init) .none kV_BadLetter_init dc_BadLetter_init pm_BadLetter_init an_BadLetter_init (.ref cda_BadLetter) ct_BadLetter_init cel_BadLetter, d_BadAnswer_init := PySem.W.ksFn "__init__" "BadAnswer.__init__" (defArgs s_BadAnswer_init) (defBody s_BadAnswer_init) (defScope s_BadAnswer_init) .none kV_BadAnswer_init dc_BadAnswer_init pm_BadAnswer_init an_BadAnswer_init (.ref cda_BadAnswer) ct_BadAnswer_init cel_BadAnswer, d_BadNumber_init := PySem.W.ksFn "__init__" "BadNumber.__init__" (defArgs s_BadNumber_init) (defBody s_BadNumber_init) (defScope s_BadNumber_init) .none kV_BadNumber_init dc_BadNumber_init pm_BadNumber_init an_BadNumber_init (.ref cda_BadNumber) ct_BadNumber_init cel_BadNumber, d_BadWord_init := PySem.W.ksFn "__init__" "BadWord.__init__" (defArgs s_BadWord_init) (defBody s_BadWord_init) (defScope s_BadWord_init) .none kV_BadWord_init dc_BadWord_init pm_BadWord_init an_BadWord_init (.ref cda_BadWord) ct_BadWord_init cel_BadWord, d_NoState_init := PySem.W.ksFn "__init__" "NoState.__init__" (defArgs s_NoState_init) (defBody s_NoState_init) (defScope s_NoState_init) .none kV_NoState_init dc_NoState_init pm_NoState_init an_NoState_init (.ref cda_NoState) ct_NoState_init cel_NoState, d_NoCell_init := PySem.W.ksFn "__init__" "NoCell.__init__" (defArgs s_NoCell_init) (defBody s_NoCell_init) (defScope s_NoCell_init) .none kV_NoCell_init dc_NoCell_init pm_NoCell_init an_NoCell_init (.ref cda_NoCell) ct_NoCell_init cel_NoCell, d_NoText_init := PySem.W.ksFn "__init__" "NoText.__init__" (defArgs s_NoText_init) (defBody s_NoText_init) (defScope s_NoText_init) .none kV_NoText_init dc_NoText_init pm_NoText_init an_NoText_init (.ref cda_NoText) ct_NoText_init cel_NoText, d_Taken_init := PySem.W.ksFn "__init__" "Taken.__init__" (defArgs s_Taken_init) (defBody s_Taken_init) (defScope s_Taken_init) .none kV_Taken_init dc_Taken_init pm_Taken_init an_Taken_init (.ref cda_Taken) ct_Taken_init cel_Taken, d_BadConverter_init := PySem.W.ksFn "__init__" "BadConverter.__init__" (defArgs s_BadConverter_init) (defBody s_BadConverter_init) (defScope s_BadConverter_init) .none kV_BadConverter_init dc_BadConverter_init pm_BadConverter_init an_BadConverter_init (.ref cda_BadConverter) ct_BadConverter_init cel_BadConverter, d_BadGrowth_init := PySem.W.ksFn "__init__" "BadGrowth.__init__" (defArgs s_BadGrowth_init) (defBody s_BadGrowth_init) (defScope s_BadGrowth_init) .none kV_BadGrowth_init dc_BadGrowth_init pm_BadGrowth_init an_BadGrowth_init (.ref cda_BadGrowth) ct_BadGrowth_init cel_BadGrowth, d_BadPaper_init := PySem.W.ksFn "__init__" "BadPaper.__init__" (defArgs s_BadPaper_init) (defBody s_BadPaper_init) (defScope s_BadPaper_init) .none kV_BadPaper_init dc_BadPaper_init pm_BadPaper_init an_BadPaper_init (.ref cda_BadPaper) ct_BadPaper_init cel_BadPaper, d_BadArray_init := PySem.W.ksFn "__init__" "BadArray.__init__" (defArgs s_BadArray_init) (defBody s_BadArray_init) (defScope s_BadArray_init) .none kV_BadArray_init dc_BadArray_init pm_BadArray_init an_BadArray_init (.ref cda_BadArray) ct_BadArray_init cel_BadArray, d_BadDeed_init := PySem.W.ksFn "__init__" "BadDeed.__init__" (defArgs s_BadDeed_init) (defBody s_BadDeed_init) (defScope s_BadDeed_init) .none kV_BadDeed_init dc_BadDeed_init pm_BadDeed_init an_BadDeed_init (.ref cda_BadDeed) ct_BadDeed_init cel_BadDeed, d_BadLog_init := PySem.W.ksFn "__init__" "BadLog.__init__" (defArgs s_BadLog_init) (defBody s_BadLog_init) (defScope s_BadLog_init) .none kV_BadLog_init dc_BadLog_init pm_BadLog_init an_BadLog_init (.ref cda_BadLog) ct_BadLog_init cel_BadLog, d_NoTail_init := PySem.W.ksFn "__init__" "NoTail.__init__" (defArgs s_NoTail_init) (defBody s_NoTail_init) (defScope s_NoTail_init) .none kV_NoTail_init dc_NoTail_init pm_NoTail_init an_NoTail_init (.ref cda_NoTail) ct_NoTail_init cel_NoTail, d_RunOver_init := PySem.W.ksFn "__init__" "RunOver.__init__" (defArgs s_RunOver_init) (defBody s_RunOver_init) (defScope s_RunOver_init) .none kV_RunOver_init dc_RunOver_init pm_RunOver_init an_RunOver_init (.ref cda_RunOver) ct_RunOver_init cel_RunOver, d_NoRoom_init := PySem.W.ksFn "__init__" "NoRoom.__init__" (defArgs s_NoRoom_init) (defBody s_NoRoom_init) (defScope s_NoRoom_init) .none kV_NoRoom_init dc_NoRoom_init pm_NoRoom_init an_NoRoom_init (.ref cda_NoRoom) ct_NoRoom_init cel_NoRoom, d_BadCommand_init := PySem.W.ksFn "__init__" "BadCommand.__init__" (defArgs s_BadCommand_init) (defBody s_BadCommand_init) (defScope s_BadCommand_init) .none kV_BadCommand_init dc_BadCommand_init pm_BadCommand_init an_BadCommand_init (.ref cda_BadCommand) ct_BadCommand_init cel_BadCommand, d_BadText_init := PySem.W.ksFn "__init__" "BadText.__init__" (defArgs s_BadText_init) (defBody s_BadText_init) (defScope s_BadText_init) .none kV_BadText_init dc_BadText_init pm_BadText_init an_BadText_init (.ref cda_BadText) ct_BadText_init cel_BadText, d_NoStep_init := PySem.W.ksFn "__init__" "NoStep.__init__" (defArgs s_NoStep_init) (defBody s_NoStep_init) (defScope s_NoStep_init) .none kV_NoStep_init dc_NoStep_init pm_NoStep_init an_NoStep_init (.ref cda_NoStep) ct_NoStep_init cel_NoStep, d_TooMany_init := PySem.W.ksFn "__init__" "TooMany.__init__" (defArgs s_TooMany_init) (defBody s_TooMany_init) (defScope s_TooMany_init) .none kV_TooMany_init dc_TooMany_init pm_TooMany_init an_TooMany_init (.ref cda_TooMany) ct_TooMany_init cel_TooMany, d_Nothing_init := PySem.W.ksFn "__init__" "Nothing.__init__" (defArgs s_Nothing_init) (defBody s_Nothing_init) (defScope s_Nothing_init) .none kV_Nothing_init dc_Nothing_init pm_Nothing_init an_Nothing_init (.ref cda_Nothing) ct_Nothing_init cel_Nothing, d_law_pen := PySem.W.fnOf "_law_pen" "_law_pen" (defArgs s_law_pen) (defBody s_law_pen) (defScope s_law_pen) .none kV_law_pen dc_law_pen pm_law_pen an_law_pen cd_law_pen ct_law_pen, d_law_draw := PySem.W.fnOf "_law_draw" "_law_draw" (defArgs s_law_draw) (defBody s_law_draw) (defScope s_law_draw) .none kV_law_draw dc_law_draw pm_law_draw an_law_draw cd_law_draw ct_law_draw, d_law_pick := PySem.W.fnOf "_law_pick" "_law_pick" (defArgs s_law_pick) (defBody s_law_pick) (defScope s_law_pick) .none kV_law_pick dc_law_pick pm_law_pick an_law_pick cd_law_pick ct_law_pick, d_law_made := PySem.W.fnOf "_law_made" "_law_made" (defArgs s_law_made) (defBody s_law_made) (defScope s_law_made) .none kV_law_made dc_law_made pm_law_made an_law_made cd_law_made ct_law_made, d_law_fields := PySem.W.fnOf "_law_fields" "_law_fields" (defArgs s_law_fields) (defBody s_law_fields) (defScope s_law_fields) .none kV_law_fields dc_law_fields pm_law_fields an_law_fields cd_law_fields ct_law_fields, d_law := PySem.W.fnOf "law" "law" (defArgs s_law) (defBody s_law) (defScope s_law) .none kV_law dc_law pm_law an_law cd_law ct_law }
  have T : Txt l.prog K mg A := {
    kf := kf_mk de_nd rf_xbmR (fun i => match i with | .BadName => (cls_bm (cls_of xl_BadName) rf_xbm_BadName) | .BadLetter => (cls_bm (cls_of xl_BadLetter) rf_xbm_BadLetter) | .BadAnswer => (cls_bm (cls_of xl_BadAnswer) rf_xbm_BadAnswer) | .BadNumber => (cls_bm (cls_of xl_BadNumber) rf_xbm_BadNumber) | .BadWord => (cls_bm (cls_of xl_BadWord) rf_xbm_BadWord) | .NoState => (cls_bm (cls_of xl_NoState) rf_xbm_NoState) | .NoCell => (cls_bm (cls_of xl_NoCell) rf_xbm_NoCell) | .NoText => (cls_bm (cls_of xl_NoText) rf_xbm_NoText) | .Taken => (cls_bm (cls_of xl_Taken) rf_xbm_Taken) | .BadConverter => (cls_bm (cls_of xl_BadConverter) rf_xbm_BadConverter) | .BadGrowth => (cls_bm (cls_of xl_BadGrowth) rf_xbm_BadGrowth) | .BadPaper => (cls_bm (cls_of xl_BadPaper) rf_xbm_BadPaper) | .BadArray => (cls_bm (cls_of xl_BadArray) rf_xbm_BadArray) | .BadDeed => (cls_bm (cls_of xl_BadDeed) rf_xbm_BadDeed) | .BadLog => (cls_bm (cls_of xl_BadLog) rf_xbm_BadLog) | .NoTail => (cls_bm (cls_of xl_NoTail) rf_xbm_NoTail) | .RunOver => (cls_bm (cls_of xl_RunOver) rf_xbm_RunOver) | .NoRoom => (cls_bm (cls_of xl_NoRoom) rf_xbm_NoRoom) | .BadCommand => (cls_bm (cls_of xl_BadCommand) rf_xbm_BadCommand) | .BadText => (cls_bm (cls_of xl_BadText) rf_xbm_BadText) | .NoStep => (cls_bm (cls_of xl_NoStep) rf_xbm_NoStep) | .TooMany => (cls_bm (cls_of xl_TooMany) rf_xbm_TooMany) | .Nothing => (cls_bm (cls_of xl_Nothing) rf_xbm_Nothing)) (fun i => match i with | .BadName => xty_BadName | .BadLetter => xty_BadLetter | .BadAnswer => xty_BadAnswer | .BadNumber => xty_BadNumber | .BadWord => xty_BadWord | .NoState => xty_NoState | .NoCell => xty_NoCell | .NoText => xty_NoText | .Taken => xty_Taken | .BadConverter => xty_BadConverter | .BadGrowth => xty_BadGrowth | .BadPaper => xty_BadPaper | .BadArray => xty_BadArray | .BadDeed => xty_BadDeed | .BadLog => xty_BadLog | .NoTail => xty_NoTail | .RunOver => xty_RunOver | .NoRoom => xty_NoRoom | .BadCommand => xty_BadCommand | .BadText => xty_BadText | .NoStep => xty_NoStep | .TooMany => xty_TooMany | .Nothing => xty_Nothing) (cls_of xl_HeadError) xty_HeadError
    xsup := PySem.W.mg_none_of X G zsup
    xcs := by
      unfold excsOf
      simp only [List.forall_mem_cons]
      exact ⟨⟨xga_BadName, xgg_BadName, xb_BadName, xhd_BadName, xha_BadName, xhn, xht, xmo_BadName⟩, ⟨xga_BadLetter, xgg_BadLetter, xb_BadLetter, xhd_BadLetter, xha_BadLetter, xhn, xht, xmo_BadLetter⟩, ⟨xga_BadAnswer, xgg_BadAnswer, xb_BadAnswer, xhd_BadAnswer, xha_BadAnswer, xhn, xht, xmo_BadAnswer⟩, ⟨xga_BadNumber, xgg_BadNumber, xb_BadNumber, xhd_BadNumber, xha_BadNumber, xhn, xht, xmo_BadNumber⟩, ⟨xga_BadWord, xgg_BadWord, xb_BadWord, xhd_BadWord, xha_BadWord, xhn, xht, xmo_BadWord⟩, ⟨xga_NoState, xgg_NoState, xb_NoState, xhd_NoState, xha_NoState, xhn, xht, xmo_NoState⟩, ⟨xga_NoCell, xgg_NoCell, xb_NoCell, xhd_NoCell, xha_NoCell, xhn, xht, xmo_NoCell⟩, ⟨xga_NoText, xgg_NoText, xb_NoText, xhd_NoText, xha_NoText, xhn, xht, xmo_NoText⟩, ⟨xga_Taken, xgg_Taken, xb_Taken, xhd_Taken, xha_Taken, xhn, xht, xmo_Taken⟩, ⟨xga_BadConverter, xgg_BadConverter, xb_BadConverter, xhd_BadConverter, xha_BadConverter, xhn, xht, xmo_BadConverter⟩, ⟨xga_BadGrowth, xgg_BadGrowth, xb_BadGrowth, xhd_BadGrowth, xha_BadGrowth, xhn, xht, xmo_BadGrowth⟩, ⟨xga_BadPaper, xgg_BadPaper, xb_BadPaper, xhd_BadPaper, xha_BadPaper, xhn, xht, xmo_BadPaper⟩, ⟨xga_BadArray, xgg_BadArray, xb_BadArray, xhd_BadArray, xha_BadArray, xhn, xht, xmo_BadArray⟩, ⟨xga_BadDeed, xgg_BadDeed, xb_BadDeed, xhd_BadDeed, xha_BadDeed, xhn, xht, xmo_BadDeed⟩, ⟨xga_BadLog, xgg_BadLog, xb_BadLog, xhd_BadLog, xha_BadLog, xhn, xht, xmo_BadLog⟩, ⟨xga_NoTail, xgg_NoTail, xb_NoTail, xhd_NoTail, xha_NoTail, xhn, xht, xmo_NoTail⟩, ⟨xga_RunOver, xgg_RunOver, xb_RunOver, xhd_RunOver, xha_RunOver, xhn, xht, xmo_RunOver⟩, ⟨xga_NoRoom, xgg_NoRoom, xb_NoRoom, xhd_NoRoom, xha_NoRoom, xhn, xht, xmo_NoRoom⟩, ⟨xga_BadCommand, xgg_BadCommand, xb_BadCommand, xhd_BadCommand, xha_BadCommand, xhn, xht, xmo_BadCommand⟩, ⟨xga_BadText, xgg_BadText, xb_BadText, xhd_BadText, xha_BadText, xhn, xht, xmo_BadText⟩, ⟨xga_NoStep, xgg_NoStep, xb_NoStep, xhd_NoStep, xha_NoStep, xhn, xht, xmo_NoStep⟩, ⟨xga_TooMany, xgg_TooMany, xb_TooMany, xhd_TooMany, xha_TooMany, xhn, xht, xmo_TooMany⟩, ⟨xga_Nothing, xgg_Nothing, xb_Nothing, xhd_Nothing, xha_Nothing, xhn, xht, xmo_Nothing⟩, fun _ z => (List.not_mem_nil z).elim⟩
    g_BadName := PySem.W.mg_of X G aC_BadName
    g_BadLetter := PySem.W.mg_of X G aC_BadLetter
    g_BadAnswer := PySem.W.mg_of X G aC_BadAnswer
    g_BadNumber := PySem.W.mg_of X G aC_BadNumber
    g_BadWord := PySem.W.mg_of X G aC_BadWord
    g_NoState := PySem.W.mg_of X G aC_NoState
    g_NoCell := PySem.W.mg_of X G aC_NoCell
    g_NoText := PySem.W.mg_of X G aC_NoText
    g_Taken := PySem.W.mg_of X G aC_Taken
    g_BadConverter := PySem.W.mg_of X G aC_BadConverter
    g_BadGrowth := PySem.W.mg_of X G aC_BadGrowth
    g_BadPaper := PySem.W.mg_of X G aC_BadPaper
    g_BadArray := PySem.W.mg_of X G aC_BadArray
    g_BadDeed := PySem.W.mg_of X G aC_BadDeed
    g_BadLog := PySem.W.mg_of X G aC_BadLog
    g_NoTail := PySem.W.mg_of X G aC_NoTail
    g_RunOver := PySem.W.mg_of X G aC_RunOver
    g_NoRoom := PySem.W.mg_of X G aC_NoRoom
    g_BadCommand := PySem.W.mg_of X G aC_BadCommand
    g_BadText := PySem.W.mg_of X G aC_BadText
    g_NoStep := PySem.W.mg_of X G aC_NoStep
    g_TooMany := PySem.W.mg_of X G aC_TooMany
    g_Nothing := PySem.W.mg_of X G aC_Nothing
    g_HeadError := PySem.W.mg_of X G aC_HeadError
    xs_BadName := ⟨⟨⟨_, _, _, _, _, _, _, _, _, _, _, _, _, _, _, xl_BadName, rf_xve_BadName⟩, xsa_BadName, xb_BadName, xty_BadName, xkp_BadName⟩, ⟨_, _, _, _, _, _, xcd_BadName, rf_xfl_BadName, de_xfe_BadName⟩, ⟨_, _, _, xce_BadName⟩, sup_mk xl_BadName xl_HeadError rf_xbm_BadName xfi, xm_BadName, xopq, xv_BadName, de_top⟩
    xo_BadName := ⟨⟨_, _, _, _, _, _, _, _, _, _, _, _, _, _, _, xl_BadName, rf_xve_BadName⟩, xsa_BadName, xb_BadName, xty_BadName, xkp_BadName⟩
    xi_BadName := xi_BadName
    xt_BadName := xt_BadName
    xf_BadName := ⟨xga_BadName, xgg_BadName, xb_BadName, xhd_BadName⟩
    xn_BadName_value := xn_BadName_value
    xs_BadLetter := ⟨⟨⟨_, _, _, _, _, _, _, _, _, _, _, _, _, _, _, xl_BadLetter, rf_xve_BadLetter⟩, xsa_BadLetter, xb_BadLetter, xty_BadLetter, xkp_BadLetter⟩, ⟨_, _, _, _, _, _, xcd_BadLetter, rf_xfl_BadLetter, de_xfe_BadLetter⟩, ⟨_, _, _, xce_BadLetter⟩, sup_mk xl_BadLetter xl_HeadError rf_xbm_BadLetter xfi, xm_BadLetter, xopq, xv_BadLetter, de_top⟩
    xo_BadLetter := ⟨⟨_, _, _, _, _, _, _, _, _, _, _, _, _, _, _, xl_BadLetter, rf_xve_BadLetter⟩, xsa_BadLetter, xb_BadLetter, xty_BadLetter, xkp_BadLetter⟩
    xi_BadLetter := xi_BadLetter
    xt_BadLetter := xt_BadLetter
    xf_BadLetter := ⟨xga_BadLetter, xgg_BadLetter, xb_BadLetter, xhd_BadLetter⟩
    xn_BadLetter_value := xn_BadLetter_value
    xs_BadAnswer := ⟨⟨⟨_, _, _, _, _, _, _, _, _, _, _, _, _, _, _, xl_BadAnswer, rf_xve_BadAnswer⟩, xsa_BadAnswer, xb_BadAnswer, xty_BadAnswer, xkp_BadAnswer⟩, ⟨_, _, _, _, _, _, xcd_BadAnswer, rf_xfl_BadAnswer, de_xfe_BadAnswer⟩, ⟨_, _, _, xce_BadAnswer⟩, sup_mk xl_BadAnswer xl_HeadError rf_xbm_BadAnswer xfi, xm_BadAnswer, xopq, xv_BadAnswer, de_top⟩
    xo_BadAnswer := ⟨⟨_, _, _, _, _, _, _, _, _, _, _, _, _, _, _, xl_BadAnswer, rf_xve_BadAnswer⟩, xsa_BadAnswer, xb_BadAnswer, xty_BadAnswer, xkp_BadAnswer⟩
    xi_BadAnswer := xi_BadAnswer
    xt_BadAnswer := xt_BadAnswer
    xf_BadAnswer := ⟨xga_BadAnswer, xgg_BadAnswer, xb_BadAnswer, xhd_BadAnswer⟩
    xn_BadAnswer_value := xn_BadAnswer_value
    xs_BadNumber := ⟨⟨⟨_, _, _, _, _, _, _, _, _, _, _, _, _, _, _, xl_BadNumber, rf_xve_BadNumber⟩, xsa_BadNumber, xb_BadNumber, xty_BadNumber, xkp_BadNumber⟩, ⟨_, _, _, _, _, _, xcd_BadNumber, rf_xfl_BadNumber, de_xfe_BadNumber⟩, ⟨_, _, _, xce_BadNumber⟩, sup_mk xl_BadNumber xl_HeadError rf_xbm_BadNumber xfi, xm_BadNumber, xopq, xv_BadNumber, de_top⟩
    xo_BadNumber := ⟨⟨_, _, _, _, _, _, _, _, _, _, _, _, _, _, _, xl_BadNumber, rf_xve_BadNumber⟩, xsa_BadNumber, xb_BadNumber, xty_BadNumber, xkp_BadNumber⟩
    xi_BadNumber := xi_BadNumber
    xt_BadNumber := xt_BadNumber
    xf_BadNumber := ⟨xga_BadNumber, xgg_BadNumber, xb_BadNumber, xhd_BadNumber⟩
    xn_BadNumber_value := xn_BadNumber_value
    xs_BadWord := ⟨⟨⟨_, _, _, _, _, _, _, _, _, _, _, _, _, _, _, xl_BadWord, rf_xve_BadWord⟩, xsa_BadWord, xb_BadWord, xty_BadWord, xkp_BadWord⟩, ⟨_, _, _, _, _, _, xcd_BadWord, rf_xfl_BadWord, de_xfe_BadWord⟩, ⟨_, _, _, xce_BadWord⟩, sup_mk xl_BadWord xl_HeadError rf_xbm_BadWord xfi, xm_BadWord, xopq, xv_BadWord, de_top⟩
    xo_BadWord := ⟨⟨_, _, _, _, _, _, _, _, _, _, _, _, _, _, _, xl_BadWord, rf_xve_BadWord⟩, xsa_BadWord, xb_BadWord, xty_BadWord, xkp_BadWord⟩
    xi_BadWord := xi_BadWord
    xt_BadWord := xt_BadWord
    xf_BadWord := ⟨xga_BadWord, xgg_BadWord, xb_BadWord, xhd_BadWord⟩
    xn_BadWord_value := xn_BadWord_value
    xs_NoState := ⟨⟨⟨_, _, _, _, _, _, _, _, _, _, _, _, _, _, _, xl_NoState, rf_xve_NoState⟩, xsa_NoState, xb_NoState, xty_NoState, xkp_NoState⟩, ⟨_, _, _, _, _, _, xcd_NoState, rf_xfl_NoState, de_xfe_NoState⟩, ⟨_, _, _, xce_NoState⟩, sup_mk xl_NoState xl_HeadError rf_xbm_NoState xfi, xm_NoState, xopq, xv_NoState, de_top⟩
    xo_NoState := ⟨⟨_, _, _, _, _, _, _, _, _, _, _, _, _, _, _, xl_NoState, rf_xve_NoState⟩, xsa_NoState, xb_NoState, xty_NoState, xkp_NoState⟩
    xi_NoState := xi_NoState
    xt_NoState := xt_NoState
    xf_NoState := ⟨xga_NoState, xgg_NoState, xb_NoState, xhd_NoState⟩
    xn_NoState_value := xn_NoState_value
    xs_NoCell := ⟨⟨⟨_, _, _, _, _, _, _, _, _, _, _, _, _, _, _, xl_NoCell, rf_xve_NoCell⟩, xsa_NoCell, xb_NoCell, xty_NoCell, xkp_NoCell⟩, ⟨_, _, _, _, _, _, xcd_NoCell, rf_xfl_NoCell, de_xfe_NoCell⟩, ⟨_, _, _, xce_NoCell⟩, sup_mk xl_NoCell xl_HeadError rf_xbm_NoCell xfi, xm_NoCell, xopq, xv_NoCell, de_top⟩
    xo_NoCell := ⟨⟨_, _, _, _, _, _, _, _, _, _, _, _, _, _, _, xl_NoCell, rf_xve_NoCell⟩, xsa_NoCell, xb_NoCell, xty_NoCell, xkp_NoCell⟩
    xi_NoCell := xi_NoCell
    xt_NoCell := xt_NoCell
    xf_NoCell := ⟨xga_NoCell, xgg_NoCell, xb_NoCell, xhd_NoCell⟩
    xn_NoCell_value := xn_NoCell_value
    xs_NoText := ⟨⟨⟨_, _, _, _, _, _, _, _, _, _, _, _, _, _, _, xl_NoText, rf_xve_NoText⟩, xsa_NoText, xb_NoText, xty_NoText, xkp_NoText⟩, ⟨_, _, _, _, _, _, xcd_NoText, rf_xfl_NoText, de_xfe_NoText⟩, ⟨_, _, _, xce_NoText⟩, sup_mk xl_NoText xl_HeadError rf_xbm_NoText xfi, xm_NoText, xopq, xv_NoText, de_top⟩
    xo_NoText := ⟨⟨_, _, _, _, _, _, _, _, _, _, _, _, _, _, _, xl_NoText, rf_xve_NoText⟩, xsa_NoText, xb_NoText, xty_NoText, xkp_NoText⟩
    xi_NoText := xi_NoText
    xt_NoText := xt_NoText
    xf_NoText := ⟨xga_NoText, xgg_NoText, xb_NoText, xhd_NoText⟩
    xn_NoText_value := xn_NoText_value
    xs_Taken := ⟨⟨⟨_, _, _, _, _, _, _, _, _, _, _, _, _, _, _, xl_Taken, rf_xve_Taken⟩, xsa_Taken, xb_Taken, xty_Taken, xkp_Taken⟩, ⟨_, _, _, _, _, _, xcd_Taken, rf_xfl_Taken, de_xfe_Taken⟩, ⟨_, _, _, xce_Taken⟩, sup_mk xl_Taken xl_HeadError rf_xbm_Taken xfi, xm_Taken, xopq, xv_Taken, de_top⟩
    xo_Taken := ⟨⟨_, _, _, _, _, _, _, _, _, _, _, _, _, _, _, xl_Taken, rf_xve_Taken⟩, xsa_Taken, xb_Taken, xty_Taken, xkp_Taken⟩
    xi_Taken := xi_Taken
    xt_Taken := xt_Taken
    xf_Taken := ⟨xga_Taken, xgg_Taken, xb_Taken, xhd_Taken⟩
    xn_Taken_value := xn_Taken_value
    xs_BadConverter := ⟨⟨⟨_, _, _, _, _, _, _, _, _, _, _, _, _, _, _, xl_BadConverter, rf_xve_BadConverter⟩, xsa_BadConverter, xb_BadConverter, xty_BadConverter, xkp_BadConverter⟩, ⟨_, _, _, _, _, _, xcd_BadConverter, rf_xfl_BadConverter, de_xfe_BadConverter⟩, ⟨_, _, _, xce_BadConverter⟩, sup_mk xl_BadConverter xl_HeadError rf_xbm_BadConverter xfi, xm_BadConverter, xopq, xv_BadConverter, de_top⟩
    xo_BadConverter := ⟨⟨_, _, _, _, _, _, _, _, _, _, _, _, _, _, _, xl_BadConverter, rf_xve_BadConverter⟩, xsa_BadConverter, xb_BadConverter, xty_BadConverter, xkp_BadConverter⟩
    xi_BadConverter := xi_BadConverter
    xt_BadConverter := xt_BadConverter
    xf_BadConverter := ⟨xga_BadConverter, xgg_BadConverter, xb_BadConverter, xhd_BadConverter⟩
    xn_BadConverter_part := xn_BadConverter_part
    xs_BadGrowth := ⟨⟨⟨_, _, _, _, _, _, _, _, _, _, _, _, _, _, _, xl_BadGrowth, rf_xve_BadGrowth⟩, xsa_BadGrowth, xb_BadGrowth, xty_BadGrowth, xkp_BadGrowth⟩, ⟨_, _, _, _, _, _, xcd_BadGrowth, rf_xfl_BadGrowth, de_xfe_BadGrowth⟩, ⟨_, _, _, xce_BadGrowth⟩, sup_mk xl_BadGrowth xl_HeadError rf_xbm_BadGrowth xfi, xm_BadGrowth, xopq, xv_BadGrowth, de_top⟩
    xo_BadGrowth := ⟨⟨_, _, _, _, _, _, _, _, _, _, _, _, _, _, _, xl_BadGrowth, rf_xve_BadGrowth⟩, xsa_BadGrowth, xb_BadGrowth, xty_BadGrowth, xkp_BadGrowth⟩
    xi_BadGrowth := xi_BadGrowth
    xt_BadGrowth := xt_BadGrowth
    xf_BadGrowth := ⟨xga_BadGrowth, xgg_BadGrowth, xb_BadGrowth, xhd_BadGrowth⟩
    xn_BadGrowth_part := xn_BadGrowth_part
    xs_BadPaper := ⟨⟨⟨_, _, _, _, _, _, _, _, _, _, _, _, _, _, _, xl_BadPaper, rf_xve_BadPaper⟩, xsa_BadPaper, xb_BadPaper, xty_BadPaper, xkp_BadPaper⟩, ⟨_, _, _, _, _, _, xcd_BadPaper, rf_xfl_BadPaper, de_xfe_BadPaper⟩, ⟨_, _, _, xce_BadPaper⟩, sup_mk xl_BadPaper xl_HeadError rf_xbm_BadPaper xfi, xm_BadPaper, xopq, xv_BadPaper, de_top⟩
    xo_BadPaper := ⟨⟨_, _, _, _, _, _, _, _, _, _, _, _, _, _, _, xl_BadPaper, rf_xve_BadPaper⟩, xsa_BadPaper, xb_BadPaper, xty_BadPaper, xkp_BadPaper⟩
    xi_BadPaper := xi_BadPaper
    xt_BadPaper := xt_BadPaper
    xf_BadPaper := ⟨xga_BadPaper, xgg_BadPaper, xb_BadPaper, xhd_BadPaper⟩
    xn_BadPaper_part := xn_BadPaper_part
    xs_BadArray := ⟨⟨⟨_, _, _, _, _, _, _, _, _, _, _, _, _, _, _, xl_BadArray, rf_xve_BadArray⟩, xsa_BadArray, xb_BadArray, xty_BadArray, xkp_BadArray⟩, ⟨_, _, _, _, _, _, xcd_BadArray, rf_xfl_BadArray, de_xfe_BadArray⟩, ⟨_, _, _, xce_BadArray⟩, sup_mk xl_BadArray xl_HeadError rf_xbm_BadArray xfi, xm_BadArray, xopq, xv_BadArray, de_top⟩
    xo_BadArray := ⟨⟨_, _, _, _, _, _, _, _, _, _, _, _, _, _, _, xl_BadArray, rf_xve_BadArray⟩, xsa_BadArray, xb_BadArray, xty_BadArray, xkp_BadArray⟩
    xi_BadArray := xi_BadArray
    xt_BadArray := xt_BadArray
    xf_BadArray := ⟨xga_BadArray, xgg_BadArray, xb_BadArray, xhd_BadArray⟩
    xn_BadArray_part := xn_BadArray_part
    xs_BadDeed := ⟨⟨⟨_, _, _, _, _, _, _, _, _, _, _, _, _, _, _, xl_BadDeed, rf_xve_BadDeed⟩, xsa_BadDeed, xb_BadDeed, xty_BadDeed, xkp_BadDeed⟩, ⟨_, _, _, _, _, _, xcd_BadDeed, rf_xfl_BadDeed, de_xfe_BadDeed⟩, ⟨_, _, _, xce_BadDeed⟩, sup_mk xl_BadDeed xl_HeadError rf_xbm_BadDeed xfi, xm_BadDeed, xopq, xv_BadDeed, de_top⟩
    xo_BadDeed := ⟨⟨_, _, _, _, _, _, _, _, _, _, _, _, _, _, _, xl_BadDeed, rf_xve_BadDeed⟩, xsa_BadDeed, xb_BadDeed, xty_BadDeed, xkp_BadDeed⟩
    xi_BadDeed := xi_BadDeed
    xt_BadDeed := xt_BadDeed
    xf_BadDeed := ⟨xga_BadDeed, xgg_BadDeed, xb_BadDeed, xhd_BadDeed⟩
    xn_BadDeed_part := xn_BadDeed_part
    xs_BadLog := ⟨⟨⟨_, _, _, _, _, _, _, _, _, _, _, _, _, _, _, xl_BadLog, rf_xve_BadLog⟩, xsa_BadLog, xb_BadLog, xty_BadLog, xkp_BadLog⟩, ⟨_, _, _, _, _, _, xcd_BadLog, rf_xfl_BadLog, de_xfe_BadLog⟩, ⟨_, _, _, xce_BadLog⟩, sup_mk xl_BadLog xl_HeadError rf_xbm_BadLog xfi, xm_BadLog, xopq, xv_BadLog, de_top⟩
    xo_BadLog := ⟨⟨_, _, _, _, _, _, _, _, _, _, _, _, _, _, _, xl_BadLog, rf_xve_BadLog⟩, xsa_BadLog, xb_BadLog, xty_BadLog, xkp_BadLog⟩
    xi_BadLog := xi_BadLog
    xt_BadLog := xt_BadLog
    xf_BadLog := ⟨xga_BadLog, xgg_BadLog, xb_BadLog, xhd_BadLog⟩
    xn_BadLog_at := xn_BadLog_at
    xs_NoTail := ⟨⟨⟨_, _, _, _, _, _, _, _, _, _, _, _, _, _, _, xl_NoTail, rf_xve_NoTail⟩, xsa_NoTail, xb_NoTail, xty_NoTail, xkp_NoTail⟩, ⟨_, _, _, _, _, _, xcd_NoTail, rf_xfl_NoTail, de_xfe_NoTail⟩, ⟨_, _, _, xce_NoTail⟩, sup_mk xl_NoTail xl_HeadError rf_xbm_NoTail xfi, xm_NoTail, xopq, xv_NoTail, de_top⟩
    xo_NoTail := ⟨⟨_, _, _, _, _, _, _, _, _, _, _, _, _, _, _, xl_NoTail, rf_xve_NoTail⟩, xsa_NoTail, xb_NoTail, xty_NoTail, xkp_NoTail⟩
    xi_NoTail := xi_NoTail
    xt_NoTail := xt_NoTail
    xf_NoTail := ⟨xga_NoTail, xgg_NoTail, xb_NoTail, xhd_NoTail⟩
    xn_NoTail_state := xn_NoTail_state
    xs_RunOver := ⟨⟨⟨_, _, _, _, _, _, _, _, _, _, _, _, _, _, _, xl_RunOver, rf_xve_RunOver⟩, xsa_RunOver, xb_RunOver, xty_RunOver, xkp_RunOver⟩, ⟨_, _, _, _, _, _, xcd_RunOver, rf_xfl_RunOver, de_xfe_RunOver⟩, ⟨_, _, _, xce_RunOver⟩, sup_mk xl_RunOver xl_HeadError rf_xbm_RunOver xfi, xm_RunOver, xopq, xv_RunOver, de_top⟩
    xo_RunOver := ⟨⟨_, _, _, _, _, _, _, _, _, _, _, _, _, _, _, xl_RunOver, rf_xve_RunOver⟩, xsa_RunOver, xb_RunOver, xty_RunOver, xkp_RunOver⟩
    xi_RunOver := xi_RunOver
    xt_RunOver := xt_RunOver
    xf_RunOver := ⟨xga_RunOver, xgg_RunOver, xb_RunOver, xhd_RunOver⟩
    xn_RunOver_cell := xn_RunOver_cell
    xs_NoRoom := ⟨⟨⟨_, _, _, _, _, _, _, _, _, _, _, _, _, _, _, xl_NoRoom, rf_xve_NoRoom⟩, xsa_NoRoom, xb_NoRoom, xty_NoRoom, xkp_NoRoom⟩, ⟨_, _, _, _, _, _, xcd_NoRoom, rf_xfl_NoRoom, de_xfe_NoRoom⟩, ⟨_, _, _, xce_NoRoom⟩, sup_mk xl_NoRoom xl_HeadError rf_xbm_NoRoom xfi, xm_NoRoom, xopq, xv_NoRoom, de_top⟩
    xo_NoRoom := ⟨⟨_, _, _, _, _, _, _, _, _, _, _, _, _, _, _, xl_NoRoom, rf_xve_NoRoom⟩, xsa_NoRoom, xb_NoRoom, xty_NoRoom, xkp_NoRoom⟩
    xi_NoRoom := xi_NoRoom
    xt_NoRoom := xt_NoRoom
    xf_NoRoom := ⟨xga_NoRoom, xgg_NoRoom, xb_NoRoom, xhd_NoRoom⟩
    xn_NoRoom_cell := xn_NoRoom_cell
    xs_BadCommand := ⟨⟨⟨_, _, _, _, _, _, _, _, _, _, _, _, _, _, _, xl_BadCommand, rf_xve_BadCommand⟩, xsa_BadCommand, xb_BadCommand, xty_BadCommand, xkp_BadCommand⟩, ⟨_, _, _, _, _, _, xcd_BadCommand, rf_xfl_BadCommand, de_xfe_BadCommand⟩, ⟨_, _, _, xce_BadCommand⟩, sup_mk xl_BadCommand xl_HeadError rf_xbm_BadCommand xfi, xm_BadCommand, xopq, xv_BadCommand, de_top⟩
    xo_BadCommand := ⟨⟨_, _, _, _, _, _, _, _, _, _, _, _, _, _, _, xl_BadCommand, rf_xve_BadCommand⟩, xsa_BadCommand, xb_BadCommand, xty_BadCommand, xkp_BadCommand⟩
    xi_BadCommand := xi_BadCommand
    xt_BadCommand := xt_BadCommand
    xf_BadCommand := ⟨xga_BadCommand, xgg_BadCommand, xb_BadCommand, xhd_BadCommand⟩
    xn_BadCommand_word := xn_BadCommand_word
    xs_BadText := ⟨⟨⟨_, _, _, _, _, _, _, _, _, _, _, _, _, _, _, xl_BadText, rf_xve_BadText⟩, xsa_BadText, xb_BadText, xty_BadText, xkp_BadText⟩, ⟨_, _, _, _, _, _, xcd_BadText, rf_xfl_BadText, de_xfe_BadText⟩, ⟨_, _, _, xce_BadText⟩, sup_mk xl_BadText xl_HeadError rf_xbm_BadText xfi, xm_BadText, xopq, xv_BadText, de_top⟩
    xo_BadText := ⟨⟨_, _, _, _, _, _, _, _, _, _, _, _, _, _, _, xl_BadText, rf_xve_BadText⟩, xsa_BadText, xb_BadText, xty_BadText, xkp_BadText⟩
    xi_BadText := xi_BadText
    xt_BadText := xt_BadText
    xf_BadText := ⟨xga_BadText, xgg_BadText, xb_BadText, xhd_BadText⟩
    xn_BadText_line := xn_BadText_line
    xn_BadText_word := xn_BadText_word
    xs_NoStep := ⟨⟨⟨_, _, _, _, _, _, _, _, _, _, _, _, _, _, _, xl_NoStep, rf_xve_NoStep⟩, xsa_NoStep, xb_NoStep, xty_NoStep, xkp_NoStep⟩, ⟨_, _, _, _, _, _, xcd_NoStep, rf_xfl_NoStep, de_xfe_NoStep⟩, ⟨_, _, _, xce_NoStep⟩, sup_mk xl_NoStep xl_HeadError rf_xbm_NoStep xfi, xm_NoStep, xopq, xv_NoStep, de_top⟩
    xo_NoStep := ⟨⟨_, _, _, _, _, _, _, _, _, _, _, _, _, _, _, xl_NoStep, rf_xve_NoStep⟩, xsa_NoStep, xb_NoStep, xty_NoStep, xkp_NoStep⟩
    xi_NoStep := xi_NoStep
    xt_NoStep := xt_NoStep
    xf_NoStep := ⟨xga_NoStep, xgg_NoStep, xb_NoStep, xhd_NoStep⟩
    xn_NoStep_at := xn_NoStep_at
    xn_NoStep_state := xn_NoStep_state
    xs_TooMany := ⟨⟨⟨_, _, _, _, _, _, _, _, _, _, _, _, _, _, _, xl_TooMany, rf_xve_TooMany⟩, xsa_TooMany, xb_TooMany, xty_TooMany, xkp_TooMany⟩, ⟨_, _, _, _, _, _, xcd_TooMany, rf_xfl_TooMany, de_xfe_TooMany⟩, ⟨_, _, _, xce_TooMany⟩, sup_mk xl_TooMany xl_HeadError rf_xbm_TooMany xfi, xm_TooMany, xopq, xv_TooMany, de_top⟩
    xo_TooMany := ⟨⟨_, _, _, _, _, _, _, _, _, _, _, _, _, _, _, xl_TooMany, rf_xve_TooMany⟩, xsa_TooMany, xb_TooMany, xty_TooMany, xkp_TooMany⟩
    xi_TooMany := xi_TooMany
    xt_TooMany := xt_TooMany
    xf_TooMany := ⟨xga_TooMany, xgg_TooMany, xb_TooMany, xhd_TooMany⟩
    xn_TooMany_what := xn_TooMany_what
    xn_TooMany_most := xn_TooMany_most
    xs_Nothing := ⟨⟨⟨_, _, _, _, _, _, _, _, _, _, _, _, _, _, _, xl_Nothing, rf_xve_Nothing⟩, xsa_Nothing, xb_Nothing, xty_Nothing, xkp_Nothing⟩, ⟨_, _, _, _, _, _, xcd_Nothing, rf_xfl_Nothing, de_xfe_Nothing⟩, ⟨_, _, _, xce_Nothing⟩, sup_mk xl_Nothing xl_HeadError rf_xbm_Nothing xfi, xm_Nothing, xopq, xv_Nothing, de_top⟩
    xo_Nothing := ⟨⟨_, _, _, _, _, _, _, _, _, _, _, _, _, _, _, xl_Nothing, rf_xve_Nothing⟩, xsa_Nothing, xb_Nothing, xty_Nothing, xkp_Nothing⟩
    xi_Nothing := xi_Nothing
    xt_Nothing := xt_Nothing
    xf_Nothing := ⟨xga_Nothing, xgg_Nothing, xb_Nothing, xhd_Nothing⟩
    b_ArithmeticError := PySem.W.mg_none_of X G zb_ArithmeticError
    b_LookupError := PySem.W.mg_none_of X G zb_LookupError
    b_TypeError := PySem.W.mg_none_of X G zb_TypeError
    b_ValueError := PySem.W.mg_none_of X G zb_ValueError
    b_abs := PySem.W.mg_none_of X G zb_abs
    b_int := PySem.W.mg_none_of X G zb_int
    b_isinstance := PySem.W.mg_none_of X G zb_isinstance
    b_len := PySem.W.mg_none_of X G zb_len
    b_list := PySem.W.mg_none_of X G zb_list
    b_range := PySem.W.mg_none_of X G zb_range
    b_repr := PySem.W.mg_none_of X G zb_repr
    F_BadName_init := ⟨⟨_, _, _, _, _, _, _, _, rfl, l_BadName_init, c_BadName_init⟩⟩
    B_BadName_init := B_BadName_init
    F_BadLetter_init := ⟨⟨_, _, _, _, _, _, _, _, rfl, l_BadLetter_init, c_BadLetter_init⟩⟩
    B_BadLetter_init := B_BadLetter_init
    F_BadAnswer_init := ⟨⟨_, _, _, _, _, _, _, _, rfl, l_BadAnswer_init, c_BadAnswer_init⟩⟩
    B_BadAnswer_init := B_BadAnswer_init
    F_BadNumber_init := ⟨⟨_, _, _, _, _, _, _, _, rfl, l_BadNumber_init, c_BadNumber_init⟩⟩
    B_BadNumber_init := B_BadNumber_init
    F_BadWord_init := ⟨⟨_, _, _, _, _, _, _, _, rfl, l_BadWord_init, c_BadWord_init⟩⟩
    B_BadWord_init := B_BadWord_init
    F_NoState_init := ⟨⟨_, _, _, _, _, _, _, _, rfl, l_NoState_init, c_NoState_init⟩⟩
    B_NoState_init := B_NoState_init
    F_NoCell_init := ⟨⟨_, _, _, _, _, _, _, _, rfl, l_NoCell_init, c_NoCell_init⟩⟩
    B_NoCell_init := B_NoCell_init
    F_NoText_init := ⟨⟨_, _, _, _, _, _, _, _, rfl, l_NoText_init, c_NoText_init⟩⟩
    B_NoText_init := B_NoText_init
    F_Taken_init := ⟨⟨_, _, _, _, _, _, _, _, rfl, l_Taken_init, c_Taken_init⟩⟩
    B_Taken_init := B_Taken_init
    F_BadConverter_init := ⟨⟨_, _, _, _, _, _, _, _, rfl, l_BadConverter_init, c_BadConverter_init⟩⟩
    B_BadConverter_init := B_BadConverter_init
    F_BadGrowth_init := ⟨⟨_, _, _, _, _, _, _, _, rfl, l_BadGrowth_init, c_BadGrowth_init⟩⟩
    B_BadGrowth_init := B_BadGrowth_init
    F_BadPaper_init := ⟨⟨_, _, _, _, _, _, _, _, rfl, l_BadPaper_init, c_BadPaper_init⟩⟩
    B_BadPaper_init := B_BadPaper_init
    F_BadArray_init := ⟨⟨_, _, _, _, _, _, _, _, rfl, l_BadArray_init, c_BadArray_init⟩⟩
    B_BadArray_init := B_BadArray_init
    F_BadDeed_init := ⟨⟨_, _, _, _, _, _, _, _, rfl, l_BadDeed_init, c_BadDeed_init⟩⟩
    B_BadDeed_init := B_BadDeed_init
    F_BadLog_init := ⟨⟨_, _, _, _, _, _, _, _, rfl, l_BadLog_init, c_BadLog_init⟩⟩
    B_BadLog_init := B_BadLog_init
    F_NoTail_init := ⟨⟨_, _, _, _, _, _, _, _, rfl, l_NoTail_init, c_NoTail_init⟩⟩
    B_NoTail_init := B_NoTail_init
    F_RunOver_init := ⟨⟨_, _, _, _, _, _, _, _, rfl, l_RunOver_init, c_RunOver_init⟩⟩
    B_RunOver_init := B_RunOver_init
    F_NoRoom_init := ⟨⟨_, _, _, _, _, _, _, _, rfl, l_NoRoom_init, c_NoRoom_init⟩⟩
    B_NoRoom_init := B_NoRoom_init
    F_BadCommand_init := ⟨⟨_, _, _, _, _, _, _, _, rfl, l_BadCommand_init, c_BadCommand_init⟩⟩
    B_BadCommand_init := B_BadCommand_init
    F_BadText_init := ⟨⟨_, _, _, _, _, _, _, _, rfl, l_BadText_init, c_BadText_init⟩⟩
    B_BadText_init := B_BadText_init
    F_NoStep_init := ⟨⟨_, _, _, _, _, _, _, _, rfl, l_NoStep_init, c_NoStep_init⟩⟩
    B_NoStep_init := B_NoStep_init
    F_TooMany_init := ⟨⟨_, _, _, _, _, _, _, _, rfl, l_TooMany_init, c_TooMany_init⟩⟩
    B_TooMany_init := B_TooMany_init
    F_Nothing_init := ⟨⟨_, _, _, _, _, _, _, _, rfl, l_Nothing_init, c_Nothing_init⟩⟩
    B_Nothing_init := B_Nothing_init
    g_law_pen := PySem.W.mg_of X G a_law_pen
    F_law_pen := F_law_pen
    B_law_pen := B_law_pen
    g_law_draw := PySem.W.mg_of X G a_law_draw
    F_law_draw := F_law_draw
    B_law_draw := B_law_draw
    g_law_pick := PySem.W.mg_of X G a_law_pick
    F_law_pick := F_law_pick
    B_law_pick := B_law_pick
    g_law_made := PySem.W.mg_of X G a_law_made
    F_law_made := F_law_made
    B_law_made := B_law_made
    g_law_fields := PySem.W.mg_of X G a_law_fields
    F_law_fields := F_law_fields
    B_law_fields := B_law_fields
    F_law := F_law
    KW_BadAnswer_init_value := ⟨_, funx_kb (ps := ["self", "value"]) 1 ["value"] (fun us ws => us ++ ((ws.drop 0).take 1)) (fun r1 r2 => r1.append (((r2.drop 0).take 1))) (fun us ws h1 h2 => match us, ws, h1, h2 with | [_], [_], _, _ => rfl)⟩
    KW_BadArray_init_part := ⟨_, funx_kb (ps := ["self", "part"]) 1 ["part"] (fun us ws => us ++ ((ws.drop 0).take 1)) (fun r1 r2 => r1.append (((r2.drop 0).take 1))) (fun us ws h1 h2 => match us, ws, h1, h2 with | [_], [_], _, _ => rfl)⟩
    KW_BadCommand_init_word := ⟨_, funx_kb (ps := ["self", "word"]) 1 ["word"] (fun us ws => us ++ ((ws.drop 0).take 1)) (fun r1 r2 => r1.append (((r2.drop 0).take 1))) (fun us ws h1 h2 => match us, ws, h1, h2 with | [_], [_], _, _ => rfl)⟩
    KW_BadConverter_init_part := ⟨_, funx_kb (ps := ["self", "part"]) 1 ["part"] (fun us ws => us ++ ((ws.drop 0).take 1)) (fun r1 r2 => r1.append (((r2.drop 0).take 1))) (fun us ws h1 h2 => match us, ws, h1, h2 with | [_], [_], _, _ => rfl)⟩
    KW_BadDeed_init_part := ⟨_, funx_kb (ps := ["self", "part"]) 1 ["part"] (fun us ws => us ++ ((ws.drop 0).take 1)) (fun r1 r2 => r1.append (((r2.drop 0).take 1))) (fun us ws h1 h2 => match us, ws, h1, h2 with | [_], [_], _, _ => rfl)⟩
    KW_BadGrowth_init_part := ⟨_, funx_kb (ps := ["self", "part"]) 1 ["part"] (fun us ws => us ++ ((ws.drop 0).take 1)) (fun r1 r2 => r1.append (((r2.drop 0).take 1))) (fun us ws h1 h2 => match us, ws, h1, h2 with | [_], [_], _, _ => rfl)⟩
    KW_BadLetter_init_value := ⟨_, funx_kb (ps := ["self", "value"]) 1 ["value"] (fun us ws => us ++ ((ws.drop 0).take 1)) (fun r1 r2 => r1.append (((r2.drop 0).take 1))) (fun us ws h1 h2 => match us, ws, h1, h2 with | [_], [_], _, _ => rfl)⟩
    KW_BadLog_init_at := ⟨_, funx_kb (ps := ["self", "at"]) 1 ["at"] (fun us ws => us ++ ((ws.drop 0).take 1)) (fun r1 r2 => r1.append (((r2.drop 0).take 1))) (fun us ws h1 h2 => match us, ws, h1, h2 with | [_], [_], _, _ => rfl)⟩
    KW_BadName_init_value := ⟨_, funx_kb (ps := ["self", "value"]) 1 ["value"] (fun us ws => us ++ ((ws.drop 0).take 1)) (fun r1 r2 => r1.append (((r2.drop 0).take 1))) (fun us ws h1 h2 => match us, ws, h1, h2 with | [_], [_], _, _ => rfl)⟩
    KW_BadNumber_init_value := ⟨_, funx_kb (ps := ["self", "value"]) 1 ["value"] (fun us ws => us ++ ((ws.drop 0).take 1)) (fun r1 r2 => r1.append (((r2.drop 0).take 1))) (fun us ws h1 h2 => match us, ws, h1, h2 with | [_], [_], _, _ => rfl)⟩
    KW_BadPaper_init_part := ⟨_, funx_kb (ps := ["self", "part"]) 1 ["part"] (fun us ws => us ++ ((ws.drop 0).take 1)) (fun r1 r2 => r1.append (((r2.drop 0).take 1))) (fun us ws h1 h2 => match us, ws, h1, h2 with | [_], [_], _, _ => rfl)⟩
    KW_BadText_init_word_line := ⟨_, funx_kb (ps := ["self", "line", "word"]) 1 ["word", "line"] (fun us ws => us ++ ((ws.drop 1).take 1 ++ ((ws.drop 0).take 1))) (fun r1 r2 => r1.append ((((r2.drop 1).take 1).append ((r2.drop 0).take 1)))) (fun us ws h1 h2 => match us, ws, h1, h2 with | [_], [_, _], _, _ => rfl)⟩
    KW_BadWord_init_value := ⟨_, funx_kb (ps := ["self", "value"]) 1 ["value"] (fun us ws => us ++ ((ws.drop 0).take 1)) (fun r1 r2 => r1.append (((r2.drop 0).take 1))) (fun us ws h1 h2 => match us, ws, h1, h2 with | [_], [_], _, _ => rfl)⟩
    KW_NoCell_init_value := ⟨_, funx_kb (ps := ["self", "value"]) 1 ["value"] (fun us ws => us ++ ((ws.drop 0).take 1)) (fun r1 r2 => r1.append (((r2.drop 0).take 1))) (fun us ws h1 h2 => match us, ws, h1, h2 with | [_], [_], _, _ => rfl)⟩
    KW_NoRoom_init_cell := ⟨_, funx_kb (ps := ["self", "cell"]) 1 ["cell"] (fun us ws => us ++ ((ws.drop 0).take 1)) (fun r1 r2 => r1.append (((r2.drop 0).take 1))) (fun us ws h1 h2 => match us, ws, h1, h2 with | [_], [_], _, _ => rfl)⟩
    KW_NoState_init_value := ⟨_, funx_kb (ps := ["self", "value"]) 1 ["value"] (fun us ws => us ++ ((ws.drop 0).take 1)) (fun r1 r2 => r1.append (((r2.drop 0).take 1))) (fun us ws h1 h2 => match us, ws, h1, h2 with | [_], [_], _, _ => rfl)⟩
    KW_NoStep_init_state_at := ⟨_, funx_kb (ps := ["self", "at", "state"]) 1 ["state", "at"] (fun us ws => us ++ ((ws.drop 1).take 1 ++ ((ws.drop 0).take 1))) (fun r1 r2 => r1.append ((((r2.drop 1).take 1).append ((r2.drop 0).take 1)))) (fun us ws h1 h2 => match us, ws, h1, h2 with | [_], [_, _], _, _ => rfl)⟩
    KW_NoTail_init_state := ⟨_, funx_kb (ps := ["self", "state"]) 1 ["state"] (fun us ws => us ++ ((ws.drop 0).take 1)) (fun r1 r2 => r1.append (((r2.drop 0).take 1))) (fun us ws h1 h2 => match us, ws, h1, h2 with | [_], [_], _, _ => rfl)⟩
    KW_NoText_init_value := ⟨_, funx_kb (ps := ["self", "value"]) 1 ["value"] (fun us ws => us ++ ((ws.drop 0).take 1)) (fun r1 r2 => r1.append (((r2.drop 0).take 1))) (fun us ws h1 h2 => match us, ws, h1, h2 with | [_], [_], _, _ => rfl)⟩
    KW_RunOver_init_cell := ⟨_, funx_kb (ps := ["self", "cell"]) 1 ["cell"] (fun us ws => us ++ ((ws.drop 0).take 1)) (fun r1 r2 => r1.append (((r2.drop 0).take 1))) (fun us ws h1 h2 => match us, ws, h1, h2 with | [_], [_], _, _ => rfl)⟩
    KW_Taken_init_value := ⟨_, funx_kb (ps := ["self", "value"]) 1 ["value"] (fun us ws => us ++ ((ws.drop 0).take 1)) (fun r1 r2 => r1.append (((r2.drop 0).take 1))) (fun us ws h1 h2 => match us, ws, h1, h2 with | [_], [_], _, _ => rfl)⟩
    KW_TooMany_init_most_what := ⟨_, funx_kb (ps := ["self", "what", "most"]) 1 ["most", "what"] (fun us ws => us ++ ((ws.drop 1).take 1 ++ ((ws.drop 0).take 1))) (fun r1 r2 => r1.append ((((r2.drop 1).take 1).append ((r2.drop 0).take 1)))) (fun us ws h1 h2 => match us, ws, h1, h2 with | [_], [_, _], _, _ => rfl)⟩
  }
  exact ⟨_, fun s v => .of_eq rfl, fun base _ _ => ok_all T⟩

theorem walk {l : PySem.W.OpenLaw} {q : Program} {loose : List Str} {XP : (Str → Option Value) → Heap → Prop} {YP : World → Heap → Prop} {d : DefRec} {K : Params → PySem.W.Frag} (hn : l.most = some 63) (hdf : d.params.defaults = [])
    (hY : ∀ (w : World) (h : Heap), YP w h → (K w.params).In h)
    (F : ∀ (w : World) (mg : Str → Option Value) (fa : Addr) (h : Heap), (K w.params).In h → h.Ns mainGlobals mg → mg d.name = some (.ref fa) →
      ∃ fd : FuncData, (∀ (s : Shared) (u : Value), BindsTo s fd ⟨[u], []⟩ [("_law_script", u)]) ∧ ∀ base : Heap, (K w.params).In base → base.Ns mainGlobals mg → FnG l.prog w (K w.params) mg base CX0 5 fa fd ["_law_script"] (spLaw (K w.params))) :
    PySem.W.WalkO q loose XP YP l.row.toRowW d [] (fun f vs => PySem.call f vs) :=
  walkG (n := 63) (k := 5) (x := "_law_script") (CX := fun _ => CX0) (sp := fun w => spLaw (K w.params)) hn (by decide) hdf ⟨rfl, by decide, by decide⟩ hY F (fun w H a ns hl hS hH => ⟨⟨ns, hS⟩, fun _ => rfl⟩) fun _ _ _ _ _ z => z

end HG

namespace HGH
open PySem
def ns0 : List PySem.Str := ["HeadError", "BadName", "BadLetter", "BadText", "BadAnswer", "BadConverter", "BadGrowth", "BadNumber", "BadPaper", "BadWord", "BadLog", "BadArray"]
def ns1 : List PySem.Str := ["BadDeed", "NoState", "NoStep", "NoTail", "NoCell", "NoText", "RunOver", "NoRoom", "Nothing", "Taken", "TooMany", "BadCommand"]
def ns2 : List PySem.Str := ["_law_pen", "_law_draw", "_law_pick", "_law_made", "_law_fields"]
def names : List PySem.Str := ns0 ++ ns1 ++ ns2
end HGH
open PySem PySem.W PySem.Calls PyProof.Rows
local macro_rules | `(tactic| o_head ($f $k $a $e)) => `(tactic| refine HandSHeadRun.head_any (r := (OpenLaw.row PySem.Challenge.rw_headgap_k01_errors_made)) (q := view ((OpenLaw.row PySem.Challenge.rw_headgap_k01_errors_made)).prog [31]) (H := $f $k $a $e) (ob := fun s => List.map (HandSHeadRun.getT s) $a) (M := 14000) (loose := HGH.names) (d := HandSHeadRun.topDef ((OpenLaw.row PySem.Challenge.rw_headgap_k01_errors_made)).prog 31) (kwd := []) (fun s => List.map_congr_left fun a _ => HandSHeadRun.getT_eq s a) (by kernel_rfl) (fun s => by kernel_rfl) ?_ (by kernel_rfl) (by kernel_rfl) (by kernel_rfl) (by rfl) (by first | assumption | decide +kernel) (by decide +kernel) ⟨rfl, rfl, rfl, rfl, rfl, by decide +kernel⟩ ?_ ?_)
set_option maxRecDepth 100000 in
set_option maxHeartbeats 0 in
theorem PySem.Challenge.cw_headgap_k01_errors_made_holds : PySem.Challenge.rw_headgap_k01_errors_made.Holds := by
  w_on; o_law; k_head; rotate_left; (focus w_witness2); rotate_left; (focus (intro w os; kernel_rfl))
  k_fill
  refine HG.walk (l := PySem.Challenge.rw_headgap_k01_errors_made) rfl rfl (fun w h Y => PySem.W.kIn_of Y) ?F
  case F =>
    intro w mg fa h KX G hmg
    refine' HG.all_mk KX G hmg ?l_BadName_init ?c_BadName_init ?l_BadLetter_init ?c_BadLetter_init ?l_BadAnswer_init ?c_BadAnswer_init ?l_BadNumber_init ?c_BadNumber_init ?l_BadWord_init ?c_BadWord_init ?l_NoState_init ?c_NoState_init ?l_NoCell_init ?c_NoCell_init ?l_NoText_init ?c_NoText_init ?l_Taken_init ?c_Taken_init ?l_BadConverter_init ?c_BadConverter_init ?l_BadGrowth_init ?c_BadGrowth_init ?l_BadPaper_init ?c_BadPaper_init ?l_BadArray_init ?c_BadArray_init ?l_BadDeed_init ?c_BadDeed_init ?l_BadLog_init ?c_BadLog_init ?l_NoTail_init ?c_NoTail_init ?l_RunOver_init ?c_RunOver_init ?l_NoRoom_init ?c_NoRoom_init ?l_BadCommand_init ?c_BadCommand_init ?l_BadText_init ?c_BadText_init ?l_NoStep_init ?c_NoStep_init ?l_TooMany_init ?c_TooMany_init ?l_Nothing_init ?c_Nothing_init ?a_law_pen ?l_law_pen ?c_law_pen ?k_law_pen ?a_law_draw ?l_law_draw ?c_law_draw ?k_law_draw ?a_law_pick ?l_law_pick ?c_law_pick ?k_law_pick ?a_law_made ?l_law_made ?c_law_made ?k_law_made ?a_law_fields ?l_law_fields ?c_law_fields ?k_law_fields ?a_law ?l_law ?c_law ?k_law ?aC_BadName ?xl_BadName ?xb_BadName ?xty_BadName ?xhd_BadName ?aC_BadLetter ?xl_BadLetter ?xb_BadLetter ?xty_BadLetter ?xhd_BadLetter ?aC_BadAnswer ?xl_BadAnswer ?xb_BadAnswer ?xty_BadAnswer ?xhd_BadAnswer ?aC_BadNumber ?xl_BadNumber ?xb_BadNumber ?xty_BadNumber ?xhd_BadNumber ?aC_BadWord ?xl_BadWord ?xb_BadWord ?xty_BadWord ?xhd_BadWord ?aC_NoState ?xl_NoState ?xb_NoState ?xty_NoState ?xhd_NoState ?aC_NoCell ?xl_NoCell ?xb_NoCell ?xty_NoCell ?xhd_NoCell ?aC_NoText ?xl_NoText ?xb_NoText ?xty_NoText ?xhd_NoText ?aC_Taken ?xl_Taken ?xb_Taken ?xty_Taken ?xhd_Taken ?aC_BadConverter ?xl_BadConverter ?xb_BadConverter ?xty_BadConverter ?xhd_BadConverter ?aC_BadGrowth ?xl_BadGrowth ?xb_BadGrowth ?xty_BadGrowth ?xhd_BadGrowth ?aC_BadPaper ?xl_BadPaper ?xb_BadPaper ?xty_BadPaper ?xhd_BadPaper ?aC_BadArray ?xl_BadArray ?xb_BadArray ?xty_BadArray ?xhd_BadArray ?aC_BadDeed ?xl_BadDeed ?xb_BadDeed ?xty_BadDeed ?xhd_BadDeed ?aC_BadLog ?xl_BadLog ?xb_BadLog ?xty_BadLog ?xhd_BadLog ?aC_NoTail ?xl_NoTail ?xb_NoTail ?xty_NoTail ?xhd_NoTail ?aC_RunOver ?xl_RunOver ?xb_RunOver ?xty_RunOver ?xhd_RunOver ?aC_NoRoom ?xl_NoRoom ?xb_NoRoom ?xty_NoRoom ?xhd_NoRoom ?aC_BadCommand ?xl_BadCommand ?xb_BadCommand ?xty_BadCommand ?xhd_BadCommand ?aC_BadText ?xl_BadText ?xb_BadText ?xty_BadText ?xhd_BadText ?aC_NoStep ?xl_NoStep ?xb_NoStep ?xty_NoStep ?xhd_NoStep ?aC_TooMany ?xl_TooMany ?xb_TooMany ?xty_TooMany ?xhd_TooMany ?aC_Nothing ?xl_Nothing ?xb_Nothing ?xty_Nothing ?xhd_Nothing ?aC_HeadError ?xl_HeadError ?xty_HeadError ?xfi ?xopq ?de_top ?zsup ?xhn ?xht ?rf_xve_BadName ?rf_xbm_BadName ?xsa_BadName ?xkp_BadName ?xcd_BadName ?rf_xfl_BadName ?de_xfe_BadName ?xce_BadName ?xm_BadName ?xv_BadName ?xi_BadName ?xt_BadName ?xga_BadName ?xgg_BadName ?xha_BadName ?xmo_BadName ?xn_BadName_value ?rf_xve_BadLetter ?rf_xbm_BadLetter ?xsa_BadLetter ?xkp_BadLetter ?xcd_BadLetter ?rf_xfl_BadLetter ?de_xfe_BadLetter ?xce_BadLetter ?xm_BadLetter ?xv_BadLetter ?xi_BadLetter ?xt_BadLetter ?xga_BadLetter ?xgg_BadLetter ?xha_BadLetter ?xmo_BadLetter ?xn_BadLetter_value ?rf_xve_BadAnswer ?rf_xbm_BadAnswer ?xsa_BadAnswer ?xkp_BadAnswer ?xcd_BadAnswer ?rf_xfl_BadAnswer ?de_xfe_BadAnswer ?xce_BadAnswer ?xm_BadAnswer ?xv_BadAnswer ?xi_BadAnswer ?xt_BadAnswer ?xga_BadAnswer ?xgg_BadAnswer ?xha_BadAnswer ?xmo_BadAnswer ?xn_BadAnswer_value ?rf_xve_BadNumber ?rf_xbm_BadNumber ?xsa_BadNumber ?xkp_BadNumber ?xcd_BadNumber ?rf_xfl_BadNumber ?de_xfe_BadNumber ?xce_BadNumber ?xm_BadNumber ?xv_BadNumber ?xi_BadNumber ?xt_BadNumber ?xga_BadNumber ?xgg_BadNumber ?xha_BadNumber ?xmo_BadNumber ?xn_BadNumber_value ?rf_xve_BadWord ?rf_xbm_BadWord ?xsa_BadWord ?xkp_BadWord ?xcd_BadWord ?rf_xfl_BadWord ?de_xfe_BadWord ?xce_BadWord ?xm_BadWord ?xv_BadWord ?xi_BadWord ?xt_BadWord ?xga_BadWord ?xgg_BadWord ?xha_BadWord ?xmo_BadWord ?xn_BadWord_value ?rf_xve_NoState ?rf_xbm_NoState ?xsa_NoState ?xkp_NoState ?xcd_NoState ?rf_xfl_NoState ?de_xfe_NoState ?xce_NoState ?xm_NoState ?xv_NoState ?xi_NoState ?xt_NoState ?xga_NoState ?xgg_NoState ?xha_NoState ?xmo_NoState ?xn_NoState_value ?rf_xve_NoCell ?rf_xbm_NoCell ?xsa_NoCell ?xkp_NoCell ?xcd_NoCell ?rf_xfl_NoCell ?de_xfe_NoCell ?xce_NoCell ?xm_NoCell ?xv_NoCell ?xi_NoCell ?xt_NoCell ?xga_NoCell ?xgg_NoCell ?xha_NoCell ?xmo_NoCell ?xn_NoCell_value ?rf_xve_NoText ?rf_xbm_NoText ?xsa_NoText ?xkp_NoText ?xcd_NoText ?rf_xfl_NoText ?de_xfe_NoText ?xce_NoText ?xm_NoText ?xv_NoText ?xi_NoText ?xt_NoText ?xga_NoText ?xgg_NoText ?xha_NoText ?xmo_NoText ?xn_NoText_value ?rf_xve_Taken ?rf_xbm_Taken ?xsa_Taken ?xkp_Taken ?xcd_Taken ?rf_xfl_Taken ?de_xfe_Taken ?xce_Taken ?xm_Taken ?xv_Taken ?xi_Taken ?xt_Taken ?xga_Taken ?xgg_Taken ?xha_Taken ?xmo_Taken ?xn_Taken_value ?rf_xve_BadConverter ?rf_xbm_BadConverter ?xsa_BadConverter ?xkp_BadConverter ?xcd_BadConverter ?rf_xfl_BadConverter ?de_xfe_BadConverter ?xce_BadConverter ?xm_BadConverter ?xv_BadConverter ?xi_BadConverter ?xt_BadConverter ?xga_BadConverter ?xgg_BadConverter ?xha_BadConverter ?xmo_BadConverter ?xn_BadConverter_part ?rf_xve_BadGrowth ?rf_xbm_BadGrowth ?xsa_BadGrowth ?xkp_BadGrowth ?xcd_BadGrowth ?rf_xfl_BadGrowth ?de_xfe_BadGrowth ?xce_BadGrowth ?xm_BadGrowth ?xv_BadGrowth ?xi_BadGrowth ?xt_BadGrowth ?xga_BadGrowth ?xgg_BadGrowth ?xha_BadGrowth ?xmo_BadGrowth ?xn_BadGrowth_part ?rf_xve_BadPaper ?rf_xbm_BadPaper ?xsa_BadPaper ?xkp_BadPaper ?xcd_BadPaper ?rf_xfl_BadPaper ?de_xfe_BadPaper ?xce_BadPaper ?xm_BadPaper ?xv_BadPaper ?xi_BadPaper ?xt_BadPaper ?xga_BadPaper ?xgg_BadPaper ?xha_BadPaper ?xmo_BadPaper ?xn_BadPaper_part ?rf_xve_BadArray ?rf_xbm_BadArray ?xsa_BadArray ?xkp_BadArray ?xcd_BadArray ?rf_xfl_BadArray ?de_xfe_BadArray ?xce_BadArray ?xm_BadArray ?xv_BadArray ?xi_BadArray ?xt_BadArray ?xga_BadArray ?xgg_BadArray ?xha_BadArray ?xmo_BadArray ?xn_BadArray_part ?rf_xve_BadDeed ?rf_xbm_BadDeed ?xsa_BadDeed ?xkp_BadDeed ?xcd_BadDeed ?rf_xfl_BadDeed ?de_xfe_BadDeed ?xce_BadDeed ?xm_BadDeed ?xv_BadDeed ?xi_BadDeed ?xt_BadDeed ?xga_BadDeed ?xgg_BadDeed ?xha_BadDeed ?xmo_BadDeed ?xn_BadDeed_part ?rf_xve_BadLog ?rf_xbm_BadLog ?xsa_BadLog ?xkp_BadLog ?xcd_BadLog ?rf_xfl_BadLog ?de_xfe_BadLog ?xce_BadLog ?xm_BadLog ?xv_BadLog ?xi_BadLog ?xt_BadLog ?xga_BadLog ?xgg_BadLog ?xha_BadLog ?xmo_BadLog ?xn_BadLog_at ?rf_xve_NoTail ?rf_xbm_NoTail ?xsa_NoTail ?xkp_NoTail ?xcd_NoTail ?rf_xfl_NoTail ?de_xfe_NoTail ?xce_NoTail ?xm_NoTail ?xv_NoTail ?xi_NoTail ?xt_NoTail ?xga_NoTail ?xgg_NoTail ?xha_NoTail ?xmo_NoTail ?xn_NoTail_state ?rf_xve_RunOver ?rf_xbm_RunOver ?xsa_RunOver ?xkp_RunOver ?xcd_RunOver ?rf_xfl_RunOver ?de_xfe_RunOver ?xce_RunOver ?xm_RunOver ?xv_RunOver ?xi_RunOver ?xt_RunOver ?xga_RunOver ?xgg_RunOver ?xha_RunOver ?xmo_RunOver ?xn_RunOver_cell ?rf_xve_NoRoom ?rf_xbm_NoRoom ?xsa_NoRoom ?xkp_NoRoom ?xcd_NoRoom ?rf_xfl_NoRoom ?de_xfe_NoRoom ?xce_NoRoom ?xm_NoRoom ?xv_NoRoom ?xi_NoRoom ?xt_NoRoom ?xga_NoRoom ?xgg_NoRoom ?xha_NoRoom ?xmo_NoRoom ?xn_NoRoom_cell ?rf_xve_BadCommand ?rf_xbm_BadCommand ?xsa_BadCommand ?xkp_BadCommand ?xcd_BadCommand ?rf_xfl_BadCommand ?de_xfe_BadCommand ?xce_BadCommand ?xm_BadCommand ?xv_BadCommand ?xi_BadCommand ?xt_BadCommand ?xga_BadCommand ?xgg_BadCommand ?xha_BadCommand ?xmo_BadCommand ?xn_BadCommand_word ?rf_xve_BadText ?rf_xbm_BadText ?xsa_BadText ?xkp_BadText ?xcd_BadText ?rf_xfl_BadText ?de_xfe_BadText ?xce_BadText ?xm_BadText ?xv_BadText ?xi_BadText ?xt_BadText ?xga_BadText ?xgg_BadText ?xha_BadText ?xmo_BadText ?xn_BadText_line ?xn_BadText_word ?rf_xve_NoStep ?rf_xbm_NoStep ?xsa_NoStep ?xkp_NoStep ?xcd_NoStep ?rf_xfl_NoStep ?de_xfe_NoStep ?xce_NoStep ?xm_NoStep ?xv_NoStep ?xi_NoStep ?xt_NoStep ?xga_NoStep ?xgg_NoStep ?xha_NoStep ?xmo_NoStep ?xn_NoStep_at ?xn_NoStep_state ?rf_xve_TooMany ?rf_xbm_TooMany ?xsa_TooMany ?xkp_TooMany ?xcd_TooMany ?rf_xfl_TooMany ?de_xfe_TooMany ?xce_TooMany ?xm_TooMany ?xv_TooMany ?xi_TooMany ?xt_TooMany ?xga_TooMany ?xgg_TooMany ?xha_TooMany ?xmo_TooMany ?xn_TooMany_what ?xn_TooMany_most ?rf_xve_Nothing ?rf_xbm_Nothing ?xsa_Nothing ?xkp_Nothing ?xcd_Nothing ?rf_xfl_Nothing ?de_xfe_Nothing ?xce_Nothing ?xm_Nothing ?xv_Nothing ?xi_Nothing ?xt_Nothing ?xga_Nothing ?xgg_Nothing ?xha_Nothing ?xmo_Nothing ?de_nd ?rf_xbmR ?zb_ArithmeticError ?zb_LookupError ?zb_TypeError ?zb_ValueError ?zb_abs ?zb_int ?zb_isinstance ?zb_len ?zb_list ?zb_range ?zb_repr
    (case aC_BadName => as_aux_lemma => k_is)
    (case aC_BadLetter => as_aux_lemma => k_is)
    (case aC_BadAnswer => as_aux_lemma => k_is)
    (case aC_BadNumber => as_aux_lemma => k_is)
    (case aC_BadWord => as_aux_lemma => k_is)
    (case aC_NoState => as_aux_lemma => k_is)
    (case aC_NoCell => as_aux_lemma => k_is)
    (case aC_NoText => as_aux_lemma => k_is)
    (case aC_Taken => as_aux_lemma => k_is)
    (case aC_BadConverter => as_aux_lemma => k_is)
    (case aC_BadGrowth => as_aux_lemma => k_is)
    (case aC_BadPaper => as_aux_lemma => k_is)
    (case aC_BadArray => as_aux_lemma => k_is)
    (case aC_BadDeed => as_aux_lemma => k_is)
    (case aC_BadLog => as_aux_lemma => k_is)
    (case aC_NoTail => as_aux_lemma => k_is)
    (case aC_RunOver => as_aux_lemma => k_is)
    (case aC_NoRoom => as_aux_lemma => k_is)
    (case aC_BadCommand => as_aux_lemma => k_is)
    (case aC_BadText => as_aux_lemma => k_is)
    (case aC_NoStep => as_aux_lemma => k_is)
    (case aC_TooMany => as_aux_lemma => k_is)
    (case aC_Nothing => as_aux_lemma => k_is)
    (case aC_HeadError => as_aux_lemma => k_is)
    (case xi_BadName => as_aux_lemma => k_is)
    (case xi_BadLetter => as_aux_lemma => k_is)
    (case xi_BadAnswer => as_aux_lemma => k_is)
    (case xi_BadNumber => as_aux_lemma => k_is)
    (case xi_BadWord => as_aux_lemma => k_is)
    (case xi_NoState => as_aux_lemma => k_is)
    (case xi_NoCell => as_aux_lemma => k_is)
    (case xi_NoText => as_aux_lemma => k_is)
    (case xi_Taken => as_aux_lemma => k_is)
    (case xi_BadConverter => as_aux_lemma => k_is)
    (case xi_BadGrowth => as_aux_lemma => k_is)
    (case xi_BadPaper => as_aux_lemma => k_is)
    (case xi_BadArray => as_aux_lemma => k_is)
    (case xi_BadDeed => as_aux_lemma => k_is)
    (case xi_BadLog => as_aux_lemma => k_is)
    (case xi_NoTail => as_aux_lemma => k_is)
    (case xi_RunOver => as_aux_lemma => k_is)
    (case xi_NoRoom => as_aux_lemma => k_is)
    (case xi_BadCommand => as_aux_lemma => k_is)
    (case xi_BadText => as_aux_lemma => k_is)
    (case xi_NoStep => as_aux_lemma => k_is)
    (case xi_TooMany => as_aux_lemma => k_is)
    (case xi_Nothing => as_aux_lemma => k_is)
    (case l_BadName_init => as_aux_lemma => k_is)
    (case c_BadName_init => as_aux_lemma => k_is)
    (case l_BadLetter_init => as_aux_lemma => k_is)
    (case c_BadLetter_init => as_aux_lemma => k_is)
    (case l_BadAnswer_init => as_aux_lemma => k_is)
    (case c_BadAnswer_init => as_aux_lemma => k_is)
    (case l_BadNumber_init => as_aux_lemma => k_is)
    (case c_BadNumber_init => as_aux_lemma => k_is)
    (case l_BadWord_init => as_aux_lemma => k_is)
    (case c_BadWord_init => as_aux_lemma => k_is)
    (case l_NoState_init => as_aux_lemma => k_is)
    (case c_NoState_init => as_aux_lemma => k_is)
    (case l_NoCell_init => as_aux_lemma => k_is)
    (case c_NoCell_init => as_aux_lemma => k_is)
    (case l_NoText_init => as_aux_lemma => k_is)
    (case c_NoText_init => as_aux_lemma => k_is)
    (case l_Taken_init => as_aux_lemma => k_is)
    (case c_Taken_init => as_aux_lemma => k_is)
    (case l_BadConverter_init => as_aux_lemma => k_is)
    (case c_BadConverter_init => as_aux_lemma => k_is)
    (case l_BadGrowth_init => as_aux_lemma => k_is)
    (case c_BadGrowth_init => as_aux_lemma => k_is)
    (case l_BadPaper_init => as_aux_lemma => k_is)
    (case c_BadPaper_init => as_aux_lemma => k_is)
    (case l_BadArray_init => as_aux_lemma => k_is)
    (case c_BadArray_init => as_aux_lemma => k_is)
    (case l_BadDeed_init => as_aux_lemma => k_is)
    (case c_BadDeed_init => as_aux_lemma => k_is)
    (case l_BadLog_init => as_aux_lemma => k_is)
    (case c_BadLog_init => as_aux_lemma => k_is)
    (case l_NoTail_init => as_aux_lemma => k_is)
    (case c_NoTail_init => as_aux_lemma => k_is)
    (case l_RunOver_init => as_aux_lemma => k_is)
    (case c_RunOver_init => as_aux_lemma => k_is)
    (case l_NoRoom_init => as_aux_lemma => k_is)
    (case c_NoRoom_init => as_aux_lemma => k_is)
    (case l_BadCommand_init => as_aux_lemma => k_is)
    (case c_BadCommand_init => as_aux_lemma => k_is)
    (case l_BadText_init => as_aux_lemma => k_is)
    (case c_BadText_init => as_aux_lemma => k_is)
    (case l_NoStep_init => as_aux_lemma => k_is)
    (case c_NoStep_init => as_aux_lemma => k_is)
    (case l_TooMany_init => as_aux_lemma => k_is)
    (case c_TooMany_init => as_aux_lemma => k_is)
    (case l_Nothing_init => as_aux_lemma => k_is)
    (case c_Nothing_init => as_aux_lemma => k_is)
    (case a_law_pen => as_aux_lemma => k_is)
    (case l_law_pen => as_aux_lemma => k_is)
    (case c_law_pen => as_aux_lemma => k_is)
    (case k_law_pen => as_aux_lemma => k_is)
    (case a_law_draw => as_aux_lemma => k_is)
    (case l_law_draw => as_aux_lemma => k_is)
    (case c_law_draw => as_aux_lemma => k_is)
    (case k_law_draw => as_aux_lemma => k_is)
    (case a_law_pick => as_aux_lemma => k_is)
    (case l_law_pick => as_aux_lemma => k_is)
    (case c_law_pick => as_aux_lemma => k_is)
    (case k_law_pick => as_aux_lemma => k_is)
    (case a_law_made => as_aux_lemma => k_is)
    (case l_law_made => as_aux_lemma => k_is)
    (case c_law_made => as_aux_lemma => k_is)
    (case k_law_made => as_aux_lemma => k_is)
    (case a_law_fields => as_aux_lemma => k_is)
    (case l_law_fields => as_aux_lemma => k_is)
    (case c_law_fields => as_aux_lemma => k_is)
    (case k_law_fields => as_aux_lemma => k_is)
    (case a_law => as_aux_lemma => k_is)
    (case l_law => as_aux_lemma => k_is)
    (case c_law => as_aux_lemma => k_is)
    (case k_law => as_aux_lemma => k_is)
    (case xl_BadName => as_aux_lemma => k_is)
    (case xb_BadName => as_aux_lemma => k_is)
    (case xty_BadName => as_aux_lemma => k_is)
    (case xhd_BadName => as_aux_lemma => k_is)
    (case xl_BadLetter => as_aux_lemma => k_is)
    (case xb_BadLetter => as_aux_lemma => k_is)
    (case xty_BadLetter => as_aux_lemma => k_is)
    (case xhd_BadLetter => as_aux_lemma => k_is)
    (case xl_BadAnswer => as_aux_lemma => k_is)
    (case xb_BadAnswer => as_aux_lemma => k_is)
    (case xty_BadAnswer => as_aux_lemma => k_is)
    (case xhd_BadAnswer => as_aux_lemma => k_is)
    (case xl_BadNumber => as_aux_lemma => k_is)
    (case xb_BadNumber => as_aux_lemma => k_is)
    (case xty_BadNumber => as_aux_lemma => k_is)
    (case xhd_BadNumber => as_aux_lemma => k_is)
    (case xl_BadWord => as_aux_lemma => k_is)
    (case xb_BadWord => as_aux_lemma => k_is)
    (case xty_BadWord => as_aux_lemma => k_is)
    (case xhd_BadWord => as_aux_lemma => k_is)
    (case xl_NoState => as_aux_lemma => k_is)
    (case xb_NoState => as_aux_lemma => k_is)
    (case xty_NoState => as_aux_lemma => k_is)
    (case xhd_NoState => as_aux_lemma => k_is)
    (case xl_NoCell => as_aux_lemma => k_is)
    (case xb_NoCell => as_aux_lemma => k_is)
    (case xty_NoCell => as_aux_lemma => k_is)
    (case xhd_NoCell => as_aux_lemma => k_is)
    (case xl_NoText => as_aux_lemma => k_is)
    (case xb_NoText => as_aux_lemma => k_is)
    (case xty_NoText => as_aux_lemma => k_is)
    (case xhd_NoText => as_aux_lemma => k_is)
    (case xl_Taken => as_aux_lemma => k_is)
    (case xb_Taken => as_aux_lemma => k_is)
    (case xty_Taken => as_aux_lemma => k_is)
    (case xhd_Taken => as_aux_lemma => k_is)
    (case xl_BadConverter => as_aux_lemma => k_is)
    (case xb_BadConverter => as_aux_lemma => k_is)
    (case xty_BadConverter => as_aux_lemma => k_is)
    (case xhd_BadConverter => as_aux_lemma => k_is)
    (case xl_BadGrowth => as_aux_lemma => k_is)
    (case xb_BadGrowth => as_aux_lemma => k_is)
    (case xty_BadGrowth => as_aux_lemma => k_is)
    (case xhd_BadGrowth => as_aux_lemma => k_is)
    (case xl_BadPaper => as_aux_lemma => k_is)
    (case xb_BadPaper => as_aux_lemma => k_is)
    (case xty_BadPaper => as_aux_lemma => k_is)
    (case xhd_BadPaper => as_aux_lemma => k_is)
    (case xl_BadArray => as_aux_lemma => k_is)
    (case xb_BadArray => as_aux_lemma => k_is)
    (case xty_BadArray => as_aux_lemma => k_is)
    (case xhd_BadArray => as_aux_lemma => k_is)
    (case xl_BadDeed => as_aux_lemma => k_is)
    (case xb_BadDeed => as_aux_lemma => k_is)
    (case xty_BadDeed => as_aux_lemma => k_is)
    (case xhd_BadDeed => as_aux_lemma => k_is)
    (case xl_BadLog => as_aux_lemma => k_is)
    (case xb_BadLog => as_aux_lemma => k_is)
    (case xty_BadLog => as_aux_lemma => k_is)
    (case xhd_BadLog => as_aux_lemma => k_is)
    (case xl_NoTail => as_aux_lemma => k_is)
    (case xb_NoTail => as_aux_lemma => k_is)
    (case xty_NoTail => as_aux_lemma => k_is)
    (case xhd_NoTail => as_aux_lemma => k_is)
    (case xl_RunOver => as_aux_lemma => k_is)
    (case xb_RunOver => as_aux_lemma => k_is)
    (case xty_RunOver => as_aux_lemma => k_is)
    (case xhd_RunOver => as_aux_lemma => k_is)
    (case xl_NoRoom => as_aux_lemma => k_is)
    (case xb_NoRoom => as_aux_lemma => k_is)
    (case xty_NoRoom => as_aux_lemma => k_is)
    (case xhd_NoRoom => as_aux_lemma => k_is)
    (case xl_BadCommand => as_aux_lemma => k_is)
    (case xb_BadCommand => as_aux_lemma => k_is)
    (case xty_BadCommand => as_aux_lemma => k_is)
    (case xhd_BadCommand => as_aux_lemma => k_is)
    (case xl_BadText => as_aux_lemma => k_is)
    (case xb_BadText => as_aux_lemma => k_is)
    (case xty_BadText => as_aux_lemma => k_is)
    (case xhd_BadText => as_aux_lemma => k_is)
    (case xl_NoStep => as_aux_lemma => k_is)
    (case xb_NoStep => as_aux_lemma => k_is)
    (case xty_NoStep => as_aux_lemma => k_is)
    (case xhd_NoStep => as_aux_lemma => k_is)
    (case xl_TooMany => as_aux_lemma => k_is)
    (case xb_TooMany => as_aux_lemma => k_is)
    (case xty_TooMany => as_aux_lemma => k_is)
    (case xhd_TooMany => as_aux_lemma => k_is)
    (case xl_Nothing => as_aux_lemma => k_is)
    (case xb_Nothing => as_aux_lemma => k_is)
    (case xty_Nothing => as_aux_lemma => k_is)
    (case xhd_Nothing => as_aux_lemma => k_is)
    (case xl_HeadError => as_aux_lemma => k_is)
    (case xty_HeadError => as_aux_lemma => k_is)
    (case xfi => as_aux_lemma => k_is)
    (case xopq => as_aux_lemma => k_is)
    (case de_top => decide +kernel)
    (case zsup => as_aux_lemma => k_is)
    (case xhn => as_aux_lemma => k_is)
    (case xht => as_aux_lemma => k_is)
    (case rf_xve_BadName => rfl)
    (case rf_xbm_BadName => rfl)
    (case xsa_BadName => as_aux_lemma => k_is)
    (case xkp_BadName => as_aux_lemma => k_is)
    (case xcd_BadName => as_aux_lemma => k_is)
    (case rf_xfl_BadName => rfl)
    (case de_xfe_BadName => decide +kernel)
    (case xce_BadName => as_aux_lemma => k_is)
    (case xm_BadName => as_aux_lemma => k_is)
    (case xv_BadName => as_aux_lemma => k_is)
    (case xt_BadName => as_aux_lemma => k_is)
    (case xga_BadName => as_aux_lemma => k_is)
    (case xgg_BadName => as_aux_lemma => k_is)
    (case xha_BadName => as_aux_lemma => k_is)
    (case xmo_BadName => as_aux_lemma => k_is)
    (case xn_BadName_value => as_aux_lemma => k_is)
    (case rf_xve_BadLetter => rfl)
    (case rf_xbm_BadLetter => rfl)
    (case xsa_BadLetter => as_aux_lemma => k_is)
    (case xkp_BadLetter => as_aux_lemma => k_is)
    (case xcd_BadLetter => as_aux_lemma => k_is)
    (case rf_xfl_BadLetter => rfl)
    (case de_xfe_BadLetter => decide +kernel)
    (case xce_BadLetter => as_aux_lemma => k_is)
    (case xm_BadLetter => as_aux_lemma => k_is)
    (case xv_BadLetter => as_aux_lemma => k_is)
    (case xt_BadLetter => as_aux_lemma => k_is)
    (case xga_BadLetter => as_aux_lemma => k_is)
    (case xgg_BadLetter => as_aux_lemma => k_is)
    (case xha_BadLetter => as_aux_lemma => k_is)
    (case xmo_BadLetter => as_aux_lemma => k_is)
    (case xn_BadLetter_value => as_aux_lemma => k_is)
    (case rf_xve_BadAnswer => rfl)
    (case rf_xbm_BadAnswer => rfl)
    (case xsa_BadAnswer => as_aux_lemma => k_is)
    (case xkp_BadAnswer => as_aux_lemma => k_is)
    (case xcd_BadAnswer => as_aux_lemma => k_is)
    (case rf_xfl_BadAnswer => rfl)
    (case de_xfe_BadAnswer => decide +kernel)
    (case xce_BadAnswer => as_aux_lemma => k_is)
    (case xm_BadAnswer => as_aux_lemma => k_is)
    (case xv_BadAnswer => as_aux_lemma => k_is)
    (case xt_BadAnswer => as_aux_lemma => k_is)
    (case xga_BadAnswer => as_aux_lemma => k_is)
    (case xgg_BadAnswer => as_aux_lemma => k_is)
    (case xha_BadAnswer => as_aux_lemma => k_is)
    (case xmo_BadAnswer => as_aux_lemma => k_is)
    (case xn_BadAnswer_value => as_aux_lemma => k_is)
    (case rf_xve_BadNumber => rfl)
    (case rf_xbm_BadNumber => rfl)
    (case xsa_BadNumber => as_aux_lemma => k_is)
    (case xkp_BadNumber => as_aux_lemma => k_is)
    (case xcd_BadNumber => as_aux_lemma => k_is)
    (case rf_xfl_BadNumber => rfl)
    (case de_xfe_BadNumber => decide +kernel)
    (case xce_BadNumber => as_aux_lemma => k_is)
    (case xm_BadNumber => as_aux_lemma => k_is)
    (case xv_BadNumber => as_aux_lemma => k_is)
    (case xt_BadNumber => as_aux_lemma => k_is)
    (case xga_BadNumber => as_aux_lemma => k_is)
    (case xgg_BadNumber => as_aux_lemma => k_is)
    (case xha_BadNumber => as_aux_lemma => k_is)
    (case xmo_BadNumber => as_aux_lemma => k_is)
    (case xn_BadNumber_value => as_aux_lemma => k_is)
    (case rf_xve_BadWord => rfl)
    (case rf_xbm_BadWord => rfl)
    (case xsa_BadWord => as_aux_lemma => k_is)
    (case xkp_BadWord => as_aux_lemma => k_is)
    (case xcd_BadWord => as_aux_lemma => k_is)
    (case rf_xfl_BadWord => rfl)
    (case de_xfe_BadWord => decide +kernel)
    (case xce_BadWord => as_aux_lemma => k_is)
    (case xm_BadWord => as_aux_lemma => k_is)
    (case xv_BadWord => as_aux_lemma => k_is)
    (case xt_BadWord => as_aux_lemma => k_is)
    (case xga_BadWord => as_aux_lemma => k_is)
    (case xgg_BadWord => as_aux_lemma => k_is)
    (case xha_BadWord => as_aux_lemma => k_is)
    (case xmo_BadWord => as_aux_lemma => k_is)
    (case xn_BadWord_value => as_aux_lemma => k_is)
    (case rf_xve_NoState => rfl)
    (case rf_xbm_NoState => rfl)
    (case xsa_NoState => as_aux_lemma => k_is)
    (case xkp_NoState => as_aux_lemma => k_is)
    (case xcd_NoState => as_aux_lemma => k_is)
    (case rf_xfl_NoState => rfl)
    (case de_xfe_NoState => decide +kernel)
    (case xce_NoState => as_aux_lemma => k_is)
    (case xm_NoState => as_aux_lemma => k_is)
    (case xv_NoState => as_aux_lemma => k_is)
    (case xt_NoState => as_aux_lemma => k_is)
    (case xga_NoState => as_aux_lemma => k_is)
    (case xgg_NoState => as_aux_lemma => k_is)
    (case xha_NoState => as_aux_lemma => k_is)
    (case xmo_NoState => as_aux_lemma => k_is)
    (case xn_NoState_value => as_aux_lemma => k_is)
    (case rf_xve_NoCell => rfl)
    (case rf_xbm_NoCell => rfl)
    (case xsa_NoCell => as_aux_lemma => k_is)
    (case xkp_NoCell => as_aux_lemma => k_is)
    (case xcd_NoCell => as_aux_lemma => k_is)
    (case rf_xfl_NoCell => rfl)
    (case de_xfe_NoCell => decide +kernel)
    (case xce_NoCell => as_aux_lemma => k_is)
    (case xm_NoCell => as_aux_lemma => k_is)
    (case xv_NoCell => as_aux_lemma => k_is)
    (case xt_NoCell => as_aux_lemma => k_is)
    (case xga_NoCell => as_aux_lemma => k_is)
    (case xgg_NoCell => as_aux_lemma => k_is)
    (case xha_NoCell => as_aux_lemma => k_is)
    (case xmo_NoCell => as_aux_lemma => k_is)
    (case xn_NoCell_value => as_aux_lemma => k_is)
    (case rf_xve_NoText => rfl)
    (case rf_xbm_NoText => rfl)
    (case xsa_NoText => as_aux_lemma => k_is)
    (case xkp_NoText => as_aux_lemma => k_is)
    (case xcd_NoText => as_aux_lemma => k_is)
    (case rf_xfl_NoText => rfl)
    (case de_xfe_NoText => decide +kernel)
    (case xce_NoText => as_aux_lemma => k_is)
    (case xm_NoText => as_aux_lemma => k_is)
    (case xv_NoText => as_aux_lemma => k_is)
    (case xt_NoText => as_aux_lemma => k_is)
    (case xga_NoText => as_aux_lemma => k_is)
    (case xgg_NoText => as_aux_lemma => k_is)
    (case xha_NoText => as_aux_lemma => k_is)
    (case xmo_NoText => as_aux_lemma => k_is)
    (case xn_NoText_value => as_aux_lemma => k_is)
    (case rf_xve_Taken => rfl)
    (case rf_xbm_Taken => rfl)
    (case xsa_Taken => as_aux_lemma => k_is)
    (case xkp_Taken => as_aux_lemma => k_is)
    (case xcd_Taken => as_aux_lemma => k_is)
    (case rf_xfl_Taken => rfl)
    (case de_xfe_Taken => decide +kernel)
    (case xce_Taken => as_aux_lemma => k_is)
    (case xm_Taken => as_aux_lemma => k_is)
    (case xv_Taken => as_aux_lemma => k_is)
    (case xt_Taken => as_aux_lemma => k_is)
    (case xga_Taken => as_aux_lemma => k_is)
    (case xgg_Taken => as_aux_lemma => k_is)
    (case xha_Taken => as_aux_lemma => k_is)
    (case xmo_Taken => as_aux_lemma => k_is)
    (case xn_Taken_value => as_aux_lemma => k_is)
    (case rf_xve_BadConverter => rfl)
    (case rf_xbm_BadConverter => rfl)
    (case xsa_BadConverter => as_aux_lemma => k_is)
    (case xkp_BadConverter => as_aux_lemma => k_is)
    (case xcd_BadConverter => as_aux_lemma => k_is)
    (case rf_xfl_BadConverter => rfl)
    (case de_xfe_BadConverter => decide +kernel)
    (case xce_BadConverter => as_aux_lemma => k_is)
    (case xm_BadConverter => as_aux_lemma => k_is)
    (case xv_BadConverter => as_aux_lemma => k_is)
    (case xt_BadConverter => as_aux_lemma => k_is)
    (case xga_BadConverter => as_aux_lemma => k_is)
    (case xgg_BadConverter => as_aux_lemma => k_is)
    (case xha_BadConverter => as_aux_lemma => k_is)
    (case xmo_BadConverter => as_aux_lemma => k_is)
    (case xn_BadConverter_part => as_aux_lemma => k_is)
    (case rf_xve_BadGrowth => rfl)
    (case rf_xbm_BadGrowth => rfl)
    (case xsa_BadGrowth => as_aux_lemma => k_is)
    (case xkp_BadGrowth => as_aux_lemma => k_is)
    (case xcd_BadGrowth => as_aux_lemma => k_is)
    (case rf_xfl_BadGrowth => rfl)
    (case de_xfe_BadGrowth => decide +kernel)
    (case xce_BadGrowth => as_aux_lemma => k_is)
    (case xm_BadGrowth => as_aux_lemma => k_is)
    (case xv_BadGrowth => as_aux_lemma => k_is)
    (case xt_BadGrowth => as_aux_lemma => k_is)
    (case xga_BadGrowth => as_aux_lemma => k_is)
    (case xgg_BadGrowth => as_aux_lemma => k_is)
    (case xha_BadGrowth => as_aux_lemma => k_is)
    (case xmo_BadGrowth => as_aux_lemma => k_is)
    (case xn_BadGrowth_part => as_aux_lemma => k_is)
    (case rf_xve_BadPaper => rfl)
    (case rf_xbm_BadPaper => rfl)
    (case xsa_BadPaper => as_aux_lemma => k_is)
    (case xkp_BadPaper => as_aux_lemma => k_is)
    (case xcd_BadPaper => as_aux_lemma => k_is)
    (case rf_xfl_BadPaper => rfl)
    (case de_xfe_BadPaper => decide +kernel)
    (case xce_BadPaper => as_aux_lemma => k_is)
    (case xm_BadPaper => as_aux_lemma => k_is)
    (case xv_BadPaper => as_aux_lemma => k_is)
    (case xt_BadPaper => as_aux_lemma => k_is)
    (case xga_BadPaper => as_aux_lemma => k_is)
    (case xgg_BadPaper => as_aux_lemma => k_is)
    (case xha_BadPaper => as_aux_lemma => k_is)
    (case xmo_BadPaper => as_aux_lemma => k_is)
    (case xn_BadPaper_part => as_aux_lemma => k_is)
    (case rf_xve_BadArray => rfl)
    (case rf_xbm_BadArray => rfl)
    (case xsa_BadArray => as_aux_lemma => k_is)
    (case xkp_BadArray => as_aux_lemma => k_is)
    (case xcd_BadArray => as_aux_lemma => k_is)
    (case rf_xfl_BadArray => rfl)
    (case de_xfe_BadArray => decide +kernel)
    (case xce_BadArray => as_aux_lemma => k_is)
    (case xm_BadArray => as_aux_lemma => k_is)
    (case xv_BadArray => as_aux_lemma => k_is)
    (case xt_BadArray => as_aux_lemma => k_is)
    (case xga_BadArray => as_aux_lemma => k_is)
    (case xgg_BadArray => as_aux_lemma => k_is)
    (case xha_BadArray => as_aux_lemma => k_is)
    (case xmo_BadArray => as_aux_lemma => k_is)
    (case xn_BadArray_part => as_aux_lemma => k_is)
    (case rf_xve_BadDeed => rfl)
    (case rf_xbm_BadDeed => rfl)
    (case xsa_BadDeed => as_aux_lemma => k_is)
    (case xkp_BadDeed => as_aux_lemma => k_is)
    (case xcd_BadDeed => as_aux_lemma => k_is)
    (case rf_xfl_BadDeed => rfl)
    (case de_xfe_BadDeed => decide +kernel)
    (case xce_BadDeed => as_aux_lemma => k_is)
    (case xm_BadDeed => as_aux_lemma => k_is)
    (case xv_BadDeed => as_aux_lemma => k_is)
    (case xt_BadDeed => as_aux_lemma => k_is)
    (case xga_BadDeed => as_aux_lemma => k_is)
    (case xgg_BadDeed => as_aux_lemma => k_is)
    (case xha_BadDeed => as_aux_lemma => k_is)
    (case xmo_BadDeed => as_aux_lemma => k_is)
    (case xn_BadDeed_part => as_aux_lemma => k_is)
    (case rf_xve_BadLog => rfl)
    (case rf_xbm_BadLog => rfl)
    (case xsa_BadLog => as_aux_lemma => k_is)
    (case xkp_BadLog => as_aux_lemma => k_is)
    (case xcd_BadLog => as_aux_lemma => k_is)
    (case rf_xfl_BadLog => rfl)
    (case de_xfe_BadLog => decide +kernel)
    (case xce_BadLog => as_aux_lemma => k_is)
    (case xm_BadLog => as_aux_lemma => k_is)
    (case xv_BadLog => as_aux_lemma => k_is)
    (case xt_BadLog => as_aux_lemma => k_is)
    (case xga_BadLog => as_aux_lemma => k_is)
    (case xgg_BadLog => as_aux_lemma => k_is)
    (case xha_BadLog => as_aux_lemma => k_is)
    (case xmo_BadLog => as_aux_lemma => k_is)
    (case xn_BadLog_at => as_aux_lemma => k_is)
    (case rf_xve_NoTail => rfl)
    (case rf_xbm_NoTail => rfl)
    (case xsa_NoTail => as_aux_lemma => k_is)
    (case xkp_NoTail => as_aux_lemma => k_is)
    (case xcd_NoTail => as_aux_lemma => k_is)
    (case rf_xfl_NoTail => rfl)
    (case de_xfe_NoTail => decide +kernel)
    (case xce_NoTail => as_aux_lemma => k_is)
    (case xm_NoTail => as_aux_lemma => k_is)
    (case xv_NoTail => as_aux_lemma => k_is)
    (case xt_NoTail => as_aux_lemma => k_is)
    (case xga_NoTail => as_aux_lemma => k_is)
    (case xgg_NoTail => as_aux_lemma => k_is)
    (case xha_NoTail => as_aux_lemma => k_is)
    (case xmo_NoTail => as_aux_lemma => k_is)
    (case xn_NoTail_state => as_aux_lemma => k_is)
    (case rf_xve_RunOver => rfl)
    (case rf_xbm_RunOver => rfl)
    (case xsa_RunOver => as_aux_lemma => k_is)
    (case xkp_RunOver => as_aux_lemma => k_is)
    (case xcd_RunOver => as_aux_lemma => k_is)
    (case rf_xfl_RunOver => rfl)
    (case de_xfe_RunOver => decide +kernel)
    (case xce_RunOver => as_aux_lemma => k_is)
    (case xm_RunOver => as_aux_lemma => k_is)
    (case xv_RunOver => as_aux_lemma => k_is)
    (case xt_RunOver => as_aux_lemma => k_is)
    (case xga_RunOver => as_aux_lemma => k_is)
    (case xgg_RunOver => as_aux_lemma => k_is)
    (case xha_RunOver => as_aux_lemma => k_is)
    (case xmo_RunOver => as_aux_lemma => k_is)
    (case xn_RunOver_cell => as_aux_lemma => k_is)
    (case rf_xve_NoRoom => rfl)
    (case rf_xbm_NoRoom => rfl)
    (case xsa_NoRoom => as_aux_lemma => k_is)
    (case xkp_NoRoom => as_aux_lemma => k_is)
    (case xcd_NoRoom => as_aux_lemma => k_is)
    (case rf_xfl_NoRoom => rfl)
    (case de_xfe_NoRoom => decide +kernel)
    (case xce_NoRoom => as_aux_lemma => k_is)
    (case xm_NoRoom => as_aux_lemma => k_is)
    (case xv_NoRoom => as_aux_lemma => k_is)
    (case xt_NoRoom => as_aux_lemma => k_is)
    (case xga_NoRoom => as_aux_lemma => k_is)
    (case xgg_NoRoom => as_aux_lemma => k_is)
    (case xha_NoRoom => as_aux_lemma => k_is)
    (case xmo_NoRoom => as_aux_lemma => k_is)
    (case xn_NoRoom_cell => as_aux_lemma => k_is)
    (case rf_xve_BadCommand => rfl)
    (case rf_xbm_BadCommand => rfl)
    (case xsa_BadCommand => as_aux_lemma => k_is)
    (case xkp_BadCommand => as_aux_lemma => k_is)
    (case xcd_BadCommand => as_aux_lemma => k_is)
    (case rf_xfl_BadCommand => rfl)
    (case de_xfe_BadCommand => decide +kernel)
    (case xce_BadCommand => as_aux_lemma => k_is)
    (case xm_BadCommand => as_aux_lemma => k_is)
    (case xv_BadCommand => as_aux_lemma => k_is)
    (case xt_BadCommand => as_aux_lemma => k_is)
    (case xga_BadCommand => as_aux_lemma => k_is)
    (case xgg_BadCommand => as_aux_lemma => k_is)
    (case xha_BadCommand => as_aux_lemma => k_is)
    (case xmo_BadCommand => as_aux_lemma => k_is)
    (case xn_BadCommand_word => as_aux_lemma => k_is)
    (case rf_xve_BadText => rfl)
    (case rf_xbm_BadText => rfl)
    (case xsa_BadText => as_aux_lemma => k_is)
    (case xkp_BadText => as_aux_lemma => k_is)
    (case xcd_BadText => as_aux_lemma => k_is)
    (case rf_xfl_BadText => rfl)
    (case de_xfe_BadText => decide +kernel)
    (case xce_BadText => as_aux_lemma => k_is)
    (case xm_BadText => as_aux_lemma => k_is)
    (case xv_BadText => as_aux_lemma => k_is)
    (case xt_BadText => as_aux_lemma => k_is)
    (case xga_BadText => as_aux_lemma => k_is)
    (case xgg_BadText => as_aux_lemma => k_is)
    (case xha_BadText => as_aux_lemma => k_is)
    (case xmo_BadText => as_aux_lemma => k_is)
    (case xn_BadText_line => as_aux_lemma => k_is)
    (case xn_BadText_word => as_aux_lemma => k_is)
    (case rf_xve_NoStep => rfl)
    (case rf_xbm_NoStep => rfl)
    (case xsa_NoStep => as_aux_lemma => k_is)
    (case xkp_NoStep => as_aux_lemma => k_is)
    (case xcd_NoStep => as_aux_lemma => k_is)
    (case rf_xfl_NoStep => rfl)
    (case de_xfe_NoStep => decide +kernel)
    (case xce_NoStep => as_aux_lemma => k_is)
    (case xm_NoStep => as_aux_lemma => k_is)
    (case xv_NoStep => as_aux_lemma => k_is)
    (case xt_NoStep => as_aux_lemma => k_is)
    (case xga_NoStep => as_aux_lemma => k_is)
    (case xgg_NoStep => as_aux_lemma => k_is)
    (case xha_NoStep => as_aux_lemma => k_is)
    (case xmo_NoStep => as_aux_lemma => k_is)
    (case xn_NoStep_at => as_aux_lemma => k_is)
    (case xn_NoStep_state => as_aux_lemma => k_is)
    (case rf_xve_TooMany => rfl)
    (case rf_xbm_TooMany => rfl)
    (case xsa_TooMany => as_aux_lemma => k_is)
    (case xkp_TooMany => as_aux_lemma => k_is)
    (case xcd_TooMany => as_aux_lemma => k_is)
    (case rf_xfl_TooMany => rfl)
    (case de_xfe_TooMany => decide +kernel)
    (case xce_TooMany => as_aux_lemma => k_is)
    (case xm_TooMany => as_aux_lemma => k_is)
    (case xv_TooMany => as_aux_lemma => k_is)
    (case xt_TooMany => as_aux_lemma => k_is)
    (case xga_TooMany => as_aux_lemma => k_is)
    (case xgg_TooMany => as_aux_lemma => k_is)
    (case xha_TooMany => as_aux_lemma => k_is)
    (case xmo_TooMany => as_aux_lemma => k_is)
    (case xn_TooMany_what => as_aux_lemma => k_is)
    (case xn_TooMany_most => as_aux_lemma => k_is)
    (case rf_xve_Nothing => rfl)
    (case rf_xbm_Nothing => rfl)
    (case xsa_Nothing => as_aux_lemma => k_is)
    (case xkp_Nothing => as_aux_lemma => k_is)
    (case xcd_Nothing => as_aux_lemma => k_is)
    (case rf_xfl_Nothing => rfl)
    (case de_xfe_Nothing => decide +kernel)
    (case xce_Nothing => as_aux_lemma => k_is)
    (case xm_Nothing => as_aux_lemma => k_is)
    (case xv_Nothing => as_aux_lemma => k_is)
    (case xt_Nothing => as_aux_lemma => k_is)
    (case xga_Nothing => as_aux_lemma => k_is)
    (case xgg_Nothing => as_aux_lemma => k_is)
    (case xha_Nothing => as_aux_lemma => k_is)
    (case xmo_Nothing => as_aux_lemma => k_is)
    (case de_nd => decide +kernel)
    (case rf_xbmR => rfl)
    (case zb_ArithmeticError => as_aux_lemma => k_is)
    (case zb_LookupError => as_aux_lemma => k_is)
    (case zb_TypeError => as_aux_lemma => k_is)
    (case zb_ValueError => as_aux_lemma => k_is)
    (case zb_abs => as_aux_lemma => k_is)
    (case zb_int => as_aux_lemma => k_is)
    (case zb_isinstance => as_aux_lemma => k_is)
    (case zb_len => as_aux_lemma => k_is)
    (case zb_list => as_aux_lemma => k_is)
    (case zb_range => as_aux_lemma => k_is)
    (case zb_repr => as_aux_lemma => k_is)

