import PyProof.Rows.All
import Wide.All
import OpenK.AllK
import Wide.FinOn
import HandS.ForMost
import HandS.ForExc
import HandS.Wide
import HandS.IsInst
import KE.KOpsOwn
import KE.KIsAll
import HandS.Property
import HandS.Defaults
import HandS.MakeKw
import HandS.Style
import PyProof.TwoTypes
import PyProof.InstNe
import HandS.EndBits
import PyProof.ReprRoads
import PyProof.ReprLen
import HandS.RaiseMore
import HandS.MakeKwOnly
import HandS.Deep
import HandS.TupAny
import HandS.List
import OpenK.KMeth
import KE.KCallOwn
import HandS.Star
import HandS.Text
import PyProof.Rows.ReprOcc
import HandS.Lambda
import HandS.Nested
import HandS.EndTab
import HandS.Conv
import HandS.ExcInit
import HandS.ExcField
import HandS.ExcIs
import KE.KExcSuper
import HandS.ExcCtx
import HandS.Exc
import KE.KExcIs
import HandS.SortKw
import KE.DataMinMax
import KE.GoesEnum
import HandS.Iter
import PyProof.LongRange
import HandS.DictComp
import PyProof.DictFindH
import HandS.More
import OpenK.KCls
import HandS.Steps
import PyProof.ListStr
import HandS.DeepEq
import KE.KEqNest
import HandS.DictTup
import KE.KIntText
import KE.KDictDisplayH
import PyProof.StrOps2
import HandS.OwnIter
import HandS.IterNext
import KE.GoesZip
import KE.GoesMore
import HandS.Flow
import PyProof.EqKinds
import PyProof.NeKinds
import PyProof.FactsAll.dict
import KE.DataEq
import PyProof.Rows.Range3
import HandS.TryOnly
import HandS.Head0
import HandS.Head1
import HandS.Head2
import PySem.Challenge.RW_headgap_k02_papers_keep_values
set_option Elab.async false
set_option linter.all false
set_option maxRecDepth 100000
set_option maxHeartbeats 4000000
set_option exponentiation.threshold 3000
namespace HG
open PySem L2
section
variable {X : Cx}
theorem opImp {f : Value → Value → Sem Value} {r r' : R2} (h : OpR X f r) (hi : ∀ x y H Q, r' x y H Q → r x y H Q) : OpR X f r' :=
  fun pins s σ H x y v u Q I rx ry q => h pins s σ H x y v u Q I rx ry (hi x y H Q q)
theorem callImp {f : Value} {r r' : List V → Hp → VK → Prop} (h : CallR X f r) (hi : ∀ xs H Q, r' xs H Q → r xs H Q) : CallR X f r' :=
  fun pins s σ H xs us Q I rx q => h pins s σ H xs us Q I rx (hi xs H Q q)

/-! ### operators, by the kinds of the values -/
def oAdd : R2 := fun x y H Q => match x, y with
  | .int i, .int j => Q (.int (i + j)) H
  | .str a, .str b => a.length + b.length ≤ sizeLine ∧ Q (.str (a ++ b)) H
  | .ref l, .ref b => match H l, H b with
    | some (.lst xs), some (.lst zs) => xs.length + zs.length ≤ sizeLine ∧ ∀ p, H p = none → Q (.ref p) (upd H p (.lst (xs ++ zs)))
    | _, _ => False
  | _, _ => False
theorem op_addU : OpR X (binaryOp .Add) oAdd := opImp (op_add.or (op_add_str.or op_cat)) fun x y H Q h => by
  unfold oAdd at h
  split at h
  · exact .inl ⟨_, _, rfl, rfl, h⟩
  · exact .inr (.inl ⟨_, _, rfl, rfl, h.1, h.2⟩)
  · split at h
    · rename_i e1 e2
      exact .inr (.inr ⟨_, _, _, _, rfl, rfl, e1, e2, h.1, h.2⟩)
    · exact h.elim
  · exact h.elim
def oSub : R2 := fun x y H Q => match x, y with
  | .int i, .int j => Q (.int (i - j)) H
  | _, _ => False
theorem op_subU : OpR X (binaryOp .Sub) oSub := opImp op_sub fun x y H Q h => by
  unfold oSub at h
  split at h
  · exact ⟨_, _, rfl, rfl, h⟩
  · exact h.elim
def oMul : R2 := fun x y H Q => match x, y with
  | .int i, .int j => IntMulOk i j ∧ Q (.int (i * j)) H
  | .ref l, .int k => match H l with
    | some (.lst xs) => -(2 ^ 63) ≤ k ∧ k < 2 ^ 63 ∧ xs.length * k.toNat ≤ sizeLine ∧ ∀ p, H p = none → Q (.ref p) (upd H p (.lst (List.replicate k.toNat xs).flatten))
    | _ => False
  | _, _ => False
theorem op_mulOk : OpR X (binaryOp .Mult) (rI IntMulOk fun i j => .int (i * j)) := opI fun _ _ _ _ _ _ _ hc q => PyProof.Rows.mul_int q hc
theorem op_mulU : OpR X (binaryOp .Mult) oMul := opImp (op_mulOk.or op_rep) fun x y H Q h => by
  unfold oMul at h
  split at h
  · exact .inl ⟨_, _, rfl, rfl, h.1, h.2⟩
  · split at h
    · rename_i e
      exact .inr ⟨_, _, _, rfl, rfl, e, h.1, h.2.1, h.2.2.1, h.2.2.2⟩
    · exact h.elim
  · exact h.elim
def oFdiv : R2 := fun x y H Q => match x, y with
  | .int i, .int j => CDivW i j ∧ Q (.int (i / j)) H
  | _, _ => False
theorem op_fdivU : OpR X (binaryOp .FloorDiv) oFdiv := opImp op_fdivW fun x y H Q h => by
  unfold oFdiv at h
  split at h
  · exact ⟨_, _, rfl, rfl, h.1, h.2⟩
  · exact h.elim
def oMod : R2 := fun x y H Q => match x, y with
  | .int i, .int j => 0 < j ∧ Q (.int (i % j)) H
  | _, _ => False
theorem op_modU : OpR X (binaryOp .Mod) oMod := opImp op_mod fun x y H Q h => by
  unfold oMod at h
  split at h
  · exact ⟨_, _, rfl, rfl, h.1, h.2⟩
  · exact h.elim
def oPow : R2 := fun x y H Q => match x, y with
  | .int i, .int j => CPow i j ∧ Q (.int (i ^ j.toNat)) H
  | _, _ => False
theorem op_powU : OpR X (binaryOp .Pow) oPow := opImp op_pow fun x y H Q h => by
  unfold oPow at h
  split at h
  · exact ⟨_, _, rfl, rfl, h.1, h.2⟩
  · exact h.elim
def uNeg : V → Hp → VK → Prop := fun x H Q => match x with
  | .int i => Q (.int (-i)) H
  | _ => False
theorem un_negU : UnR X (unaryOp .USub) uNeg := fun pins s σ H x v Q I rx h => by
  refine un_neg pins s σ H x v Q I rx ?_
  unfold uNeg at h
  split at h
  · exact ⟨_, rfl, h⟩
  · exact h.elim
def oLt : R2 := fun x y H Q => match x, y with
  | .int i, .int j => Q (.bl (decide (i < j))) H
  | _, _ => False
theorem op_ltU : OpR X (compareOp .Lt) oLt := opImp op_lt fun x y H Q h => by
  unfold oLt at h
  split at h
  · exact ⟨_, _, rfl, rfl, h⟩
  · exact h.elim
def oLe : R2 := fun x y H Q => match x, y with
  | .int i, .int j => Q (.bl (decide (i ≤ j))) H
  | _, _ => False
def oGt : R2 := fun x y H Q => match x, y with
  | .int i, .int j => Q (.bl (decide (j < i))) H
  | _, _ => False
theorem op_gtU : OpR X (compareOp .Gt) oGt := opImp op_gt fun x y H Q h => by
  unfold oGt at h
  split at h
  · exact ⟨_, _, rfl, rfl, h⟩
  · exact h.elim
def oGe : R2 := fun x y H Q => match x, y with
  | .int i, .int j => Q (.bl (decide (j ≤ i))) H
  | _, _ => False
theorem op_geU : OpR X (compareOp .GtE) oGe := opImp op_ge fun x y H Q h => by
  unfold oGe at h
  split at h
  · exact ⟨_, _, rfl, rfl, h⟩
  · exact h.elim
/-! ### data, read off the abstract heap -/
def dataL (f : V → Option PyData) : List V → Option (List PyData)
  | [] => some []
  | x :: xs => match f x with
    | some d => match dataL f xs with
      | some ds => some (d :: ds)
      | none => none
    | none => none
def dataF : Nat → Hp → V → Option PyData
  | _, _, .non => some .none
  | _, _, .bl b => some (.bool b)
  | _, _, .int i => some (.int i)
  | _, _, .str x => some (.str x)
  | n + 1, H, .ref a => match H a with
    | some (.lst xs) => (dataL (dataF n H) xs).map .list
    | some (.tup xs) => (dataL (dataF n H) xs).map .tuple
    | _ => none
  | _, _, _ => none
theorem dpAll_of {K : PySem.W.Frag} {H : Hp} {f : V → Option PyData} (hf : ∀ x d, f x = some d → Dp K H x d) : ∀ {xs : List V} {ds : List PyData}, dataL f xs = some ds → DpAll K H xs ds
  | [], ds, h => by
    cases h
    exact .nil
  | x :: xs, ds, h => by
    simp only [dataL] at h
    split at h
    · rename_i d e
      split at h
      · rename_i ds' e'
        cases h
        exact .cons (hf x d e) (dpAll_of hf e')
      · cases h
    · cases h
theorem dp_of {K : PySem.W.Frag} {H : Hp} : ∀ {n : Nat} {x : V} {d : PyData}, dataF n H x = some d → Dp K H x d
  | n, .non, d, h => by
    have e : some PyData.none = some d := by rw [← h]; cases n <;> rfl
    cases e
    exact .non
  | n, .bl b, d, h => by
    have e : some (PyData.bool b) = some d := by rw [← h]; cases n <;> rfl
    cases e
    exact .bl b
  | n, .int i, d, h => by
    have e : some (PyData.int i) = some d := by rw [← h]; cases n <;> rfl
    cases e
    exact .int i
  | n, .str i, d, h => by
    have e : some (PyData.str i) = some d := by rw [← h]; cases n <;> rfl
    cases e
    exact .str i
  | n, .byt i, d, h => by cases n <;> cases h
  | n, .flt i, d, h => by cases n <;> cases h
  | n, .ty i, d, h => by cases n <;> cases h
  | 0, .ref a, d, h => by cases h
  | n + 1, .ref a, d, h => by
    simp only [dataF] at h
    split at h
    · rename_i xs e
      obtain ⟨ds, e1, rfl⟩ := Option.map_eq_some_iff.mp h
      exact .lst (SqL.of e) (dpAll_of (fun x d q => dp_of q) e1)
    · rename_i xs e
      obtain ⟨ds, e1, rfl⟩ := Option.map_eq_some_iff.mp h
      exact .tup (SqT.of e) (dpAll_of (fun x d q => dp_of q) e1)
    · cases h
def oEq (K : PySem.W.Frag) : R2 := fun x y H Q => match x, y with
  | .int i, .int j => Q (.bl (decide (i = j))) H
  | .str i, .str j => Q (.bl (decide (i = j))) H
  | .bl i, .bl j => Q (.bl (decide (i = j))) H
  | x, y => match dataF 8 H x, dataF 8 H y with
    | some d, some e => SeqAt.shaped d = true ∧ SeqAt.shaped e = true ∧ Q (.bl (PyData.eqv d e)) H
    | _, _ => False
theorem dec_V {α : Type} [DecidableEq α] {f : α → V} (inj : ∀ a b, f a = f b → a = b) (a b : α) : decide (f a = f b) = decide (a = b) := by
  by_cases h : a = b
  · subst h; simp
  · rw [decide_eq_false h, decide_eq_false fun q => h (inj a b q)]
def oNe (K : PySem.W.Frag) : R2 := fun x y H Q => match x, y with
  | .int i, .int j => Q (.bl (!decide (i = j))) H
  | .str i, .str j => Q (.bl (!decide (i = j))) H
  | .bl i, .bl j => Q (.bl (!decide (i = j))) H
  | x, y => match dataF 8 H x, dataF 8 H y with
    | some d, some e => SeqAt.shaped d = true ∧ SeqAt.shaped e = true ∧ Q (.bl (!PyData.eqv d e)) H
    | _, _ => False
theorem op_neU (hu : X.A.units + 64 < cLine) : OpR X (compareOp .NotEq) (oNe X.K) := opImp (op_ne.or (op_neD hu)) fun x y H Q h => by
  unfold oNe at h
  split at h
  · exact .inl ⟨rfl, by rw [dec_V (f := V.int) (fun _ _ q => by injection q)]; exact h⟩
  · exact .inl ⟨rfl, by rw [dec_V (f := V.str) (fun _ _ q => by injection q)]; exact h⟩
  · exact .inl ⟨rfl, by rw [dec_V (f := V.bl) (fun _ _ q => by injection q)]; exact h⟩
  · split at h
    · rename_i e1 e2
      exact .inr ⟨_, _, dp_of e1, dp_of e2, h.1, h.2.1, h.2.2⟩
    · exact h.elim

/-! ### sequences -/
/-- the items of the list or tuple at p -/
def rdSeq (K : PySem.W.Frag) (H : Hp) (p : Addr) (k : List V → Prop) : Prop := match H p with
  | some (.lst xs) => k xs
  | some (.tup xs) => k xs
  | _ => ∃ xs, (SqL K H p xs ∨ SqT K H p xs) ∧ k xs
theorem rdSeq_out {K : PySem.W.Frag} {H : Hp} {p : Addr} {k : List V → Prop} (h : rdSeq K H p k) : ∃ xs, (SqL K H p xs ∨ SqT K H p xs) ∧ k xs := by
  unfold rdSeq at h
  split at h
  · rename_i e; exact ⟨_, .inl (SqL.of e), h⟩
  · rename_i e; exact ⟨_, .inr (SqT.of e), h⟩
  · exact h
/-! ### built-in functions -/
def cLen (K : PySem.W.Frag) : List V → Hp → VK → Prop := fun xs H Q => match xs with
  | [.ref p] => rdSeq K H p fun ys => Q (.int ys.length) H
  | [.str z] => z.length ≤ sizeLine ∧ Q (.int z.length) H
  | _ => False
theorem call_lenU : CallR X (.builtin "len") (cLen X.K) := callImp (call_len_seq.or call_len_str) fun xs H Q h => by
  unfold cLen at h
  split at h
  · obtain ⟨ys, h1, h2⟩ := rdSeq_out h
    exact .inl ⟨_, ys, rfl, h1, h2⟩
  · exact .inr ⟨_, rfl, h.1, h.2⟩
  · exact h.elim
def cAbs : List V → Hp → VK → Prop := fun xs H Q => match xs with
  | [.int i] => Q (.int (if i < 0 then -i else i)) H
  | _ => False
theorem call_absU : CallR X (.builtin "abs") cAbs := callImp call_abs fun xs H Q h => by
  unfold cAbs at h
  split at h
  · exact ⟨_, rfl, h⟩
  · exact h.elim
def cInt : List V → Hp → VK → Prop := fun xs H Q => match xs with
  | [.int i] => Q (.int i) H
  | [.bl b] => Q (.int (if b then 1 else 0)) H
  | [.str a] => ∃ n, PySem.intText? a = some n ∧ a.length ≤ 640 ∧ Q (.int n) H
  | _ => False
theorem call_intU : CallR X (.type "int") cInt := callImp (call_int1.or call_int_str) fun xs H Q h => by
  unfold cInt at h
  split at h
  · exact .inl (.inl ⟨_, rfl, h⟩)
  · exact .inl (.inr ⟨_, rfl, h⟩)
  · obtain ⟨n, h1, h2, h3⟩ := h
    exact .inr ⟨_, n, rfl, h1, h2, h3⟩
  · exact h.elim
def cList (K : PySem.W.Frag) : List V → Hp → VK → Prop := fun xs H Q => match xs with
  | [.ref p] => rdSeq K H p fun ys => ∀ l, H l = none → Q (.ref l) (upd H l (.lst ys))
  | _ => False
theorem call_listU : CallR X (.type "list") (cList X.K) := callImp call_list_of fun xs H Q h => by
  unfold cList at h
  split at h
  · obtain ⟨ys, h1, h2⟩ := rdSeq_out h
    exact ⟨_, ys, rfl, h1, h2⟩
  · exact h.elim
def iIx (K : PySem.W.Frag) : R2 := fun x y H Q => match x, y with
  | .ref p, .int i => rdSeq K H p fun xs => match atI xs i with
    | some v => Q v H
    | none => False
  | .str z, .int i => z.length ≤ sizeLine ∧ match atI z.cps.toList i with
    | some c => Q (.str ⟨#[c]⟩) H
    | none => False
  | _, _ => False
theorem ix_U : IxR X (iIx X.K) := fun value slice pins s σ H x y v u Q I rx ry h hs => by
  refine ix_seq value slice pins s σ H x y v u Q I rx ry ?_ hs
  unfold iIx at h
  split at h
  · obtain ⟨xs, h1, h2⟩ := rdSeq_out h
    split at h2
    · rename_i e
      rcases h1 with h1 | h1
      · exact .inl ⟨_, xs, _, _, rfl, rfl, h1, e, h2⟩
      · exact .inr (.inl ⟨_, xs, _, _, rfl, rfl, h1, e, h2⟩)
    · exact h2.elim
  · obtain ⟨h1, h2⟩ := h
    split at h2
    · rename_i e
      exact .inr (.inr ⟨_, _, _, rfl, rfl, h1, e, h2⟩)
    · exact h2.elim
  · exact h.elim
def setI (xs : List V) (k : Int) (v : V) : Option (List V) := (ixN xs.length k).map fun j => xs.set j v
def stL : V → V → V → Hp → (Hp → Prop) → Prop := fun o i v H Q => match o, i with
  | .ref p, .int k => match H p with
    | some (.lst xs) => match setI xs k v with
      | some ys => Q (upd H p (.lst ys))
      | none => False
    | _ => False
  | _, _ => False
theorem set_U : PSet X stL := fun pins s σ H o i v ov iv u Q I ro ri rv h => by
  refine set_list pins s σ H o i v ov iv u Q I ro ri rv ?_
  unfold stL at h
  split at h
  · split at h
    · rename_i e
      split at h
      · rename_i e2
        unfold setI at e2
        obtain ⟨j, e3, e4⟩ := Option.map_eq_some_iff.mp e2
        subst e4
        exact ⟨_, _, _, _, rfl, rfl, e, e3, h⟩
      · exact h.elim
    · exact h.elim
  · exact h.elim
end
theorem atI_0 {x : V} {xs : List V} : atI (x :: xs) 0 = some x := by
  simp [atI, ixN]
theorem atI_1 {x y : V} {xs : List V} : atI (x :: y :: xs) 1 = some y := by
  have h : (1 : Int) < ((x :: y :: xs).length : Int) := by simp; omega
  simp only [atI, ixN]
  rw [if_pos (by decide), if_pos h]
  rfl
theorem atI_2 {x y z : V} {xs : List V} : atI (x :: y :: z :: xs) 2 = some z := by
  have h : (2 : Int) < ((x :: y :: z :: xs).length : Int) := by simp; omega
  simp only [atI, ixN]
  rw [if_pos (by decide), if_pos h]
  rfl
theorem setI_1 {x y v : V} {xs : List V} : setI (x :: y :: xs) 1 v = some (x :: v :: xs) := by
  have h : (1 : Int) < ((x :: y :: xs).length : Int) := by simp; omega
  simp only [setI, ixN]
  rw [if_pos (by decide), if_pos h]
  rfl
theorem setI_2 {x y z v : V} {xs : List V} : setI (x :: y :: z :: xs) 2 v = some (x :: y :: v :: xs) := by
  have h : (2 : Int) < ((x :: y :: z :: xs).length : Int) := by simp; omega
  simp only [setI, ixN]
  rw [if_pos (by decide), if_pos h]
  rfl
theorem atI_nat' {xs : List V} {i : Int} {v : V} (h0 : 0 ≤ i) (h : xs[i.toNat]? = some v) : atI xs i = some v := by
  have hl : i.toNat < xs.length := (List.getElem?_eq_some_iff.mp h).1
  simp only [atI, ixN]
  rw [if_pos h0, if_pos (by omega)]
  exact h
theorem ite_dec {c A B : Prop} [Decidable c] (h1 : c → A) (h2 : ¬ c → B) : if decide c = true then A else B := by
  by_cases h : c
  · rw [if_pos (decide_eq_true h)]; exact h1 h
  · rw [if_neg (by simp [h])]; exact h2 h
theorem ite_b {b : Bool} {A B : Prop} (h1 : b = true → A) (h2 : b = false → B) : if b = true then A else B := by
  cases b with
  | true => rw [if_pos rfl]; exact h1 rfl
  | false => rw [if_neg (by decide)]; exact h2 rfl
end HG

namespace HG
open PySem L2
section
variable {σ : L2.St} {H : Hp} {D : Ends} {te tv : TE} {t u : TS} {c : TT} {g : TG} {Q : VK}
theorem evE (P : VK → Prop) (h : ∀ Q, P Q → te σ H Q) (hq : P Q) : te σ H Q := h Q hq
theorem evA {ta : TA} {Q : List V → Hp → Prop} (P : (List V → Hp → Prop) → Prop) (h : ∀ Q, P Q → ta σ H Q) (hq : P Q) : ta σ H Q := h Q hq
theorem evT {Q : Bool → Hp → Prop} (P : (Bool → Hp → Prop) → Prop) (h : ∀ Q, P Q → c σ H Q) (hq : P Q) : c σ H Q := h Q hq
theorem evG {v : V} {Q : L2.St → Hp → Prop} (P : (L2.St → Hp → Prop) → Prop) (h : ∀ Q, P Q → g v σ H Q) (hq : P Q) : g v σ H Q := h Q hq
theorem st_seq (h : t { D with nx := u D } σ H) : tSeq t u D σ H := h
theorem st_asg (h : te σ H fun x H1 => g x σ H1 D.nx) : tAsg te g D σ H := h
theorem st_if (h : c σ H fun b H1 => if b = true then t D σ H1 else u D σ H1) : tIfS c t u D σ H := h
theorem st_ret (h : te σ H D.rt) : tRet te D σ H := h
theorem st_drop (h : te σ H fun _ H1 => D.nx σ H1) : tDrop te D σ H := h
theorem st_par {i j : Nat} {ta : TA} (h : tPar i j ta D σ H) : tPar i j ta D σ H := h
end
end HG
namespace HG
open PySem L2
/-! ### lists of ints as data -/
theorem canLay_ints : ∀ ns : List Int, PyData.canLayAll0 (ns.map PyData.int) = true
  | [] => rfl
  | n :: r => by
    show (PyData.canLay0 (PyData.int n) && PyData.canLayAll0 (r.map PyData.int)) = true
    rw [canLay_ints r]; rfl
theorem depth_ints : ∀ ns : List Int, PyData.depthAll (ns.map PyData.int) = 0
  | [] => rfl
  | n :: r => by
    show max (PyData.depth (PyData.int n)) (PyData.depthAll (r.map PyData.int)) = 0
    rw [depth_ints r]; rfl
theorem shaped_ints (ns : List Int) : SeqAt.shaped (.list (ns.map PyData.int)) = true := by
  show (PyData.canLayAll0 (ns.map PyData.int) && decide (PyData.depthAll (ns.map PyData.int) + 1 ≤ 64)) = true
  rw [canLay_ints, depth_ints]; rfl
theorem eqv_nil (ns : List Int) : PyData.eqv (.list (ns.map PyData.int)) (.list []) = ns.isEmpty := by
  cases ns with
  | nil => rfl
  | cons a r => rfl
theorem dataL_ints {f : V → Option PyData} (hf : ∀ i, f (.int i) = some (.int i)) : ∀ ns : List Int, dataL f (ns.map V.int) = some (ns.map PyData.int)
  | [] => rfl
  | n :: r => by
    show (match f (.int n) with | some d => (match dataL f (r.map V.int) with | some ds => some (d :: ds) | none => none) | none => none) = _
    rw [hf, dataL_ints hf r]
    rfl
theorem dataF_int {n : Nat} {H : Hp} {i : Int} : dataF n H (.int i) = some (.int i) := by cases n <;> rfl
theorem dataF_ints {n : Nat} {H : Hp} {l : Addr} {ns : List Int} (h : H l = some (.lst (ns.map V.int))) : dataF (n + 1) H (.ref l) = some (.list (ns.map PyData.int)) := by
  simp only [dataF, h]
  rw [dataL_ints (fun i => dataF_int)]
  rfl
/-- a list of ints is unequal to the empty one -/
theorem ne_nil {K : PySem.W.Frag} {H : Hp} {l q : Addr} {ns : List Int} {Q : VK} (hl : H l = some (.lst (ns.map V.int))) (hq : H q = some (.lst [])) (h : Q (.bl (!ns.isEmpty)) H) : oNe K (.ref l) (.ref q) H Q := by
  have e1 : dataF 8 H (.ref l) = some (.list (ns.map PyData.int)) := dataF_ints hl
  have e2 : dataF 8 H (.ref q) = some (.list []) := dataF_ints (ns := []) hq
  simp only [oNe, e1, e2]
  exact ⟨shaped_ints ns, shaped_ints [], by rw [eqv_nil]; exact h⟩
def Keep (p : Addr) (H H' : Hp) : Prop := ∀ b o, b ≠ p → H b = some o → H' b = some o
theorem mod_range {x m : Int} (h : 0 < m) : 0 ≤ x % m ∧ x % m < m := ⟨Int.emod_nonneg _ (by omega), Int.emod_lt_of_pos _ h⟩
end HG
namespace HG
open PySem L2
/-! ### the draw's arithmetic -/
theorem mulok_left {i j : Int} (h1 : -(2 ^ 64) < i) (h2 : i < 2 ^ 64) : IntMulOk i j := .of_left (intBits_le_64 h1 h2)
theorem draw_pow1 {x t a c : Int} (hx0 : 0 ≤ x) (hx : x < 2147483648) (ht0 : 0 ≤ t) (ht : t ≤ 1000000) (ha0 : 0 ≤ a) (ha : a ≤ 1000000) (hc0 : 0 ≤ c) (hc : c ≤ 1000000) : (x + a * t + c).natAbs < 2 ^ 64 := by
  have h : a * t ≤ 1000000 * 1000000 := Int.mul_le_mul ha ht ht0 (by decide)
  have h0 : 0 ≤ a * t := Int.mul_nonneg ha0 ht0
  omega
theorem draw_pow2 {x t a b c : Int} (hx0 : 0 ≤ x) (hx : x < 2147483648) (ht0 : 0 ≤ t) (ht : t ≤ 1000000) (ha0 : 0 ≤ a) (ha : a ≤ 1000000) (hb0 : 0 ≤ b) (hb : b ≤ 1000000) (hc0 : 0 ≤ c) (hc : c ≤ 1000000) :
    (x * (2 * t + a) + b * t * t + c).natAbs < 2 ^ 64 := by
  have h1 : x * (2 * t + a) ≤ 2147483648 * 3000000 := Int.mul_le_mul (by omega) (by omega) (by omega) (by decide)
  have h10 : 0 ≤ x * (2 * t + a) := Int.mul_nonneg hx0 (by omega)
  have h2 : b * t ≤ 1000000 * 1000000 := Int.mul_le_mul hb ht ht0 (by decide)
  have h20 : 0 ≤ b * t := Int.mul_nonneg hb0 ht0
  have h3 : b * t * t ≤ (1000000 * 1000000) * 1000000 := Int.mul_le_mul h2 ht ht0 (by decide)
  have h30 : 0 ≤ b * t * t := Int.mul_nonneg h20 ht0
  omega
theorem draw_bt {t b : Int} (ht0 : 0 ≤ t) (ht : t ≤ 1000000) (hb0 : 0 ≤ b) (hb : b ≤ 1000000) : IntMulOk (b * t) t := by
  have h2 : b * t ≤ 1000000 * 1000000 := Int.mul_le_mul hb ht ht0 (by decide)
  have h20 : 0 ≤ b * t := Int.mul_nonneg hb0 ht0
  exact mulok_left (by omega) (by omega)
end HG
namespace HG
open PySem L2
section
variable {K : PySem.W.Frag} {H : Hp} {Q : VK} {i j : Int} {a b : Str} {c d : Bool}
theorem oEq_int : oEq K (.int i) (.int j) H Q = Q (.bl (decide (i = j))) H := rfl
theorem oEq_str : oEq K (.str a) (.str b) H Q = Q (.bl (decide (a = b))) H := rfl
theorem oEq_bl : oEq K (.bl c) (.bl d) H Q = Q (.bl (decide (c = d))) H := rfl
theorem oNe_int : oNe K (.int i) (.int j) H Q = Q (.bl (!decide (i = j))) H := rfl
theorem oNe_str : oNe K (.str a) (.str b) H Q = Q (.bl (!decide (a = b))) H := rfl
theorem oNe_bl : oNe K (.bl c) (.bl d) H Q = Q (.bl (!decide (c = d))) H := rfl
end
end HG
namespace HG
open PySem L2
/-! ### the readings at values whose kinds are seen -/
section
variable {K : PySem.W.Frag} {H : Hp} {Q : VK} {i j : Int} {a b : Str} {c d : Bool} {p s : Addr} {v : V} {QH : Hp → Prop}
theorem oAdd_int : oAdd (.int i) (.int j) H Q = Q (.int (i + j)) H := rfl
theorem oAdd_str : oAdd (.str a) (.str b) H Q = (a.length + b.length ≤ sizeLine ∧ Q (.str (a ++ b)) H) := rfl
theorem oSub_int : oSub (.int i) (.int j) H Q = Q (.int (i - j)) H := rfl
theorem oMul_int : oMul (.int i) (.int j) H Q = (IntMulOk i j ∧ Q (.int (i * j)) H) := rfl
theorem oFdiv_int : oFdiv (.int i) (.int j) H Q = (CDivW i j ∧ Q (.int (i / j)) H) := rfl
theorem oMod_int : oMod (.int i) (.int j) H Q = (0 < j ∧ Q (.int (i % j)) H) := rfl
theorem oPow_int : oPow (.int i) (.int j) H Q = (CPow i j ∧ Q (.int (i ^ j.toNat)) H) := rfl
theorem uNeg_int : uNeg (.int i) H Q = Q (.int (-i)) H := rfl
theorem oLt_int : oLt (.int i) (.int j) H Q = Q (.bl (decide (i < j))) H := rfl
theorem oLe_int : oLe (.int i) (.int j) H Q = Q (.bl (decide (i ≤ j))) H := rfl
theorem oGt_int : oGt (.int i) (.int j) H Q = Q (.bl (decide (j < i))) H := rfl
theorem oGe_int : oGe (.int i) (.int j) H Q = Q (.bl (decide (j ≤ i))) H := rfl
theorem cLen_ref : cLen K [.ref p] H Q = rdSeq K H p fun ys => Q (.int ys.length) H := rfl
theorem cAbs_int : cAbs [.int i] H Q = Q (.int (if i < 0 then -i else i)) H := rfl
theorem cInt_int : cInt [.int i] H Q = Q (.int i) H := rfl
theorem cInt_bl : cInt [.bl c] H Q = Q (.int (if c then 1 else 0)) H := rfl
theorem cList_ref : cList K [.ref p] H Q = rdSeq K H p fun ys => ∀ l, H l = none → Q (.ref l) (upd H l (.lst ys)) := rfl
theorem iIx_ref : iIx K (.ref p) (.int i) H Q = rdSeq K H p fun xs => match atI xs i with
    | some v => Q v H
    | none => False := rfl
theorem stL_ref : stL (.ref p) (.int i) v H QH = (match H p with
    | some (.lst xs) => match setI xs i v with
      | some ys => QH (upd H p (.lst ys))
      | none => False
    | _ => False) := rfl
end
end HG
namespace HG
theorem if_yes {A B : Prop} (h : A) : if true = true then A else B := by rw [if_pos rfl]; exact h
theorem if_no {A B : Prop} (h : B) : if false = true then A else B := by rw [if_neg (by decide)]; exact h
end HG

namespace HG
open PySem L2
/-! ### kinds of values -/
/-- the type of a value, by the abstract heap -/
def tyF (H : Hp) : V → Option Value
  | .non => some (.type "NoneType")
  | .bl _ => some (.type "bool")
  | .int _ => some (.type "int")
  | .str _ => some (.type "str")
  | .ref a => match H a with
    | some (.lst _) => some (.type "list")
    | some (.tup _) => some (.type "tuple")
    | some (.dK _) => some (.type "dict")
    | some (.dT _) => some (.type "dict")
    | some (.ins C _ _) => some (.ref C)
    | _ => none
  | _ => none
/-- what isinstance asks of a class of the text -/
structure InsTy (K : PySem.W.Frag) (C : Addr) : Prop where
  cl : Cls K C
  ha : PySem.W.findIn K (.ref C) "__class__" = some (some (.builtin "object.__class__"))
  hn : PySem.W.specialIn K (.builtin "object.__class__") "__get__" = some (some (.builtin "getset_descriptor.__get__"))
  htk : PySem.W.takesIn K (.builtin "object.__class__") = some true
  hm : PySem.W.mroIn K C (.type "object") = some true
def tyOk (K : PySem.W.Frag) : Value → Prop
  | .ref C => InsTy K C
  | _ => True
theorem tyX_of {K : PySem.W.Frag} {H : Hp} {x : V} {t : Value} (h : tyF H x = some t) (ok : tyOk K t) : TyX K H x t := by
  cases x with
  | non => cases h; exact .base .non
  | bl b => cases h; exact .base (.bl b)
  | int i => cases h; exact .base (.int i)
  | str z => cases h; exact .base (.str z)
  | byt z => cases h
  | flt z => cases h
  | ty z => cases h
  | ref a =>
    simp only [tyF] at h
    split at h
    · rename_i e; cases h; exact .base (.lst e)
    · rename_i e; cases h; exact .base (.tup e)
    · rename_i e; cases h; exact .base (.dK e)
    · rename_i e; cases h; exact .base (.dT e)
    · rename_i e; cases h; exact .base (.ins e ok.cl ok.ha ok.hn ok.htk ok.hm)
    · cases h
/-- isinstance(x, c) -/
def cIsi (K : PySem.W.Frag) : List V → Hp → VK → Prop := fun xs H Q => match xs with
  | [x, .ty n] => match tyF H x with
    | some t => tyOk K t ∧ match PySem.W.kitOne K t (.type n) with
      | some b => Q (.bl b) H
      | none => False
    | none => False
  | [x, .ref C] => match tyF H x with
    | some t => tyOk K t ∧ match PySem.W.kitOne K t (.ref C) with
      | some b => Q (.bl b) H
      | none => False
    | none => False
  | _ => False
theorem call_isiU {X : Cx} : CallR X (.builtin "isinstance") (cIsi X.K) := callImp call_isi fun xs H Q h => by
  unfold cIsi at h
  split at h
  · split at h
    · rename_i e
      obtain ⟨h1, h2⟩ := h
      split at h2
      · rename_i e2
        exact ⟨_, _, _, _, _, rfl, .ty _, tyX_of e h1, e2, h2⟩
      · exact h2.elim
    · exact h.elim
  · split at h
    · rename_i e
      obtain ⟨h1, h2⟩ := h
      split at h2
      · rename_i e2
        exact ⟨_, _, _, _, _, rfl, .own _, tyX_of e h1, e2, h2⟩
      · exact h2.elim
    · exact h.elim
  · exact h.elim
/-! ### operators of a class of the text -/
theorem cmpBack {X : Cx} {pins : List (Addr × Obj)} {σ : L2.St} {Q : VK} {u : Value} {s : Shared} (h : EP X pins σ Q u s) : PySem.W.CmpBack (EP X pins σ Q) u s := by
  obtain ⟨v, H', I, r, q⟩ := h
  cases u with
  | notImplemented =>
    cases v with
    | non => cases r
    | bl b => cases r
    | int i => obtain ⟨t, e⟩ := r; cases e
    | str i => obtain ⟨t, e⟩ := r; cases e
    | byt i => obtain ⟨t, e⟩ := r; cases e
    | flt i => obtain ⟨t, e⟩ := r; cases e
    | ref a => cases r
    | ty n => cases r
  | _ => exact ⟨v, H', I, r, q⟩
def isIns (C : Addr) (H : Hp) : V → Prop
  | .ref a => match H a with
    | some (.ins D _ _) => D = C
    | _ => False
  | _ => False
theorem isIns_out {C : Addr} {H : Hp} {x : V} (h : isIns C H x) : ∃ a dx fs, x = .ref a ∧ H a = some (.ins C dx fs) := by
  cases x with
  | ref a =>
    unfold isIns at h
    simp only at h
    split at h
    · rename_i e; subst h; exact ⟨a, _, _, rfl, e⟩
    · exact h.elim
  | _ => exact h.elim
/-- a def f of the text, called on values at X.A -/
structure Own (X : Cx) (k : Nat) (f : Addr) (sp : Sp) : Prop where
  run : ∀ {pins : List (Addr × Obj)} {σ : L2.St} {H : Hp} {s : Shared} {Q : VK} {us : List Value} {vs : List V}, Inv X pins σ H s → Vals vs us → sp vs H Q E0 → wpAny (model X.prog X.w) X.A (call (.ref f) us) (EP X pins σ Q) X.xe s
/-- x op y, x of the class at C, y of the same or an int -/
structure BinF (K : PySem.W.Frag) (C f : Addr) (op : Operator) : Prop where
  sf : PySem.W.selfFirst K C = true
  fn : PySem.W.findIn K (.ref C) (PySem.dunder op.info.2) = some (some (.ref f))
  isf : PySem.W.isFn K (.ref f) = true
  rc : ∃ rc, PySem.W.findIn K (.ref C) (dunderR op.info.2) = some rc ∧ (rc = none ∨ ∃ g : Addr, rc = some (.ref g))
  i1 : ∃ fo, PySem.W.findIn K (.type "int") (PySem.dunder op.info.2) = some fo
  i2 : ∃ ro, PySem.W.findIn K (.type "int") (dunderR op.info.2) = some ro
  sub : PySem.W.subIn K (.type "int") (.ref C) = some false
/-- x cmp y, x of the class at C -/
structure CmpF (K : PySem.W.Frag) (C f : Addr) (op : CmpOp) : Prop where
  fn : PySem.W.findIn K (.ref C) (cmpInfo op).2.1 = some (some (.ref f))
  isf : PySem.W.isFn K (.ref f) = true
def rCmp (K : PySem.W.Frag) (C : Addr) (sp : Sp) : R2 := fun x y H Q => isIns C H x ∧ (∃ t, tyF H y = some t ∧ tyOk K t ∧ PySem.W.notFirst K C t = true) ∧ sp [x, y] H Q E0
theorem op_cmp {X : Cx} {k : Nat} {C f : Addr} {op : CmpOp} {sp : Sp} (B : CmpF X.K C f op) (O : Own X k f sp) (hu : X.A.units < cLine) (hop : ∀ a b, compareOp op a b = richCompare op a b := by intros; rfl) : OpR X (compareOp op) (rCmp X.K C sp) := by
  intro pins s σ H x y v u Q I rx ry h
  obtain ⟨h1, ⟨t, h2, h4, h5⟩, h3⟩ := h
  obtain ⟨a, dx, fs, rfl, ea⟩ := isIns_out h1
  cases rx
  obtain ⟨mA, J, _⟩ := ins_get I.hok ea
  obtain ⟨od, J, _⟩ := J.look
  obtain ⟨m, hF⟩ := I.fr
  rw [hop]
  obtain ⟨P, Z, p, _⟩ := kit_of I ry (tyX_of h2 h4)
  exact PySem.W.cmp_K hu hF I.ok.mod.kin J (Z.ty _ _ I.kIn p) h5 B.fn B.isf (thn (O.run (vs := [.ref a, y]) I (.cons rfl (.cons ry .nil)) h3) fun _ _ z => cmpBack z)
end HG

namespace HG
open PySem L2
/-! ### n + y, n - y -/
structure ReflF (K : PySem.W.Frag) (C f g : Addr) (op : Operator) : Prop where
  sf : PySem.W.selfFirst K C = true
  fn : PySem.W.findIn K (.ref C) (PySem.dunder op.info.2) = some (some (.ref f))
  rn : PySem.W.findIn K (.ref C) (dunderR op.info.2) = some (some (.ref g))
  isf : PySem.W.isFn K (.ref g) = true
  sub : PySem.W.subIn K (.ref C) (.type "int") = some false
  fo : ∃ fo ro, PySem.W.findIn K (.type "int") (PySem.dunder op.info.2) = some fo ∧ PySem.W.findIn K (.type "int") (dunderR op.info.2) = some ro ∧ ((fo.isSome && !isSeqSlot fo) || (ro.isSome && !isSeqSlot ro)) = true
structure InpF (K : PySem.W.Frag) (C f : Addr) (op : Operator) : Prop where
  sf : PySem.W.selfFirst K C = true
  fn : PySem.W.findIn K (.ref C) (PySem.dunder op.info.2) = some (some (.ref f))
  isf : PySem.W.isFn K (.ref f) = true
  no : ∀ (M : Model) (h : Heap), K.In h → PySem.W.Looks M h (fillsInplaceSlot (.ref C) op.info.2 (op == .Add)) false
/-! ### x != y by the text's == -/
structure NeF (K : PySem.W.Frag) (C f : Addr) : Prop where
  cls : ∃ nm q N bs hdct sn sub ab col dd k0 k1 k2 k3 k5 newId, K.lookup C = some (excClassObj nm q C N bs [.type "object"] hdct sn sub ab col dd k0 k1 k2 k3 k5 newId) ∧ PySem.W.nsOkIn K N = true ∧ PySem.W.nsIn K N "__eq__" = some (some (.ref f)) ∧ PySem.W.nsIn K N "__ne__" = some none
  fn : ∃ of, K.lookup f = some of ∧ of.cls = .type "function"
/-- a def of the text, called one builtin deeper -/
structure Own1 (X : Cx) (k : Nat) (f : Addr) (sp : Sp) : Prop where
  run : ∀ {pins : List (Addr × Obj)} {σ : L2.St} {H : Hp} {s : Shared} {Q : VK} {us : List Value} {vs : List V}, Inv X pins σ H s → Vals vs us → sp vs H Q E0 → wpAny (model X.prog X.w) X.A.in1 (call (.ref f) us) (EP X pins σ Q) X.xe s
def rNeO (C : Addr) (sp : Sp) : R2 := fun x y H Q => isIns C H x ∧ isIns C H y ∧ sp [x, y] H (fun v H' => match v with | .bl b => Q (.bl (!b)) H' | _ => False) E0
end HG

/-! Defs of the text, called where no repr is under way (GA): what the hand layer says of a def (FnOk), with this one premise more. -/
namespace HG
open PySem L2 PyProof.Rows
abbrev GA (A : Around) : Prop := A.guards = some []
structure FnG (P : Program) (w : World) (K : PySem.W.Frag) (mg : Str → Option Value) (base : Heap) (CX : CXT) (k : Nat) (f : Addr) (fd : FuncData) (ps : List Str) (sp : Sp) : Prop where
  len : ∀ vs H Q E, sp vs H Q E → vs.length = ps.length
  run : ∀ (A : Around) (outer : List Env) (s : Shared) (H : Hp) (args : Args) (us : List Value) (vs : List V) (Q : VK) (E : XK), Room k A → GA A → Env0 P w K mg base A outer s H → BindsTo s fd args (ps.zip us) → Vals vs us → sp vs H Q E →
    codeAny (model P w) A (.call (.ref f) args) (CR CX outer P w H s Q E) s
section
variable {P : Program} {w : World} {K : PySem.W.Frag} {mg : Str → Option Value} {base : Heap} {CX : CXT} {j k : Nat} {f : Addr} {fd : FuncData} {ps : List Str} {sp : Sp}
theorem FnG.up (F : FnG P w K mg base CX j f fd ps sp) (h : j ≤ k) : FnG P w K mg base CX k f fd ps sp := ⟨F.len, fun A outer s H args us vs Q E hr => F.run A outer s H args us vs Q E (hr.mono h)⟩
theorem ga_deeper {A : Around} {env : Env} (h : GA A) : GA (A.deeper env) := h
theorem ga_in1 {A : Around} (h : GA A) : GA A.in1 := h
theorem ga_make {A : Around} (C : Addr) (us : List Value) (kw : List (Str × Value)) (h : GA A) : GA (A.under (.builtin "type.__call__" ⟨.ref C :: us, kw⟩)) := by
  have e : (Code.builtin "type.__call__" ⟨.ref C :: us, kw⟩).isGuard = false := by
    show guardIds.contains "type.__call__" = false
    decide +kernel
  have g : (A.under (.builtin "type.__call__" ⟨.ref C :: us, kw⟩)).guards = pushGuards (Code.builtin "type.__call__" ⟨.ref C :: us, kw⟩).guards A.guards := rfl
  unfold GA
  rw [g]
  unfold Code.guards
  rw [e, show A.guards = some [] from h]
  rfl
/-- a def by its body -/
theorem fnG_of {name qual : Str} {params : Arguments} {body : List Stmt} {scope : Scope} {dV kV doc pm cdv ct oc : Value} {an od : Option Addr} {osl : Array (Option Value)} {N : List Str}
    (lk : K.lookup f = some ⟨oc, od, .func (PySem.W.fnOf name qual params body scope dV kV doc pm an cdv ct), osl⟩) (hcd : PySem.W.codeIn K cdv qual = true) (S : FnScope N ps scope) (len : ∀ vs H Q E, sp vs H Q E → vs.length = ps.length)
    (hbody : ∀ (A : Around) (outer : List Env) (s : Shared) (H : Hp) (vs : List V) (Q : VK) (E : XK), Room k (A.deeper (envOfC qual scope s.heap.objs.size f cdv)) → GA (A.deeper (envOfC qual scope s.heap.objs.size f cdv)) → sp vs H Q E →
      ∃ t, PSs (cxOf CX P w K mg base N qual scope f cdv A outer s H E) body t ∧ t { nx := fun _ H' => Q .non H', rt := Q } (L2.start N vs) H) :
    FnG P w K mg base CX (k + 1) f (PySem.W.fnOf name qual params body scope dV kV doc pm an cdv ct) ps sp := by
  refine ⟨len, fun A outer s H args us vs Q E hr hG e0 hb r hsp => ?_⟩
  have F : FnOk P w K mg base CX (k + 1) f (PySem.W.fnOf name qual params body scope dV kV doc pm an cdv ct) ps sp → codeAny (model P w) A (.call (.ref f) args) (CR CX outer P w H s Q E) s := fun F => F.run A outer s H args us vs Q E hr e0 hb r hsp
  have KX : K.In s.heap := e0.mod.kin.keeps fun b o e => (e0.bs b o e).1
  have lim : s.heap.NoLimit := e0.mod.nolimit.keeps fun b o e => (e0.bs b o e).1
  refine codeAny_call_function hr.depth (KX _ _ lk) rfl S.co S.gen rfl (PySem.W.codeRec_of KX hcd) (hb _ _ _ _ ?_)
  refine wpAny_newFunctionEnv_cells S.kind (fun y hy => ?_) fun env he s1 x => ?_
  · rcases S.par y.1 (List.of_mem_zip hy).1 with q | q
    · exact .inl q
    · exact .inr ⟨q, PySem.W.cellsFrom_some _ _ _ (.inl q)⟩
  · subst he
    refine ⟨lim.keeps x.toInCall.keep, codeAny_func ?_⟩
    obtain ⟨t, ht, hq⟩ := hbody A outer s H vs Q E (hr.deeper _) (ga_deeper hG) hsp
    have I := inv_start (CX := CX) (E := E) S hr.hd e0 (len _ _ _ _ hsp) r x
    refine wpAny_mono (ht.run [] s1 (L2.start N vs) H _ I hq) (fun fl s' hs => ?_) fun e s' hs => hs
    cases fl with
    | ret u =>
      obtain ⟨v, σ', H', J, rv, q⟩ := hs
      exact ⟨v, H', J.os, J.bare, J.base, J.hok, rv, q⟩
    | next =>
      obtain ⟨σ', H', J, q⟩ := hs
      exact ⟨.non, H', J.os, J.bare, J.base, J.hok, rfl, q⟩
    | brk => exact hs.elim fun _ z => z.elim fun _ z => z.2.elim
    | cont => exact hs.elim fun _ z => z.elim fun _ z => z.2.elim
theorem okG {x qual : Str} {st : Stmt} {N : List Str} (F : Fun K x qual st f fd) (S : FnScope N ps (defScope st)) (len : ∀ vs H Q E, sp vs H Q E → vs.length = ps.length)
    (hbody : ∀ (cdv : Value) (A : Around) (outer : List Env) (s : Shared) (H : Hp) (vs : List V) (Q : VK) (E : XK), Room k (A.deeper (envOfC qual (defScope st) s.heap.objs.size f cdv)) → GA (A.deeper (envOfC qual (defScope st) s.heap.objs.size f cdv)) → sp vs H Q E →
      ∃ t, PSs (cxOf CX P w K mg base N qual (defScope st) f cdv A outer s H E) (defBody st) t ∧ t { nx := fun _ H' => Q .non H', rt := Q } (L2.start N vs) H) : FnG P w K mg base CX (k + 1) f fd ps sp := by
  obtain ⟨oc, od, kV, doc, pm, an, cdv, ct, osl, rfl, lk, hcd⟩ := F.ex
  exact fnG_of lk hcd S len fun A outer s H vs Q E hr hG h => hbody cdv A outer s H vs Q E hr hG h
end
section
variable {X : Cx} {CX : CXT} {k : Nat} {f C : Addr} {fd : FuncData} {ps : List Str} {sp : Sp} {dvs : List V} {ds : List Value} {E : XK} {x m : Str} {p pos apos : Pos} {e o : Expr} {es : List Expr} {ta : TE} {t : TA}
/-- what lies behind the run of a callee -/
theorem behind {pins : List (Addr × Obj)} {σ : L2.St} {H : Hp} {s s' : Shared} {Q : VK} {r : Result} (hx : Passes CX X E) (I : Inv X pins σ H s) (h : CR CX X.stack X.prog X.w H s Q E r s') : wants (EP X pins σ Q) X.xe r s' := by
  cases r with
  | error e => exact hx pins σ H s e s' I h
  | ok fl =>
    cases fl with
    | ret u => exact I.after h
    | next => exact h.elim
    | brk => exact h.elim
    | cont => exact h.elim
theorem runG {pins : List (Addr × Obj)} {σ : L2.St} {H : Hp} {s : Shared} {Q : VK} {us : List Value} {vs : List V} (F : FnG X.prog X.w X.K X.mg X.base CX k f fd ps sp) (hr : Room k X.A) (hG : GA X.A) (hb : Binds X.K fd ps ds) (hd : Vals dvs ds) (hx : Passes CX X E)
    (I : Inv X pins σ H s) (r : Vals vs us) (h : sp (vs ++ dvs) H Q E) : wpAny (model X.prog X.w) X.A (call (.ref f) us) (EP X pins σ Q) X.xe s := by
  have r2 := Vals.append r hd
  have hl : (us ++ ds).length = ps.length := r2.length.symm.trans (F.len _ _ _ _ h)
  exact wpAny_call (codeAny_mono (F.run X.A X.stack s H ⟨us, []⟩ (us ++ ds) (vs ++ dvs) Q E hr hG I.env0 (hb s us I.kIn hl) r2 h) fun r s' hq => behind hx I hq)
theorem run1G {pins : List (Addr × Obj)} {σ : L2.St} {H : Hp} {s : Shared} {Q : VK} {us : List Value} {vs : List V} (F : FnG X.prog X.w X.K X.mg X.base CX k f fd ps sp) (hr : Room (k + 1) X.A) (hG : GA X.A) (hb : Binds X.K fd ps ds) (hd : Vals dvs ds) (hx : Passes CX X E)
    (I : Inv X pins σ H s) (r : Vals vs us) (h : sp (vs ++ dvs) H Q E) : wpAny (model X.prog X.w) X.A.in1 (call (.ref f) us) (EP X pins σ Q) X.xe s := by
  have r2 := Vals.append r hd
  have hl : (us ++ ds).length = ps.length := r2.length.symm.trans (F.len _ _ _ _ h)
  exact wpAny_call (codeAny_mono (F.run X.A.in1 X.stack s H ⟨us, []⟩ (us ++ ds) (vs ++ dvs) Q E hr.in1 (ga_in1 hG) I.env0.in1 (hb s us I.kIn hl) r2 h) fun r s' hq => behind hx I hq)
theorem ownG (F : FnG X.prog X.w X.K X.mg X.base CX k f fd ps sp) (hr : Room k X.A) (hG : GA X.A) (hb : Binds X.K fd ps []) (hx : Passes CX X E0) : Own X k f sp :=
  ⟨fun {pins σ H s Q us vs} I r h => runG (dvs := []) (ds := []) F hr hG hb .nil hx I r (by rw [List.append_nil]; exact h)⟩
theorem own1G (F : FnG X.prog X.w X.K X.mg X.base CX k f fd ps sp) (hr : Room (k + 1) X.A) (hG : GA X.A) (hb : Binds X.K fd ps []) (hx : Passes CX X E0) : Own1 X k f sp :=
  ⟨fun {pins σ H s Q us vs} I r h => run1G (dvs := []) (ds := []) F hr hG hb .nil hx I r (by rw [List.append_nil]; exact h)⟩
theorem pe_callG (F : FnG X.prog X.w X.K X.mg X.base CX k f fd ps sp) (hr : Room k X.A) (hG : GA X.A) (hg : Gl X x) (hm : X.mg x = some (.ref f)) (hk : PySem.W.keepIn X.K (.ref f) = true) (hb : Binds X.K fd ps ds) (hd : Vals dvs ds) (hx : Passes CX X E)
    (ha : PA X (e :: es) t) (hdb : (x == ("__debug__" : Str)) = false := by decide) (he : starEach (e :: es) X.env = (false, eval e X.env) :: starEach es X.env := by rfl) (hpl : (backTo pos (starEach es X.env)).any (·.1) = false := by rfl) :
    PE X (.Call (.Name x p) (e :: es) [] pos) (tCall sp dvs E t) :=
  ⟨fun pins s σ H Q I h => wpAny_Call_Name_kw (ld_glob I hg hm (PySem.W.callWith_K (h₀ := X.base) I.ok.mod.kin hk (thn (ha.run pos pins s σ H _ I h) fun us s1 z => by
    obtain ⟨vs, H1, I1, r, q⟩ := z
    exact ⟨I1.kIn, runG F hr hG hb hd hx I1 r q⟩) he hpl) hdb)⟩
/-- how the values of a call with keywords stand in the parameters' order -/
structure KwB (K : PySem.W.Frag) (fd : FuncData) (ps : List Str) (n : Nat) (ks : List Str) (gV : List V → List V → List V) : Prop where
  to : ∀ (s : Shared) {vs zs : List V} {us ws : List Value}, K.In s.heap → Vals vs us → Vals zs ws → vs.length = n → zs.length = ks.length → ∃ as, BindsTo s fd ⟨us, ks.zip ws⟩ (ps.zip as) ∧ Vals (gV vs zs) as
/-- a new instance, then __init__ -/
theorem makeG {pins : List (Addr × Obj)} {σ : L2.St} {H : Hp} {s : Shared} {Q : VK} {us ws as : List Value} {ks : List Str} {vs : List V} (M : Mk X.K C f) (F : FnG X.prog X.w X.K X.mg X.base CX k f fd ps sp) (hr : Room (k + 1) X.A) (hG : GA X.A) (hx : Passes CX X E)
    (I : Inv X pins σ H s)
    (hb : ∀ s', X.K.In s'.heap → BindsTo s' fd ⟨Value.ref (s.heap.objs.size + 1) :: us, ks.zip ws⟩ (ps.zip as)) (r : Vals vs as)
    (h : sp vs (upd (upd H s.heap.objs.size (.own (s.heap.objs.size + 1))) (s.heap.objs.size + 1) (.ins C s.heap.objs.size [])) (fun v H2 => v = .non ∧ Q (.ref (s.heap.objs.size + 1)) H2) E) :
    wpAny (model X.prog X.w) X.A (call (.ref C) us (ks.zip ws)) (EP X pins σ Q) X.xe s := by
  have I2 := Inv.made (C := C) I
  refine wpAny_call (make_map (f := f) I.kIn M.makes M.init (beq_iff_eq.mp M.fn) (codeAny_mono (F.run _ X.stack _ _ _ as vs _ E (hr.make C us (ks.zip ws)) (ga_make C us (ks.zip ws) hG) (I2.env0.make C us (ks.zip ws)) (hb _ I2.kIn) r h) fun r s' hq => ?_))
  cases r with
  | error e => exact hx pins σ _ _ e s' I2 hq
  | ok fl =>
    cases fl with
    | ret u =>
      obtain ⟨v, H', I3, rv, ev, q3⟩ := I2.after hq
      subst ev
      exact ⟨rv, .ref (s.heap.objs.size + 1), H', I3, rfl, q3⟩
    | next => exact hq.elim
    | brk => exact hq.elim
    | cont => exact hq.elim
theorem pe_makeG (M : Mk X.K C f) (F : FnG X.prog X.w X.K X.mg X.base CX k f fd ps sp) (hr : Room (k + 1) X.A) (hG : GA X.A) (hg : Gl X x) (hm : X.mg x = some (.ref C)) (hb : Binds X.K fd ps ds) (hd : Vals dvs ds) (hx : Passes CX X E)
    (ha : PA X (e :: es) t) (hdb : (x == ("__debug__" : Str)) = false := by decide) (he : starEach (e :: es) X.env = (false, eval e X.env) :: starEach es X.env := by rfl) (hpl : (backTo pos (starEach es X.env)).any (·.1) = false := by rfl) :
    PE X (.Call (.Name x p) (e :: es) [] pos) (tMake C sp dvs E t) := by
  refine ⟨fun pins s σ H Q I h => wpAny_Call_Name_kw (ld_glob I hg hm (PySem.W.callWith_K (h₀ := X.base) I.ok.mod.kin M.kp (thn (ha.run pos pins s σ H _ I h) fun us s1 z => ?_) he hpl) hdb)⟩
  obtain ⟨vs, H1, I1, r, q⟩ := z
  refine ⟨I1.kIn, ?_⟩
  have hq := q (s1.heap.objs.size + 1) s1.heap.objs.size (I1.hok.fresh (Nat.le_succ _)) (I1.hok.fresh (Nat.le_refl _)) (Nat.ne_of_lt (Nat.lt_succ_self _))
  have r2 : Vals (V.ref (s1.heap.objs.size + 1) :: (vs ++ dvs)) (Value.ref (s1.heap.objs.size + 1) :: (us ++ ds)) := .cons rfl (r.append hd)
  have hl : (Value.ref (s1.heap.objs.size + 1) :: us ++ ds).length = ps.length := r2.length.symm.trans (F.len _ _ _ _ hq)
  exact makeG (ks := []) (ws := []) M F hr hG hx I1 (fun s' kin => hb s' (Value.ref (s1.heap.objs.size + 1) :: us) kin hl) r2 hq
end
/-! ### the law's end -/
/-- the law's def at an abstract heap in which at most the script is tracked -/
theorem lawAt {P : Program} {w : World} {K : PySem.W.Frag} {mg mb : Str → Option Value} {CX : CXT} {k : Nat} {fa a : Addr} {fd : FuncData} {x : Str} {sp : Sp} {s₁ : Shared} {H : Hp}
    (KX : K.In s₁.heap) (hns : s₁.heap.Ns mainGlobals mg) (hb : s₁.heap.Ns builtinsNs mb) (hbb : ∀ x : Str, x ≠ "__name__" → mb x = bootBuiltins x) (hlim : s₁.heap.NoLimit) (hg : s₁.gens = #[]) (hr : Room k callerA)
    (F : ∀ base : Heap, K.In base → base.Ns mainGlobals mg → FnG P w K mg base CX k fa fd [x] sp) (hbind : ∀ (s : Shared) (u : Value), BindsTo s fd ⟨[u], []⟩ [(x, u)])
    (hsp : sp [.ref a] H (fun v _ => v = .bl true) E0) (hCX : ∀ e s', CX [] H s₁ E0 e s' → False)
    (hok : HOk P w H s₁.heap) (free : ∀ b o, s₁.heap.get? b = some o → (∃ es ep, o.data = .dict es ep) ∨ (K.lookup b).isSome = true → H b = none)
    (frz : ∀ b u, H b = some u → ∃ ob xs, u = .frz ob xs) :
    codeAny (model P w) callerA (.call (.ref fa) ⟨[.ref a], []⟩) (fun r s' => r = .ok (.ret (.bool true)) ∧ OldK s₁.heap s'.heap ∧ s'.os = s₁.os ∧ AllBare s'.gens) s₁ := by
  have ns : ∀ {b : Addr} {m : Str → Option Value}, s₁.heap.Ns b m → (hidT s₁.heap H).Ns b m := fun {b m} z => by
    obtain ⟨o, es, ep, e, d, r⟩ := z
    exact ⟨o, es, ep, hidT_get e (free b o e (.inl ⟨es, ep, d⟩)), d, r⟩
  have kb : K.In (hidT s₁.heap H) := fun b o e => hidT_get (KX b o e) (free b o (KX b o e) (.inr (by rw [e]; rfl)))
  have md : Mod K mg (hidT s₁.heap H) := by
    obtain ⟨mc, h1, h2⟩ := hlim
    exact ⟨kb, ns hns, ⟨mb, ns hb, hbb⟩, mc, ns h1, h2⟩
  have e0 : Env0 P w K mg (hidT s₁.heap H) callerA [] s₁ H :=
    { frames := rfl, mod := md, bs := fun b o e => of_hidT e, bsz := Nat.le_of_eq (hidT_size _ _), funs := trivial, frf := fun b z => (List.not_mem_nil z).elim, hok := hok, bare := .of_eq hg }
  refine codeAny_mono ((F _ kb (ns hns)).run callerA [] s₁ H ⟨[.ref a], []⟩ [.ref a] [.ref a] _ _ hr rfl e0 (hbind s₁ (.ref a)) (.cons rfl .nil) hsp) fun r s' h => ?_
  match r, h with
  | .error e, h => exact (hCX e s' h).elim
  | .ok .next, h => exact h.elim
  | .ok .brk, h => exact h.elim
  | .ok .cont, h => exact h.elim
  | .ok (.ret u), h =>
    obtain ⟨v, H', os, bare, un, hok', rv, q⟩ := h
    have q' : v = .bl true := q
    subst q'
    cases rv
    refine ⟨rfl, OldK.of_keep fun b o e => ?_, os, bare⟩
    cases eb : H b with
    | none => exact un.keep b o e eb (fun z => (List.not_mem_nil z).elim) (fun z => (List.not_mem_nil z).elim)
    | some u =>
      obtain ⟨ob, xs, rfl⟩ := frz b u eb
      have e1 := (hok b _ eb).1
      rw [e] at e1
      cases e1
      exact (hok' b _ (un.frzs b _ xs eb)).1
theorem walkG {l : PySem.W.OpenLaw} {n k : Nat} {q : Program} {loose : List Str} {XP : (Str → Option Value) → Heap → Prop} {YP : World → Heap → Prop} {d : DefRec} {K : Params → PySem.W.Frag} {CX : World → CXT} {sp : World → Sp} {x : Str}
    (hn : l.most = some n) (hn2 : n ≤ sizeLine) (hdf : d.params.defaults = []) (hr : Room k callerA)
    (hY : ∀ (w : World) (h : Heap), YP w h → (K w.params).In h)
    (F : ∀ (w : World) (mg : Str → Option Value) (fa : Addr) (h : Heap), (K w.params).In h → h.Ns mainGlobals mg → mg d.name = some (.ref fa) →
      ∃ fd : FuncData, (∀ (s : Shared) (u : Value), BindsTo s fd ⟨[u], []⟩ [(x, u)]) ∧
        ∀ base : Heap, (K w.params).In base → base.Ns mainGlobals mg → FnG l.prog w (K w.params) mg base (CX w) k fa fd [x] (sp w))
    (hsp : ∀ (w : World) (H : Hp) (a : Addr) (ns : List Int), ns.length ≤ n → SqL (K w.params) H a (ns.map V.int) → (H a = none ∨ (∃ o u, H a = some (.frz o u)) ∨ H a = some (.lst (ns.map V.int))) → sp w [.ref a] H (fun v _ => v = .bl true) E0)
    (hCX : ∀ (w : World) (H : Hp) (s : Shared) (e : Value) (s' : Shared), CX w [] H s E0 e s' → False) :
    PySem.W.WalkO q loose XP YP l.row.toRowW d [] (fun f vs => PySem.call f vs) := by
  refine Att.attach_call hn hdf fun w s₀ s₁ mg mb fa o pm cd doc a vs ns G Y ho hd hcd hmg hobj hints hlen hg => ?_
  have KX := hY w _ Y
  obtain ⟨fd, hb, hF⟩ := F w mg fa _ KX G.T.g hmg
  have rv := vals_ints hints
  have lv := hints.length
  have hl : ns.length ≤ sizeLine := Nat.le_trans hlen hn2
  cases hk : (K w.params).lookup a with
  | some ob =>
    have e := KX a ob hk
    rw [hobj] at e
    cases e
    have sq : SqL (K w.params) (fun _ => none) a (ns.map V.int) := .inr ⟨_, vs.toArray, _, hk, rfl, rfl, rfl, by rw [List.size_toArray, lv]; exact hl, by simpa using rv⟩
    exact lawAt (H := fun _ => none) KX G.T.g G.T.b G.T.builtins G.T.nolimit hg hr hF hb (hsp w _ a ns hlen sq (.inl rfl)) (fun e s' => hCX w _ s₁ e s') (fun b u z => by cases z) (fun _ _ _ _ => rfl) (fun b u z => by cases z)
  | none =>
    let Hs : Hp := fun b => if b = a then some (.frz { cls := .type "list", data := .seq vs.toArray } (.lst (ns.map V.int))) else none
    have ha : Hs a = some (.frz { cls := .type "list", data := .seq vs.toArray } (.lst (ns.map V.int))) := if_pos rfl
    have only : ∀ b u, Hs b = some u → b = a ∧ u = .frz { cls := .type "list", data := .seq vs.toArray } (.lst (ns.map V.int)) := fun b u z => by
      by_cases hb : b = a
      · have z' := (if_pos hb).symm.trans z
        exact ⟨hb, (Option.some.inj z').symm⟩
      · have z' := (if_neg hb).symm.trans z
        cases z'
    have sq : SqL (K w.params) Hs a (ns.map V.int) := .inl (.inr ⟨_, ha⟩)
    refine lawAt (H := Hs) KX G.T.g G.T.b G.T.builtins G.T.nolimit hg hr hF hb (hsp w _ a ns hlen sq (.inr (.inl ⟨_, _, ha⟩))) (fun e s' => hCX w _ s₁ e s') (fun b u z => ?_) (fun b o e z => ?_) (fun b u z => ?_)
    · obtain ⟨rfl, rfl⟩ := only b u z
      exact ⟨hobj, by rw [List.length_map]; exact hl, vs, _, rv, hobj⟩
    · by_cases hb : b = a
      · subst hb
        rcases z with ⟨es, ep, z⟩ | z
        · rw [hobj] at e
          cases e
          cases z
        · rw [hk] at z
          cases z
      · exact if_neg hb
    · obtain ⟨_, rfl⟩ := only b u z
      exact ⟨_, _, rfl⟩
end HG

namespace HG
open PySem L2
theorem never0 {CX : CXT} {P : Program} {w : World} {K : PySem.W.Frag} {mg : Str → Option Value} {base : Heap} {N : List Str} {qual : Str} {scope : Scope} {f : Addr} {cdv : Value} {A : Around} {outer : List Env} {s : Shared} {H : Hp} {E : XK} :
    PassesOwn (model (cxOf CX P w K mg base N qual scope f cdv A outer s H E).prog (cxOf CX P w K mg base N qual scope f cdv A outer s H E).w) (cxOf CX P w K mg base N qual scope f cdv A outer s H E).A (cxOf CX P w K mg base N qual scope f cdv A outer s H E).env (cxOf CX P w K mg base N qual scope f cdv A outer s H E).xe :=
  PassesOwn.leaving
end HG

namespace HG
open PySem L2
end HG

namespace HG
open PySem L2
/-- -x -/
structure NegF (K : PySem.W.Frag) (C f : Addr) : Prop where
  fn : PySem.W.findIn K (.ref C) "__neg__" = some (some (.ref f))
  isf : PySem.W.isFn K (.ref f) = true
/-! C(k = v, ..) -/
section
variable {X : Cx} {CX : CXT} {k : Nat} {f C : Addr} {fd : FuncData} {ps ks : List Str} {sp : Sp} {E : XK} {x : Str} {p pos : Pos} {kws : List Keyword} {tk : TA} {g : List Value → List Value → List Value} {gV : List V → List V → List V}
theorem pe_makeKG0 {n : Nat} (M : Mk X.K C f) (F : FnG X.prog X.w X.K X.mg X.base CX k f fd ps sp) (hr : Room (k + 1) X.A) (hG : GA X.A) (hg : Gl X x) (hm : X.mg x = some (.ref C)) (hb : KBn X.K fd ps 1 ks g gV) (hx : Passes CX X E) (hkw : PK X kws tk)
    (hall : (backToKw pos (keywordEach kws X.env)).all (·.1.isSome) = true := by rfl) (hks : (backToKw pos (keywordEach kws X.env)).filterMap (·.1) = ks := by rfl) (hdb : (x == ("__debug__" : Str)) = false := by decide)
    (hpl : ((backTo pos (starEach [] X.env)).any (·.1) || (backToKw pos (keywordEach kws X.env)).any (·.1.isNone)) = false := by rfl)
    (hnl : ks.length = n := by rfl) : PE X (.Call (.Name x p) [] kws pos) (tMakeK C 0 n sp gV E tNil tk) := by
  subst hnl
  refine ⟨fun pins s σ H Q I h => wpAny_Call_Name_kw (ld_glob I hg hm (PySem.W.callWith_KW0 (h₀ := X.base) I.ok.mod.kin M.kp hall (thn (hkw.run pos pins s σ H _ I h) fun ws s2 z => ?_) hpl) hdb)⟩
  obtain ⟨zs, H2, I2, rz, l1, l2, q2⟩ := z
  refine ⟨I2.kIn, ?_⟩
  rw [hks]
  have hq := q2 (s2.heap.objs.size + 1) s2.heap.objs.size (I2.hok.fresh (Nat.le_succ _)) (I2.hok.fresh (Nat.le_refl _)) (Nat.ne_of_lt (Nat.lt_succ_self _))
  have r1 : Vals [V.ref (s2.heap.objs.size + 1)] [Value.ref (s2.heap.objs.size + 1)] := .cons rfl .nil
  exact makeG (us := []) M F hr hG hx I2 (fun s' kin => hb.to s' [Value.ref (s2.heap.objs.size + 1)] ws kin rfl (rz.length.symm.trans l2)) (hb.rel r1 rz) hq
end
end HG
namespace HG
theorem _root_.L2.Room.units1 {k : Nat} {A : PySem.Around} (r : L2.Room k A) : A.units + 1 < PySem.cLine := by have := r.un; omega
end HG
namespace HG
open PySem L2
/-! ### attributes -/
def fldR (K : PySem.W.Frag) (x : V) (f : Str) (H1 : Hp) (Q : VK) : Prop := ∃ a C dx fs v, x = .ref a ∧ H1 a = some (.ins C dx fs) ∧ Cls K C ∧ NoAttr K C f ∧ fs.lookup f = some v ∧ Q v H1
theorem tFld_eq {K : PySem.W.Frag} {ta : TE} {f : Str} {σ : L2.St} {H : Hp} {Q : VK} : tFld K ta f σ H Q = ta σ H fun x H1 => fldR K x f H1 Q := rfl
theorem fldR_eq {K : PySem.W.Frag} {a C dx : Addr} {f : Str} {fs : List (Str × V)} {v : V} {H : Hp} {Q : VK} (h : H a = some (.ins C dx fs)) (c : Cls K C) (n : NoAttr K C f) (l : fs.lookup f = some v) : fldR K (.ref a) f H Q = Q v H := by
  refine propext ⟨?_, fun q => ⟨a, C, dx, fs, v, rfl, h, c, n, l, q⟩⟩
  rintro ⟨a', C', dx', fs', v', e1, e2, _, _, e3, q⟩
  cases e1
  rw [h] at e2
  cases e2
  rw [l] at e3
  cases e3
  exact q
theorem st_fld {K : PySem.W.Frag} {ta tv : TE} {f : Str} {D : Ends} {σ : L2.St} {H : Hp} (h : tv σ H fun y H1 => ta σ H1 fun x H2 => ∃ a C dx fs, x = .ref a ∧ H2 a = some (.ins C dx fs) ∧ Cls K C ∧ NoAttr K C f ∧ fs.length < 1000 ∧ D.nx σ (upd H2 a (.ins C dx (putF f y fs)))) : sFld K ta tv f D σ H := h
theorem isIns_of {C a dx : Addr} {H : Hp} {fs : List (Str × V)} (h : H a = some (.ins C dx fs)) : isIns C H (.ref a) := by
  simp only [isIns, h]
end HG

/-! Sizes of numbers; fractions in lowest terms. No program in sight. -/
namespace HG
open PySem L2
def Bn (m : Nat) (x : Int) : Prop := x.natAbs < 2 ^ m
section
variable {m n : Nat} {x y : Int}
theorem Bn.bits (h : Bn m x) : Builtin.Int.intBits x ≤ m := intBits_le_iff.mpr h
theorem Bn.of_bits (h : Builtin.Int.intBits x ≤ m) : Bn m x := intBits_le_iff.mp h
theorem Bn.up (h : Bn m x) (q : m ≤ n) : Bn n x := Nat.lt_of_lt_of_le h (Nat.pow_le_pow_right (by decide) q)
theorem Bn.sub (h : Bn m x) (q : Bn m y) : Bn (m + 1) (x - y) := by have z := intBits_sub_le h.bits q.bits; rw [Nat.max_self] at z; exact .of_bits z
theorem Bn.neg (h : Bn m x) : Bn m (0 - x) := by unfold Bn at *; rw [Int.zero_sub, Int.natAbs_neg]; exact h
theorem Bn.le (h : Bn m x) (q : y.natAbs ≤ x.natAbs) : Bn m y := Nat.lt_of_le_of_lt q h
end
section
variable {p q k r s : Int}
end
end HG

/-! The pen of the laws' scripts: what the laws' drawing defs are asked. -/
namespace HG
open PySem L2
/-- the pen at p, at most n cells used -/
def Pen (H : Hp) (p : Addr) (n : Nat) : Prop := ∃ (l : Addr) (cells : List Int) (turn rest : Int), H p = some (.lst [.ref l, .int turn, .int rest]) ∧ H l = some (.lst (cells.map V.int)) ∧ cells.length ≤ 63 ∧ 0 ≤ turn ∧ turn ≤ n ∧ 0 ≤ rest
def Grow (H H' : Hp) : Prop := ∀ b o, H b = some o → H' b = some o
theorem Grow.refl {H : Hp} : Grow H H := fun _ _ h => h
theorem Grow.trans {H H1 H2 : Hp} (h : Grow H H1) (q : Grow H1 H2) : Grow H H2 := fun b o e => q b o (h b o e)
theorem Grow.new {H : Hp} {p : Addr} {o : HO} (h : H p = none) : Grow H (upd H p o) := fun b u e => by
  rw [upd_ne (fun z => by rw [z, h] at e; cases e)]; exact e
theorem Grow.keep {p : Addr} {H H' : Hp} (h : Grow H H') : Keep p H H' := fun b o _ e => h b o e
theorem Keep.refl {p : Addr} {H : Hp} : Keep p H H := fun _ _ _ e => e
theorem Keep.trans {p : Addr} {H H1 H2 : Hp} (h : Keep p H H1) (q : Keep p H1 H2) : Keep p H H2 := fun b o n e => q b o n (h b o n e)
theorem Pen.grow {H H' : Hp} {p : Addr} {n : Nat} (h : Pen H p n) (g : Grow H H') : Pen H' p n := by
  obtain ⟨l, c, t, r, h1, h2, h3⟩ := h
  exact ⟨l, c, t, r, g _ _ h1, g _ _ h2, h3⟩
theorem Pen.up {H : Hp} {p : Addr} {m n : Nat} (h : Pen H p m) (g : m ≤ n) : Pen H p n := by
  obtain ⟨l, c, t, r, h1, h2, h3, h4, h5, h6⟩ := h
  exact ⟨l, c, t, r, h1, h2, h3, h4, by omega, h6⟩
theorem Pen.lst {H : Hp} {p : Addr} {n : Nat} (h : Pen H p n) : ∃ xs, H p = some (.lst xs) := by
  obtain ⟨l, c, t, r, h1, h2, h3⟩ := h
  exact ⟨_, h1⟩
/-- what is no list is not the pen -/
theorem Pen.other {H : Hp} {p b : Addr} {n : Nat} {C dx : Addr} {fs : List (Str × V)} (h : Pen H p n) (q : H b = some (.ins C dx fs)) : b ≠ p := by
  obtain ⟨xs, e⟩ := h.lst
  rintro rfl
  rw [e] at q
  cases q
theorem Pen.fresh {H : Hp} {p b : Addr} {n : Nat} (h : Pen H p n) (q : H b = none) : b ≠ p := by
  obtain ⟨xs, e⟩ := h.lst
  rintro rfl
  rw [e] at q
  cases q
theorem log_small {m : Int} (h0 : 0 < m) (h : m ≤ 1000000) : m.natAbs.log2 < 9000 := by
  have h1 : m.natAbs < 2 ^ 20 := by omega
  have h2 : m.natAbs.log2 < 20 := (Nat.log2_lt (by omega)).mpr h1
  omega
end HG
namespace HG
open PySem L2
/-- the law's def -/
def spLaw (K : PySem.W.Frag) : Sp := fun vs H Q _ => match vs with
  | [.ref a] => (∃ ns : List Int, SqL K H a (ns.map V.int)) ∧ ∀ H', Q (.bl true) H'
  | _ => False
end HG

namespace HG
open PySem L2
theorem data_bools {n : Nat} {H : Hp} : ∀ bs : List Bool, dataL (dataF n H) (bs.map V.bl) = some (bs.map PyData.bool)
  | [] => rfl
  | b :: r => by
    have e : dataF n H (.bl b) = some (.bool b) := by cases n <;> rfl
    show (match dataF n H (.bl b) with | some d => (match dataL (dataF n H) (r.map V.bl) with | some ds => some (d :: ds) | none => none) | none => none) = _
    rw [e, data_bools r]
    rfl
end HG

namespace HG
open PySem L2
/-! ### new instances, properties: folded readings -/
def MKf (C : Addr) (sp : Sp) (E : XK) (f : V → List V) (H : Hp) (Q : VK) : Prop := ∀ x dx, H x = none → H dx = none → dx ≠ x → sp (f (.ref x)) (upd (upd H dx (.own x)) x (.ins C dx [])) (fun v H2 => v = .non ∧ Q (.ref x) H2) E
theorem tMake_eq {C : Addr} {sp : Sp} {dvs : List V} {E : XK} {t : TA} {σ : L2.St} {H : Hp} {Q : VK} : tMake C sp dvs E t σ H Q = t σ H fun vs H1 => MKf C sp E (fun r => r :: (vs ++ dvs)) H1 Q := rfl
theorem tMakeK_eq {C : Addr} {n m : Nat} {sp : Sp} {gV : List V → List V → List V} {E : XK} {t tk : TA} {σ : L2.St} {H : Hp} {Q : VK} : tMakeK C n m sp gV E t tk σ H Q = t σ H fun vs H1 => tk σ H1 fun zs H2 => vs.length = n ∧ zs.length = m ∧ MKf C sp E (fun r => gV (r :: vs) zs) H2 Q := rfl
/-! ### a comprehension over a list -/
theorem st_ifcmp {r : R2} {ta tb : TE} {t u : TS} {D : Ends} {σ : L2.St} {H : Hp} (h : ta σ H fun x H1 => tb σ H1 fun y H2 => r x y H2 fun z H3 => ∃ k, z = .bl k ∧ if k = true then t D σ H3 else u D σ H3) : tIfS (tTest (tOp r ta tb)) t u D σ H := h
end HG

/-! What the top has written, in the forms that the rules want. -/
namespace HG
open PySem L2 PyProof.Rows
section
variable {K : PySem.W.Frag} {C f g : Addr} {op : Operator} {nm : Str}
end
end HG
namespace HG
open PySem L2
end HG
namespace HG
open PySem L2
theorem kit_tr {K : PySem.W.Frag} {C : Addr} {t : String} {b : Bool} (hc : PySem.W.isClsIn K C = true) (ht : PySem.W.typeIn K (.ref C) = some (.type "type")) (hs : PySem.W.subIn K (.type t) (.ref C) = some b) : PySem.W.kitOne K (.type t) (.ref C) = some b := by
  have hne : (Value.type t == Value.ref C) = false := Bool.eq_false_iff.mpr fun q => by cases beq_iff_eq.mp q
  have hc' : (PySem.W.clsIn K C).isSome = true := hc
  unfold PySem.W.kitOne PySem.W.kitCls
  simp only [hne, hc', ht, hs, Bool.false_eq_true, if_false, beq_self_eq_true, Bool.and_self, if_true]
theorem kit_rr {K : PySem.W.Frag} {C : Addr} : PySem.W.kitOne K (.ref C) (.ref C) = some true := by
  unfold PySem.W.kitOne
  simp only [beq_self_eq_true, if_true]
end HG

namespace HG
open PySem L2 PyProof.Rows
section
variable {X : Cx}
/-! ### in, by data -/
/-! ### is None -/
def oIs : R2 := fun x y H Q => match y with
  | .non => match x with
    | .non => Q (.bl true) H
    | _ => Q (.bl false) H
  | _ => False
theorem op_isU : OpR X (compareOp .Is) oIs := opImp op_isN fun x y H Q h => by
  unfold oIs at h
  split at h
  · refine ⟨rfl, ?_⟩
    split at h
    · exact h
    · rename_i hn
      rw [decide_eq_false (fun e => hn e)]
      exact h
  · exact h.elim
/-! ### built-ins over sequences -/
/-! ### isinstance by a tuple of types -/
theorem kitLT_l {K : PySem.W.Frag} : PySem.W.kitAny K (.type "list") [.type "list", .type "tuple"] = some true := kitAny_cons (b := true) (kit_ty (by decide +kernel)) (fun z => by cases z) (fun _ => rfl)
theorem kitLT_t {K : PySem.W.Frag} : PySem.W.kitAny K (.type "tuple") [.type "list", .type "tuple"] = some true := kitAny_cons (b := false) (kit_ty (by decide +kernel)) (fun _ => kitAny_cons (b := true) (kit_ty (by decide +kernel)) (fun z => by cases z) (fun _ => rfl)) (fun z => by cases z)
/-! ### an attribute as a target -/
/-! ### for x in a list or a tuple -/
def iSeq (K : PySem.W.Frag) (tl : TE) : TI := fun σ H R => tl σ H fun x H1 => ∃ a, x = .ref a ∧ (((∃ xs, SqL K H1 a xs) ∧ R (Itl K a) H1) ∨ ((∃ xs, SqT K H1 a xs) ∧ R (Itt K a) H1))
theorem pi_seq {tg l : Expr} {tl : TE} (hl : PE X l tl) : PI X tg l (iSeq X.K tl) := by
  refine ⟨fun pins s σ H R I h => ?_⟩
  refine thn (hl.run pins s σ H _ I h) fun v s1 ⟨x, H1, I1, r1, q1⟩ => ?_
  obtain ⟨a, e, q1⟩ := q1
  subst e
  cases r1
  rcases q1 with ⟨⟨xs, hq⟩, q⟩ | ⟨⟨xs, hq⟩, q⟩
  · obtain ⟨its, rv, p, hz⟩ := I1.list hq
    refine wpAny_pyIter_list p.isList ?_
    refine ⟨s1.heap.objs.size, [s1.heap.objs.size], _, _, H1, rfl, I1.kept (t' := s1.toks) fun b o e => Heap.get?_push_of_some _ e, turn_list a _, ⟨_, Heap.get?_push_size _ rfl, rfl, rfl⟩, fun b hb => ?_, q⟩
    have e : b = s1.heap.objs.size := by simpa using hb
    subst e
    exact I1.fpOk (Nat.le_refl _) (I1.hok.fresh (Nat.le_refl _))
  · obtain ⟨its, rv, p, hz⟩ := I1.tuple hq
    refine wpAny_pyIter_tuple (show s1.heap.IsTuple a its.toArray from p) ?_
    refine ⟨s1.heap.objs.size, [s1.heap.objs.size], _, _, H1, rfl, I1.kept (t' := s1.toks) fun b o e => Heap.get?_push_of_some _ e, turn_tuple a _, ⟨_, Heap.get?_push_size _ rfl, rfl, rfl⟩, fun b hb => ?_, q⟩
    have e : b = s1.heap.objs.size := by simpa using hb
    subst e
    exact I1.fpOk (Nat.le_refl _) (I1.hok.fresh (Nat.le_refl _))
end
end HG

/-! Comprehensions over numbers and over sequences: what they make. -/
namespace HG
open PySem L2
/-- a comprehension's continuation at its iterator -/
def LcJ (g : TG) (tt : TT) (te : TE) (vs : List Nat) (σ : L2.St) (Q : VK) (J : It) (H1 : Hp) : Prop := ∀ D, H1 D = none → ∃ W : Nat → Nat → Hp → Prop, (∃ m, W 0 m (upd H1 D (.lst []))) ∧ ∀ i m H, W i m H →
      (J.stop i H ∧ Q (.ref D) H) ∨ (J.go i H ∧ ∃ Nx : Hp → Prop, (∀ H', Nx H' → ∃ m', m' < m ∧ W (i + 1) m' H') ∧ ∀ x H', J.yld i H x H' → g x (wipe σ vs) H' fun σ2 H2 => wipe σ2 vs = wipe σ vs ∧ tt σ2 H2 fun b H3 =>
        if b = true then te σ2 H3 fun y H4 => ∃ acc, H4 D = some (.lst acc) ∧ acc.length < sizeLine ∧ Nx (upd H4 D (.lst (acc ++ [y]))) else Nx H3)
theorem lc_ev {wi : TI} {g : TG} {tt : TT} {te : TE} {vs : List Nat} {σ : L2.St} {H : Hp} {Q : VK} (h : wi σ H (LcJ g tt te vs σ Q)) : tLc wi g tt te vs σ H Q := h
/-- the iterator hands out xs 0 .. xs (n - 1), as long as what stood stands -/
structure JOk (J : It) (H1 : Hp) (n : Nat) (xs : Nat → V) : Prop where
  go : ∀ H, Grow H1 H → ∀ j, j < n → J.go j H
  yld : ∀ H, Grow H1 H → ∀ j, j < n → ∀ x H', J.yld j H x H' → H' = H ∧ x = xs j
  stop : ∀ H, Grow H1 H → J.stop n H
theorem jok_lst {K : PySem.W.Frag} {a : Addr} {H1 : Hp} {xs : List V} (h : H1 a = some (.lst xs)) : JOk (Itl K a) H1 xs.length (fun j => xs.getD j .non) := by
  refine ⟨fun H g j hj => ⟨xs, _, SqL.of (g _ _ h), List.getElem?_eq_getElem hj⟩, fun H g j hj x H' y => ⟨y.1, ?_⟩, fun H g => ⟨xs, SqL.of (g _ _ h), Nat.le_refl _⟩⟩
  have e := y.2 xs (SqL.of (g _ _ h))
  rw [List.getD_eq_getElem?_getD, e]
  rfl
theorem jok_tup {K : PySem.W.Frag} {a : Addr} {H1 : Hp} {xs : List V} (h : H1 a = some (.tup xs)) : JOk (Itt K a) H1 xs.length (fun j => xs.getD j .non) := by
  refine ⟨fun H g j hj => ⟨xs, _, SqT.of (g _ _ h), List.getElem?_eq_getElem hj⟩, fun H g j hj x H' y => ⟨y.1, ?_⟩, fun H g => ⟨xs, SqT.of (g _ _ h), Nat.le_refl _⟩⟩
  have e := y.2 xs (SqT.of (g _ _ h))
  rw [List.getD_eq_getElem?_getD, e]
  rfl
/-- the results of the first j turns -/
def resF (p : Nat → Bool) (f : Nat → V) (j : Nat) : List V := ((List.range j).filter p).map f
theorem resF_succ (p : Nat → Bool) (f : Nat → V) (j : Nat) : resF p f (j + 1) = if p j = true then resF p f j ++ [f j] else resF p f j := by
  unfold resF
  rw [List.range_succ, List.filter_append, List.map_append]
  by_cases h : p j = true
  · simp [h]
  · simp [h]
theorem resF_le (p : Nat → Bool) (f : Nat → V) (j : Nat) : (resF p f j).length ≤ j := by
  unfold resF
  rw [List.length_map]
  have := List.length_filter_le p (List.range j)
  rw [List.length_range] at this
  exact this
theorem lc_filter {J : It} {H1 : Hp} {n : Nat} {xs : Nat → V} {i : Nat} {tt : TT} {te : TE} {σ : L2.St} {Q : VK} (hJ : JOk J H1 n xs) (p : Nat → Bool) (f : Nat → V) (hn : n ≤ sizeLine)
    (ht : ∀ j, j < n → ∀ H', Grow H1 H' → ∀ R : Bool → Hp → Prop, (∀ H2, Grow H' H2 → R (p j) H2) → tt ((wipe σ [i]).set i (some (xs j))) H' R)
    (he : ∀ j, j < n → p j = true → ∀ H', Grow H1 H' → ∀ R : VK, (∀ H2, Grow H' H2 → R (f j) H2) → te ((wipe σ [i]).set i (some (xs j))) H' R)
    (k : ∀ D H', Grow H1 H' → H1 D = none → H' D = some (.lst (resF p f n)) → Q (.ref D) H')
    (hw : ∀ x, wipe ((wipe σ [i]).set i (some x)) [i] = wipe σ [i]) : LcJ (gName i) tt te [i] σ Q J H1 := by
  intro D hD
  have g0 : ∀ {H : Hp} {o : HO}, Grow H1 H → Grow H1 (upd H D o) := fun {H o} g b u e => by
    rw [upd_ne (fun z => by rw [z, hD] at e; cases e)]; exact g b u e
  refine ⟨fun j m H' => j ≤ n ∧ m = n - j ∧ Grow H1 H' ∧ H' D = some (.lst (resF p f j)), ⟨_, Nat.zero_le _, rfl, g0 .refl, upd_same⟩, fun j m H' ⟨hj, hm, g, hd⟩ => ?_⟩
  by_cases e : j = n
  · subst e
    exact .inl ⟨hJ.stop _ g, k D H' g hD hd⟩
  · have hj' : j < n := by omega
    refine .inr ⟨hJ.go _ g _ hj', fun H'' => Grow H1 H'' ∧ H'' D = some (.lst (resF p f (j + 1))), fun H'' ⟨g', hd'⟩ => ⟨n - (j + 1), by omega, by omega, rfl, g', hd'⟩, ?_⟩
    intro x H'' y
    obtain ⟨rfl, rfl⟩ := hJ.yld _ g _ hj' x H'' y
    refine ⟨hw _, ht j hj' _ g _ fun H2 g2 => ?_⟩
    by_cases hp : p j = true
    · rw [hp, if_pos rfl]
      refine he j hj' hp _ (g.trans g2) _ fun H3 g3 => ?_
      refine ⟨_, g3 _ _ (g2 _ _ hd), ?_, g0 ((g.trans g2).trans g3), ?_⟩
      · have := resF_le p f j
        omega
      · rw [upd_same, resF_succ, if_pos hp]
    · have hp' : p j = false := by simpa using hp
      rw [hp', if_neg (by decide)]
      refine ⟨g.trans g2, ?_⟩
      rw [resF_succ, if_neg hp]
      exact g2 _ _ hd
theorem resF_all (f : Nat → V) (n : Nat) : resF (fun _ => true) f n = (List.range n).map f := by
  unfold resF
  rw [List.filter_eq_self.mpr (fun _ _ => rfl)]
theorem lc_map {J : It} {H1 : Hp} {n : Nat} {xs : Nat → V} {i : Nat} {te : TE} {σ : L2.St} {Q : VK} (hJ : JOk J H1 n xs) (f : Nat → V) (hn : n ≤ sizeLine)
    (he : ∀ j, j < n → ∀ H', Grow H1 H' → ∀ R : VK, (∀ H2, Grow H' H2 → R (f j) H2) → te ((wipe σ [i]).set i (some (xs j))) H' R)
    (k : ∀ D H', Grow H1 H' → H1 D = none → H' D = some (.lst ((List.range n).map f)) → Q (.ref D) H')
    (hw : ∀ x, wipe ((wipe σ [i]).set i (some x)) [i] = wipe σ [i]) : LcJ (gName i) tYes te [i] σ Q J H1 :=
  lc_filter hJ (fun _ => true) f hn (fun j hj H' g R hR => hR _ .refl) (fun j hj _ H' g R hR => he j hj H' g R hR) (fun D H' g hD hd => k D H' g hD (by rw [resF_all] at hd; exact hd)) hw
end HG

/-! The pen, its list of cells named. -/
namespace HG
open PySem L2
/-- the pen at p with its cells at l, at most n cells used -/
def PenL (H : Hp) (p l : Addr) (n : Nat) : Prop := ∃ (cells : List Int) (turn rest : Int), H p = some (.lst [.ref l, .int turn, .int rest]) ∧ H l = some (.lst (cells.map V.int)) ∧ cells.length ≤ 63 ∧ 0 ≤ turn ∧ turn ≤ n ∧ 0 ≤ rest
section
variable {H H' : Hp} {p l b : Addr} {m n : Nat}
theorem PenL.grow (h : PenL H p l n) (g : Grow H H') : PenL H' p l n := by
  obtain ⟨c, t, r, h1, h2, h3⟩ := h
  exact ⟨c, t, r, g _ _ h1, g _ _ h2, h3⟩
theorem PenL.up (h : PenL H p l m) (g : m ≤ n) : PenL H p l n := by
  obtain ⟨c, t, r, h1, h2, h3, h4, h5, h6⟩ := h
  exact ⟨c, t, r, h1, h2, h3, h4, by omega, h6⟩
theorem PenL.lst (h : PenL H p l n) : ∃ xs, H p = some (.lst xs) := by
  obtain ⟨c, t, r, h1, h2, h3⟩ := h
  exact ⟨_, h1⟩
theorem PenL.fresh (h : PenL H p l n) (q : H b = none) : b ≠ p := by
  obtain ⟨xs, e⟩ := h.lst
  rintro rfl
  rw [e] at q
  cases q
theorem PenL.freshL (h : PenL H p l n) (q : H b = none) : b ≠ l := by
  obtain ⟨c, t, r, h1, h2, h3⟩ := h
  rintro rfl
  rw [h2] at q
  cases q
theorem PenL.upd {o : HO} (h : PenL H p l n) (h1 : b ≠ p) (h2 : b ≠ l) : PenL (L2.upd H b o) p l n := by
  obtain ⟨c, t, r, e1, e2, e3⟩ := h
  exact ⟨c, t, r, by rw [upd_ne h1.symm]; exact e1, by rw [upd_ne h2.symm]; exact e2, e3⟩
end
def spPenL (K : PySem.W.Frag) : Sp := fun vs H Q _ => match vs with
  | [.ref a] => ∃ ns : List Int, SqL K H a (ns.map V.int) ∧ ∀ p l H', PenL H' p l 0 → Grow H H' → H p = none → Q (.ref p) H'
  | _ => False
def spDrawL : Sp := fun vs H Q _ => match vs with
  | [.ref p, .int many] => ∃ (l : Addr) (n : Nat), PenL H p l n ∧ n ≤ 999999 ∧ 0 < many ∧ many.natAbs.log2 < 9000 ∧ ∀ (d : Int) (H' : Hp), 0 ≤ d → d < many → PenL H' p l (n + 1) → Keep p H H' → Q (.int d) H'
  | _ => False
def spPickL : Sp := fun vs H Q _ => match vs with
  | [.ref p, .ref s] => ∃ (l : Addr) (n : Nat) (xs : List V), PenL H p l n ∧ n ≤ 999999 ∧ H s = some (.lst xs) ∧ s ≠ p ∧ xs ≠ [] ∧ xs.length ≤ 100000 ∧ ∀ (x : V) (H' : Hp), x ∈ xs → PenL H' p l (n + 1) → Keep p H H' → Q x H'
  | _ => False
/-- a comprehension with draws: values of a kind P, c draws a turn -/
theorem lc_pen {J : It} {H1 : Hp} {n m : Nat} {p l : Addr} {xs : Nat → V} {i : Nat} {te : TE} {σ : L2.St} {Q : VK} (P : V → Prop) (c : Nat) (hp : PenL H1 p l m)
    (hgo : ∀ H, Keep p H1 H → ∀ j, j < n → J.go j H) (hyld : ∀ H, Keep p H1 H → ∀ j, j < n → ∀ x H', J.yld j H x H' → H' = H ∧ x = xs j) (hstop : ∀ H, Keep p H1 H → J.stop n H) (hn : n ≤ sizeLine)
    (he : ∀ j, j < n → ∀ H', PenL H' p l (m + c * j) → Keep p H1 H' → ∀ R : VK, (∀ v H2, P v → PenL H2 p l (m + c * (j + 1)) → Keep p H' H2 → R v H2) → te ((wipe σ [i]).set i (some (xs j))) H' R)
    (k : ∀ D H' vs, vs.length = n → (∀ v ∈ vs, P v) → PenL H' p l (m + c * n) → Keep p H1 H' → H1 D = none → H' D = some (.lst vs) → Q (.ref D) H')
    (hw : ∀ x, wipe ((wipe σ [i]).set i (some x)) [i] = wipe σ [i]) : LcJ (gName i) tYes te [i] σ Q J H1 := by
  intro D hD
  have hDp : D ≠ p := hp.fresh hD
  have hDl : D ≠ l := hp.freshL hD
  have g0 : ∀ {H : Hp} {o : HO}, Keep p H1 H → Keep p H1 (upd H D o) := fun {H o} g b u nb e => by
    rw [upd_ne (fun z => by rw [z, hD] at e; cases e)]; exact g b u nb e
  refine ⟨fun j q H' => j ≤ n ∧ q = n - j ∧ PenL H' p l (m + c * j) ∧ Keep p H1 H' ∧ ∃ vs, vs.length = j ∧ (∀ v ∈ vs, P v) ∧ H' D = some (.lst vs),
    ⟨_, Nat.zero_le _, rfl, (hp.up (by omega)).upd hDp hDl, g0 .refl, [], rfl, fun v hv => (List.not_mem_nil hv).elim, upd_same⟩, ?_⟩
  rintro j q H' ⟨hj, hq, hp', kp, vs, hl, hv, hd⟩
  by_cases e : j = n
  · subst e
    exact .inl ⟨hstop _ kp, k D H' vs hl hv hp' kp hD hd⟩
  · have hj' : j < n := by omega
    refine .inr ⟨hgo _ kp _ hj', fun H'' => PenL H'' p l (m + c * (j + 1)) ∧ Keep p H1 H'' ∧ ∃ vs, vs.length = j + 1 ∧ (∀ v ∈ vs, P v) ∧ H'' D = some (.lst vs), fun H'' z => ⟨n - (j + 1), by omega, by omega, rfl, z⟩, ?_⟩
    intro x H'' y
    obtain ⟨rfl, rfl⟩ := hyld _ kp _ hj' x H'' y
    refine ⟨hw _, ?_⟩
    simp only [tYes, if_true]
    refine he j hj' _ hp' kp _ fun v H2 hP hp2 k2 => ?_
    refine ⟨vs, k2 _ _ hDp hd, by omega, hp2.upd hDp hDl, g0 (kp.trans k2), vs ++ [v], by rw [List.length_append, hl]; rfl, ?_, upd_same⟩
    intro u hu
    rcases List.mem_append.mp hu with hu | hu
    · exact hv u hu
    · rw [List.mem_singleton] at hu
      subst hu
      exact hP
theorem keep_rng {p : Addr} {H1 : Hp} {lo : Int} {n : Nat} : (∀ H, Keep p H1 H → ∀ j, j < n → (Itr lo n).go j H) ∧ (∀ H, Keep p H1 H → ∀ j, j < n → ∀ x H', (Itr lo n).yld j H x H' → H' = H ∧ x = (fun j : Nat => V.int (lo + j)) j) ∧ ∀ H, Keep p H1 H → (Itr lo n).stop n H :=
  ⟨fun _ _ _ h => h, fun _ _ _ _ _ _ h => h, fun _ _ => Nat.le_refl _⟩
end HG

/-! Static methods, called off the class. -/
namespace HG
open PySem L2 PyProof.Rows
structure SMet (K : PySem.W.Frag) (C : Addr) (m : Str) (p g : Addr) : Prop where
  rd : ∃ mc, PySem.W.readsIn K C mc = true ∧ PySem.W.findCls K (.ref C) mc m = some (.get (.builtin "staticmethod.__get__") (.ref p) .none (.ref C))
  ga : PySem.W.specialIn K (.ref C) "__getattribute__" = some (some (.builtin "type.__getattribute__"))
  rc : ∃ rest, PySem.W.recIn K p "staticmethod" = some (.ref g :: rest)
  kp : PySem.W.keepIn K (.ref g) = true
section
variable {X : Cx} {CX : CXT} {k : Nat} {f C p' : Addr} {fd : FuncData} {ps : List Str} {sp : Sp} {dvs : List V} {ds : List Value} {E : XK} {m : Str} {pos apos : Pos} {e o : Expr} {es : List Expr} {ta : TE} {t : TA} {pl : Sem Bool}
end
end HG

/-! Sequences by evidence: tracked lists and tuples, tuples of the written part. -/
namespace HG
open PySem L2
inductive Sq (K : PySem.W.Frag) (H : Hp) (p : Addr) (xs : List V) : Prop where
  | l (h : H p = some (.lst xs)) : Sq K H p xs
  | t (h : H p = some (.tup xs)) : Sq K H p xs
  | k (o : Obj) (its : Array Value) (n : Nat) (h : K.lookup p = some o) (c : o.cls = .type "tuple") (d : o.data = .seq its n) (z : its.size ≤ sizeLine) (r : Vals xs its.toList) : Sq K H p xs
inductive St (K : PySem.W.Frag) (H : Hp) (p : Addr) (xs : List V) : Prop where
  | t (h : H p = some (.tup xs)) : St K H p xs
  | k (o : Obj) (its : Array Value) (n : Nat) (h : K.lookup p = some o) (c : o.cls = .type "tuple") (d : o.data = .seq its n) (z : its.size ≤ sizeLine) (r : Vals xs its.toList) : St K H p xs
section
variable {K : PySem.W.Frag} {H H' : Hp} {p : Addr} {xs : List V} {Q : VK}
theorem St.sq (h : St K H p xs) : Sq K H p xs := by
  cases h with
  | t h => exact .t h
  | k o its n h c d z r => exact .k o its n h c d z r
theorem Sq.grow (h : Sq K H p xs) (g : Grow H H') : Sq K H' p xs := by
  cases h with
  | l h => exact .l (g _ _ h)
  | t h => exact .t (g _ _ h)
  | k o its n h c d z r => exact .k o its n h c d z r
theorem St.grow (h : St K H p xs) (g : Grow H H') : St K H' p xs := by
  cases h with
  | t h => exact .t (g _ _ h)
  | k o its n h c d z r => exact .k o its n h c d z r
theorem Sq.or (h : Sq K H p xs) : SqL K H p xs ∨ SqT K H p xs := by
  cases h with
  | l h => exact .inl (SqL.of h)
  | t h => exact .inr (SqT.of h)
  | k o its n h c d z r => exact .inr (.inr ⟨o, its, n, h, c, d, z, r⟩)
theorem Sq.ty (h : Sq K H p xs) : ∃ t, TyX K H (.ref p) t ∧ PySem.W.kitAny K t [.type "list", .type "tuple"] = some true := by
  cases h with
  | l h => exact ⟨_, .base (.lst h), kitLT_l⟩
  | t h => exact ⟨_, .base (.tup h), kitLT_t⟩
  | k o its n h c d z r => exact ⟨_, .kTuple h c, kitLT_t⟩
/-! readings by evidence -/
theorem ixE {i : Int} {v : V} (h : Sq K H p xs) (e : atI xs i = some v) (k : Q v H) : rIx K (.ref p) (.int i) H Q := by
  rcases h.or with h | h
  · exact .inl ⟨p, xs, i, v, rfl, rfl, h, e, k⟩
  · exact .inr (.inl ⟨p, xs, i, v, rfl, rfl, h, e, k⟩)
def cTupE (K : PySem.W.Frag) : List V → Hp → VK → Prop := fun xs H Q => ∃ p ys, xs = [.ref p] ∧ ((SqL K H p ys ∧ ∀ l, H l = none → Q (.ref l) (upd H l (.tup ys))) ∨ (SqT K H p ys ∧ Q (.ref p) H))
theorem call_tupE {X : Cx} : CallR X (.type "tuple") (cTupE X.K) := call_tuple_of
theorem jok_sq {a : Addr} {H1 : Hp} {R : It → Hp → Prop} (h : Sq K H1 a xs) (k : ∀ J, JOk J H1 xs.length (fun j => xs.getD j .non) → R J H1) : ∃ a', V.ref a = .ref a' ∧ (((∃ xs, SqL K H1 a' xs) ∧ R (Itl K a') H1) ∨ ((∃ xs, SqT K H1 a' xs) ∧ R (Itt K a') H1)) := by
  refine ⟨a, rfl, ?_⟩
  cases h with
  | l h => exact .inl ⟨⟨_, SqL.of h⟩, k _ (jok_lst h)⟩
  | t h => exact .inr ⟨⟨_, SqT.of h⟩, k _ (jok_tup h)⟩
  | k o its n h c d z r =>
    have sq : ∀ H, SqT K H a xs := fun H => .inr ⟨o, its, n, h, c, d, z, r⟩
    refine .inr ⟨⟨_, sq _⟩, k _ ⟨fun H g j hj => ⟨xs, _, sq H, List.getElem?_eq_getElem hj⟩, fun H g j hj x H' y => ⟨y.1, ?_⟩, fun H g => ⟨xs, sq H, Nat.le_refl _⟩⟩⟩
    have e := y.2 xs (sq H)
    rw [List.getD_eq_getElem?_getD, e]
    rfl
end
/-! ### numbers or None -/
section
variable {K : PySem.W.Frag} {H : Hp} {Q : VK}
end
end HG
namespace HG
open PySem L2
section
variable {K : PySem.W.Frag} {H : Hp} {Q : VK} {p : Addr} {xs : List V}
end
end HG

/-! x[i], v in x, str(x) by a class's own methods. -/
namespace HG
open PySem L2 PyProof.Rows
structure Own2 (X : Cx) (k : Nat) (f : Addr) (sp : Sp) : Prop where
  run : ∀ {pins : List (Addr × Obj)} {σ : L2.St} {H : Hp} {s : Shared} {Q : VK} {us : List Value} {vs : List V}, Inv X pins σ H s → Vals vs us → sp vs H Q E0 → wpAny (model X.prog X.w) X.A.in1.in1 (call (.ref f) us) (EP X pins σ Q) X.xe s
section
variable {X : Cx} {CX : CXT} {k : Nat} {f C : Addr} {fd : FuncData} {ps : List Str} {sp : Sp} {ta tb : TE} {a b : Expr} {pos : Pos}
theorem own2G (F : FnG X.prog X.w X.K X.mg X.base CX k f fd ps sp) (hr : Room (k + 2) X.A) (hG : GA X.A) (hb : Binds X.K fd ps []) (hx : Passes CX X E0) : Own2 X k f sp :=
  ⟨fun {pins σ H s Q us vs} I r h => by
    have hl : us.length = ps.length := r.length.symm.trans (F.len _ _ _ _ h)
    have hl' : (us ++ []).length = ps.length := by rw [List.append_nil]; exact hl
    have hb' := hb s us I.kIn hl'
    rw [List.append_nil] at hb'
    exact wpAny_call (codeAny_mono (F.run X.A.in1.in1 X.stack s H ⟨us, []⟩ us vs Q E0 hr.in1.in1 (ga_in1 (ga_in1 hG)) I.env0.in1.in1 hb' r h) fun r s' hq => behind hx I hq)⟩
/-- x[i] -/
structure IxF (K : PySem.W.Frag) (C f : Addr) : Prop where
  fn : PySem.W.findIn K (.ref C) "__getitem__" = some (some (.ref f))
  fi : PySem.W.fnIn K f = true
  isf : PySem.W.isFn K (.ref f) = true
/-- v in x -/
structure InF (K : PySem.W.Frag) (C f : Addr) : Prop where
  fn : PySem.W.findIn K (.ref C) "__contains__" = some (some (.ref f))
  isf : PySem.W.isFn K (.ref f) = true
/-- str(x) -/
structure StrF (K : PySem.W.Frag) (C f : Addr) : Prop where
  fn : PySem.W.findIn K (.ref C) "__str__" = some (some (.ref f))
  isf : PySem.W.isFn K (.ref f) = true
end
end HG
namespace HG
open PySem L2
/-- a tracked list or tuple -/
inductive Sr (H : Hp) (p : Addr) (xs : List V) : Prop where
  | l (h : H p = some (.lst xs)) : Sr H p xs
  | t (h : H p = some (.tup xs)) : Sr H p xs
section
variable {K : PySem.W.Frag} {H H' : Hp} {p : Addr} {xs : List V} {Q : VK}
theorem Sr.sq (h : Sr H p xs) : Sq K H p xs := by
  cases h with
  | l h => exact .l h
  | t h => exact .t h
theorem Sr.grow (h : Sr H p xs) (g : Grow H H') : Sr H' p xs := by
  cases h with
  | l h => exact .l (g _ _ h)
  | t h => exact .t (g _ _ h)
end
end HG
namespace HG
open PySem L2
/-! folded readings: str of a number or a text, join, append, list -/
section
variable {X : Cx}
end
section
variable {K : PySem.W.Frag} {H : Hp} {p : Addr} {xs : List V} {Q : VK}
end
end HG

/-! Growths, plainly: values, normal forms. No program in sight. -/
namespace HG
section
variable {told : List (Option Int)} {gains : List Int} {n : Nat}
/-- f is the growth of told and gains -/
structure Gr (told : List (Option Int)) (gains : List Int) (f : Nat → Option Int) : Prop where
  pos : 0 < gains.length
  le : gains.length ≤ told.length
  lo : ∀ n, n < told.length → f n = told.getD n none
  hi : ∀ n, told.length ≤ n → f n = (f (n - gains.length)).map (· + gains.getD (n % gains.length) 0)
theorem Gr.eq {f g : Nat → Option Int} (h : Gr told gains f) (k : Gr told gains g) : ∀ n, f n = g n := by
  intro n
  induction n using Nat.strongRecOn with
  | _ n ih =>
    by_cases hn : n < told.length
    · rw [h.lo n hn, k.lo n hn]
    · rw [h.hi n (by omega), k.hi n (by omega), ih (n - gains.length) (by have := h.pos; have := h.le; omega)]
/-- from the last period of the told values on: a step of one period -/
theorem Gr.step {f : Nat → Option Int} (h : Gr told gains f) (hn : told.length - gains.length ≤ n) : f (n + gains.length) = (f n).map (· + gains.getD (n % gains.length) 0) := by
  have := h.hi (n + gains.length) (by have := h.le; omega)
  rw [Nat.add_sub_cancel, Nat.add_mod_right] at this
  exact this
theorem Gr.none {f : Nat → Option Int} (h : Gr told gains f) (hn : told.length - gains.length ≤ n) : f (n + gains.length) = none ↔ f n = none := by
  rw [h.step hn, Option.map_eq_none_iff]
end
/-! ### steps, gains -/
section
variable {told : List (Option Int)} {gains : List Int} {f : Nat → Option Int}
/-! ### trimming keeps the values -/
/-! ### the gains of a shorter period -/
end
end HG

/-! The normal form is the least one, and there is one alone. -/
namespace HG
/-- from N on, f goes on by l with the gains c, which repeat -/
structure Per (f : Nat → Option Int) (l N : Nat) (c : Nat → Int) : Prop where
  pos : 0 < l
  st : ∀ n, N ≤ n → f (n + l) = (f n).map (· + c n)
  cp : ∀ n, N ≤ n → c (n + l) = c n
  z : ∀ n, N ≤ n → f n = none → c n = 0
section
variable {f : Nat → Option Int} {l l1 l2 N M : Nat} {c c1 c2 : Nat → Int}
theorem Per.up (h : Per f l N c) (g : N ≤ M) : Per f l M c := ⟨h.pos, fun n hn => h.st n (by omega), fun n hn => h.cp n (by omega), fun n hn => h.z n (by omega)⟩
theorem Per.cps (h : Per f l N c) {n : Nat} (hn : N ≤ n) : ∀ k, c (n + k * l) = c n
  | 0 => by rw [Nat.zero_mul, Nat.add_zero]
  | k + 1 => by
    rw [Nat.add_mul, Nat.one_mul, ← Nat.add_assoc, h.cp _ (by omega), h.cps hn k]
theorem Per.sts (h : Per f l N c) {n : Nat} (hn : N ≤ n) : ∀ k : Nat, f (n + k * l) = (f n).map (· + (k : Int) * c n)
  | 0 => by
    rw [Nat.zero_mul, Nat.add_zero]
    cases f n with
    | none => rfl
    | some v => simp
  | k + 1 => by
    rw [Nat.add_mul, Nat.one_mul, ← Nat.add_assoc, h.st _ (by omega), h.cps hn k, h.sts hn k]
    cases f n with
    | none => rfl
    | some v =>
      simp only [Option.map_some, Option.some.injEq]
      rw [Int.natCast_add, Int.add_mul]
      omega
theorem Per.no (h : Per f l N c) {n : Nat} (hn : N ≤ n) : f (n + l) = none ↔ f n = none := by rw [h.st n hn, Option.map_eq_none_iff]
theorem Per.both (h1 : Per f l1 N c1) (h2 : Per f l2 N c2) {n : Nat} (hn : N ≤ n) : (l2 : Int) * c1 n = (l1 : Int) * c2 n := by
  have e1 := h1.sts hn l2
  have e2 := h2.sts hn l1
  rw [Nat.mul_comm l1 l2] at e2
  rw [e1] at e2
  cases ef : f n with
  | none => rw [h1.z n hn ef, h2.z n hn ef, Int.mul_zero, Int.mul_zero]
  | some v =>
    rw [ef] at e2
    simp only [Option.map_some, Option.some.injEq] at e2
    omega
theorem mul_inj {a : Nat} {x y : Int} (ha : 0 < a) (h : (a : Int) * x = (a : Int) * y) : x = y := Int.eq_of_mul_eq_mul_left (by omega) h
theorem Per.sub (h1 : Per f l1 N c1) (h2 : Per f l2 N c2) (hl : l2 < l1) : ∃ c, Per f (l1 - l2) N c := by
  have e1 : ∀ n, N ≤ n → c1 (n + (l1 - l2)) = c1 n := fun n hn => by
    refine mul_inj h2.pos ?_
    rw [h1.both h2 (n := n + (l1 - l2)) (by omega), ← h2.cp (n + (l1 - l2)) (by omega), show n + (l1 - l2) + l2 = n + l1 from by omega, ← h1.both h2 (n := n + l1) (by omega), h1.cp n hn]
  have e2 : ∀ n, N ≤ n → c2 (n + (l1 - l2)) = c2 n := fun n hn => by
    refine mul_inj h1.pos ?_
    rw [← h2.cp (n + (l1 - l2)) (by omega), show n + (l1 - l2) + l2 = n + l1 from by omega, ← h1.both h2 (n := n + l1) (by omega), h1.cp n hn, h1.both h2 hn]
  have nn : ∀ n, N ≤ n → (f (n + (l1 - l2)) = none ↔ f n = none) := fun n hn => by
    rw [← h2.no (n := n + (l1 - l2)) (by omega), show n + (l1 - l2) + l2 = n + l1 from by omega, h1.no hn]
  refine ⟨fun n => if f n = none then 0 else c1 n - c2 n, by omega, fun n hn => ?_, fun n hn => ?_, fun n hn ef => by rw [if_pos ef]⟩
  · cases ef : f n with
    | none => exact (nn n hn).mpr ef
    | some v =>
      rw [if_neg (by simp)]
      have a1 := h1.st n hn
      rw [ef] at a1
      have a2 := h2.st (n + (l1 - l2)) (by omega)
      rw [show n + (l1 - l2) + l2 = n + l1 from by omega, a1, e2 n hn] at a2
      cases eg : f (n + (l1 - l2)) with
      | none => rw [(nn n hn).mp eg] at ef; cases ef
      | some w =>
        rw [eg] at a2
        simp only [Option.map_some, Option.some.injEq] at a2 ⊢
        omega
  · show (if f (n + (l1 - l2)) = none then 0 else c1 (n + (l1 - l2)) - c2 (n + (l1 - l2))) = if f n = none then 0 else c1 n - c2 n
    rw [e1 n hn, e2 n hn]
    by_cases ef : f n = none
    · rw [if_pos ef, if_pos ((nn n hn).mpr ef)]
    · rw [if_neg ef, if_neg (fun z => ef ((nn n hn).mp z))]
/-- the least period -/
def Lst (f : Nat → Option Int) (p : Nat) : Prop := ∀ l N c, Per f l N c → p ≤ l
end
section
variable {told : List (Option Int)} {gains : List Int} {f : Nat → Option Int}
/-- told and gains are the normal form of f -/
structure Nf (told : List (Option Int)) (gains : List Int) (f : Nat → Option Int) : Prop where
  gr : Gr told gains f
  lst : Lst f gains.length
  z : ∀ n, told.length - gains.length ≤ n → f n = none → gains.getD (n % gains.length) 0 = 0
  cut : gains.length < told.length → told.getD (told.length - 1) none ≠ (told.getD (told.length - 1 - gains.length) none).map (· + gains.getD ((told.length - 1) % gains.length) 0)
/-! ### what is found is the normal form -/
end
end HG

/-! Growths as functions: periods, bounds, sums and multiples. -/
namespace HG
section
variable {f g : Nat → Option Int} {l N M : Nat} {c : Nat → Int}
/-! ### a function with a period is told by its first values -/
/-! ### bounds of values -/
def FB (M : Nat) (f : Nat → Option Int) : Prop := ∀ n v, f n = some v → v.natAbs ≤ M * (n + 1)
theorem FB.up {M M' : Nat} (h : FB M f) (g : M ≤ M') : FB M' f := fun n v e => Nat.le_trans (h n v e) (Nat.mul_le_mul_right _ g)
/-! ### sums -/
end
end HG
namespace HG
section
variable {f g : Nat → Option Int} {l N M : Nat} {c : Nat → Int}
end
end HG

/-! Texts of growths, equality of rows. -/
namespace HG
open PySem L2
/-! ### rows of numbers and Nones compared -/
section
variable {K : PySem.W.Frag} {H : Hp} {p q : Addr} {Q : VK}
end
/-! ### texts -/
end HG

/-! Wide periods; pairs and triples compared. -/
namespace HG
open PySem L2
section
variable {f F : Nat → Option Int} {P N : Nat} {C : Nat → Int} {x : Int} {told : List (Option Int)} {gains g0 : List Int}
end
/-! ### pairs and triples of rows -/
section
variable {K : PySem.W.Frag} {H : Hp} {p q x y x' y' : Addr} {Q : VK} {os ps : List (Option Int)} {gs hs : List Int} {u v : Str}
end
end HG

/-! Lambdas handed to a def: the callee runs over a greater base, the whole heap at the call that nobody tracks. -/
namespace HG
open PySem L2 PyProof.Rows LamX
/-! ### the base at a moment -/
section
variable {X : Cx} {pins : List (Addr × Obj)} {σ : L2.St} {H : Hp} {s : Shared}
end
/-! ### function objects of a base -/
/-- the object at f in the base is a function that does as sp says -/
structure FnB (P : Program) (w : World) (K : PySem.W.Frag) (mg : Str → Option Value) (base : Heap) (CX : CXT) (k : Nat) (f : Addr) (sp : Sp) : Prop where
  at_ : ∀ h : Heap, (∀ b o, base.get? b = some o → h.get? b = some o) → PySem.W.FnAt f h
  run : ∀ (A : Around) (outer : List Env) (s : Shared) (H : Hp) (us : List Value) (vs : List V) (Q : VK) (E : XK), Room k A → GA A → Env0 P w K mg base A outer s H → Vals vs us → sp vs H Q E →
    codeAny (model P w) A (.call (.ref f) ⟨us, []⟩) (CR CX outer P w H s Q E) s
abbrev Lams := Addr → Option Sp
section
variable {X : Cx} {CX : CXT} {k i : Nat} {E : XK} {a : Str} {p1 p2 : Pos} {e : Expr} {es : List Expr} {t : TA} {L : Lams}
end
/-! ### the lambda's own run -/
/-- the parameters are its only own names -/
structure LamP (sc scope : Scope) (ps : List Str) : Prop where
  kind : scope.kind = .function
  co : scope.isCoroutine = false
  gen : scope.isGenerator = false
  nocell : ∀ y ∈ scope.names, y.2 ≠ .cell
  loc : ∀ y ∈ scope.names, y.2 = .local → y.1 ∈ ps
  par : ∀ p ∈ ps, scope.names.lookup p = some .local
  free : ∀ y ∈ scope.names, y.2 = .free → sc.names.lookup y.1 = some .cell ∨ sc.names.lookup y.1 = some .free
section
variable {X : Cx} {pins : List (Addr × Obj)} {σ : L2.St} {H : Hp} {s : Shared} {CX : CXT}
section
variable {k : Nat} {f c' : Addr} {pm ctv : Value} {params : Arguments} {body : Expr} {scope : Scope} {tb : XK → TE}
end
end
end HG

/-! Calls of a def with a lambda among the values. -/
namespace HG
open PySem L2 PyProof.Rows LamX
def one (f : Addr) (sp : Sp) : Lams := fun a => if a = f then some sp else none
section
variable {X : Cx} {CX CXl : CXT} {k kg i : Nat} {g c P : Addr} {gd : FuncData} {ps : List Str} {spg : Lams → Sp} {E : XK} {x y q : Str} {T : List (Addr × Str)} {params : Arguments} {body e1 e3 : Expr} {scope : Scope} {tb : XK → TE} {t1 t3 : TE} {p lpos pos : Pos}
end
end HG

/-! The law's end where defs make lambdas: their code objects' tables are tracked. -/
namespace HG
open PySem L2 PyProof.Rows LamX
/-- a def of the top, its code object c, the table P of that -/
structure TabAt (K : PySem.W.Frag) (h : Heap) (c P : Addr) : Prop where
  tab : h.get? P = some { cls := .none, data := .fields #[] }
  no : K.lookup P = none
  code : PySem.W.CodeHd h c P
end HG
namespace HG
open PySem L2 PyProof.Rows LamX
section
variable {P : Program} {w : World} {K : PySem.W.Frag} {mg : Str → Option Value} {base : Heap} {CX : CXT} {k : Nat} {f : Addr} {fd : FuncData} {ps : List Str} {sp : Sp}
end
/-! ### what stays where tables grow -/
section
variable {H H' H2 : Hp} {p l : Addr} {n : Nat}
theorem _root_.LamX.ExtN.lst (e : ExtN H H') {xs : List V} (h : H p = some (.lst xs)) : H' p = some (.lst xs) := e _ _ h fun _ z => by cases z
theorem _root_.LamX.ExtN.tup (e : ExtN H H') {xs : List V} (h : H p = some (.tup xs)) : H' p = some (.tup xs) := e _ _ h fun _ z => by cases z
theorem _root_.LamX.ExtN.ins (e : ExtN H H') {C dx : Addr} {fs : List (Str × V)} (h : H p = some (.ins C dx fs)) : H' p = some (.ins C dx fs) := e _ _ h fun _ z => by cases z
/-- all but the pen and the tables stays -/
def KeepT (p : Addr) (H H' : Hp) : Prop := ∀ b o, b ≠ p → H b = some o → (∀ ps, o ≠ .tbl ps) → H' b = some o
theorem KeepT.trans (a : KeepT p H H') (b : KeepT p H' H2) : KeepT p H H2 := fun c o n h t => b c o n (a c o n h t) t
end
end HG

/-! x op= n, x of an own class, n an int. -/
namespace HG
open PySem L2 PyProof.Rows
end HG
namespace HG
open PySem L2 PyProof.Rows
end HG

/-! repr of None, of a bool; reading an optional whole number. -/
namespace HG
open PySem L2 PyProof.Rows
theorem catE {H : Hp} {l b : Addr} {xs zs : List V} {Q : VK} (h1 : H l = some (.lst xs)) (h2 : H b = some (.lst zs)) (hl : xs.length + zs.length ≤ sizeLine) (k : ∀ p H', Grow H H' → H' p = some (.lst (xs ++ zs)) → Q (.ref p) H') : oAdd (.ref l) (.ref b) H Q := by
  simp only [oAdd, h1, h2]
  exact ⟨hl, fun p hp => k p _ (Grow.new hp) upd_same⟩
/-- what a loop over J asks -/
def ForW (J : It) (g : TG) (tb : TS) (D : Ends) (σ : L2.St) (H1 : Hp) : Prop := ∃ W : Nat → Nat → L2.St → Hp → Prop, (∃ m, W 0 m σ H1) ∧ ∀ i m σ H, W i m σ H →
      (J.stop i H ∧ D.nx σ H) ∨ (J.go i H ∧ ∃ N : L2.St → Hp → Prop, (∀ σ' H', N σ' H' → ∃ m', m' < m ∧ W (i + 1) m' σ' H') ∧ ∀ x H', J.yld i H x H' → g x σ H' fun σ2 H2 => tb { D with nx := N, ct := N, bk := D.nx } σ2 H2)
/-- what is asked of x for a loop over a sequence -/
def SeqW (K : PySem.W.Frag) (x : V) (H1 : Hp) (R : It → Hp → Prop) : Prop := ∃ a, x = .ref a ∧ (((∃ xs, SqL K H1 a xs) ∧ R (Itl K a) H1) ∨ ((∃ xs, SqT K H1 a xs) ∧ R (Itt K a) H1))
theorem for_seq {K : PySem.W.Frag} {te : TE} {g : TG} {tb : TS} {D : Ends} {σ : L2.St} {H : Hp} (h : te σ H fun x H1 => SeqW K x H1 fun J H1 => ForW J g tb D σ H1) : tFor (iSeq K te) g tb D σ H := h
theorem seqW {K : PySem.W.Frag} {a : Addr} {H1 : Hp} {xs : List V} {R : It → Hp → Prop} (h : Sq K H1 a xs) (k : ∀ J, JOk J H1 xs.length (fun j => xs.getD j .non) → R J H1) : SeqW K (.ref a) H1 R := jok_sq h k
/-- a loop over items that stay -/
theorem for_jok {J : It} {H1 : Hp} {n : Nat} {xs : Nat → V} {g : TG} {tb : TS} {D : Ends} {σ : L2.St} (hJ : JOk J H1 n xs) (W : Nat → L2.St → Hp → Prop) (w0 : W 0 σ H1) (gr : ∀ i σ H, W i σ H → Grow H1 H) (fin : ∀ σ H, W n σ H → D.nx σ H)
    (step : ∀ i σ H, i < n → W i σ H → g (xs i) σ H fun σ2 H2 => tb { D with nx := W (i + 1), ct := W (i + 1), bk := D.nx } σ2 H2) : ForW J g tb D σ H1 := by
  refine ⟨fun i m σ H => i ≤ n ∧ m = n - i ∧ W i σ H, ⟨n, by omega, by omega, w0⟩, ?_⟩
  rintro i m σ H ⟨hi, hm, w⟩
  by_cases e : i = n
  · subst e
    exact .inl ⟨hJ.stop H (gr _ _ _ w), fin _ _ w⟩
  · have hl : i < n := by omega
    refine .inr ⟨hJ.go H (gr _ _ _ w) i hl, W (i + 1), fun σ' H' q => ⟨n - (i + 1), by omega, by omega, rfl, q⟩, fun x H' y => ?_⟩
    obtain ⟨rfl, rfl⟩ := hJ.yld H (gr _ _ _ w) i hl x H' y
    exact step i σ H' hl w
end HG

/-! An own exception class whose __init__ says super().__init__(text), then sets fields: its __init__ as a def. -/
namespace HG
open PySem L2 PyProof.Rows
/-- what is asked of the class C, its __init__'s code object and cell of the class -/
structure SupF (P : Program) (K : PySem.W.Frag) (C cda cc : Addr) : Prop where
  cls : OexC K C
  code : ∃ ccl cdd vs ccs file tf, K.lookup cda = some ⟨ccl, cdd, .fields vs, ccs⟩ ∧ vs[2]? = some (.str file tf) ∧ ((P.main.file : Str) == file) = true
  cell : ∃ cl cld csl, K.lookup cc = some ⟨cl, cld, .cell (some (.ref C)), csl⟩
  sup : PySem.W.ks_superIn K C C "__init__" = some (some (.builtin "ValueError.__init__"))
  self : PySem.W.mroIn K C (.ref C) = some true
  opq : PySem.W.nsIn K cStatics "thirdparty.any" = some none
  ve : PySem.W.subIn K (.ref C) (.type "ValueError") = some true
  top : (P.main.scope.names.lookup ("super" : Str)).isSome = false
/-- the names of such a method -/
structure ScX (ps : List Str) (scope : Scope) : Prop where
  kind : scope.kind = .function
  co : scope.isCoroutine = false
  gen : scope.isGenerator = false
  nocell : ∀ x ∈ scope.names, x.2 ≠ .cell
  free : ∀ x ∈ scope.names, x.2 = .free → x.1 = "__class__"
  par : ∀ p ∈ ps, scope.names.lookup p = some .local
  nd : ps.Nodup
  sup : scope.names.lookup ("super" : Str) = some .globalImplicit
  cl : scope.names.lookup ("__class__" : Str) = some .free
section
variable {CX : CXT} {P : Program} {w : World} {K : PySem.W.Frag} {mg : Str → Option Value} {base : Heap} {ps : List Str} {qual : Str} {scope : Scope} {f cda cc : Addr} {A : Around} {outer : List Env} {s : Shared} {H : Hp} {E : XK} {us : List Value} {vs : List V} {h₁ : Heap} {tk : Nat}
end
section
variable {X : Cx} {pins : List (Addr × Obj)} {σ : L2.St} {H : Hp} {s : Shared} {a C u : Addr}
end
section
variable {CX : CXT} {P : Program} {w : World} {K : PySem.W.Frag} {mg : Str → Option Value} {base : Heap} {k : Nat} {ps : List Str} {name qual : Str} {scope : Scope} {C f cda cc : Addr} {sp : Sp} {params : Arguments} {dV kV doc pm ct oc : Value} {an od : Option Addr} {osl : Array (Option Value)} {rest : List Stmt} {p0 p1 p2 p3 p4 pc : Pos} {text : Str} {j : Nat}
end
end HG

/-! C(e, ..) of an own exception class with an __init__, made where nothing is handled: its context is None. -/
namespace HG
open PySem L2 PyProof.Rows
section
variable {X : Cx} {CX : CXT} {x : Str} {e : Expr} {es : List Expr} {ta : TA} {p pos : Pos} {C fI : Addr} {k : Nat} {fd : FuncData} {ps : List Str} {sp : Sp} {ds : List Value} {dvs : List V}
end
end HG

/-! try .. except X as e, where the exception outlives the clause: it is tracked behind. -/
namespace HG
open PySem L2 PyProof.Rows
section
variable {X : Cx} {pins : List (Addr × Obj)} {σ : L2.St} {H : Hp} {s : Shared} {a : Addr} {oe : Obj} {vs : Array Value} {cls : Value} {d : Option Addr}
end
section
variable {X : Cx} {x n : Str} {c : Value} {i : Nat} {body suite : List Stmt} {b₀ : Stmt} {np pos pos' : Pos} {tb : WX → TS} {ts : Addr → Value → Option Addr → TS}
end
end HG
namespace HG
open PySem L2 PyProof.Rows
/-! ### a tracked exception: its class, its fields -/
section
variable {X : Cx} {pins : List (Addr × Obj)} {σ : L2.St} {H : Hp} {s : Shared} {a D dd : Addr} {fs : List (Str × V)}
end
end HG
namespace HG
open PySem L2 PyProof.Rows
end HG

/-! Calls that may raise: of a name that holds a function, in a try; of a class's own methods. -/
namespace HG
open PySem L2 PyProof.Rows
section
variable {X : Cx} {CX : CXT} {k : Nat} {f : Addr} {fd : FuncData} {ps : List Str} {sp : Sp} {E : XK}
end
end HG
namespace HG
open PySem L2 PyProof.Rows
end HG

/-! Own exception classes of one or two fields. -/
namespace HG
open PySem L2 PyProof.Rows
structure FunX (K : PySem.W.Frag) (x qual : Str) (st : Stmt) (f : Addr) (fd : FuncData) (cda cc : Addr) : Prop where
  ex : ∃ oc od kV doc pm an ct osl, fd = PySem.W.ksFn x qual (defArgs st) (defBody st) (defScope st) .none kV doc pm an (.ref cda) ct cc ∧ K.lookup f = some ⟨oc, od, .func fd, osl⟩ ∧ PySem.W.codeIn K (.ref cda) qual = true
section
variable {P : Program} {w : World} {K : PySem.W.Frag} {mg : Str → Option Value} {base : Heap} {x qual self p p' g g' : Str} {st : Stmt} {C f cda cc : Addr} {fd : FuncData} {p0 p1 p2 p3 p4 p5 p6 p7 p8 p9 p10 p11 p12 pc : Pos} {text : Str} {j : Nat} {ar : Arg}
end
end HG

/-! min(ints, default=v). -/
namespace HG
open PySem L2 PyProof.Rows
end HG

/-! Methods called with keywords alone. -/
namespace HG
open PySem L2 PyProof.Rows
/-- a def without defaults, called with keywords: how the values stand -/
theorem fun_kb {K : PySem.W.Frag} {x qual : Str} {st : Stmt} {f : Addr} {fd : FuncData} {ps : List Str} (F : Fun K x qual st f fd) (n : Nat) (ks : List Str) (g : {α : Type} → List α → List α → List α)
    (hrel : ∀ {vs zs : List V} {us ws : List Value}, Vals vs us → Vals zs ws → Vals (g vs zs) (g us ws))
    (h : ∀ (kV doc pm : Value) (an : Option Addr) (cdv ct : Value) (us ws : List Value), us.length = n → ws.length = ks.length → bindArgs (PySem.W.fnOf x qual (defArgs st) (defBody st) (defScope st) .none kV doc pm an cdv ct) ⟨us, ks.zip ws⟩ = pure (ps.zip (g us ws))) :
    KBn K fd ps n ks (fun us ws => g us ws) (fun vs zs => g vs zs) := by
  obtain ⟨oc, od, kV, doc, pm, an, cdv, ct, osl, rfl, lk, hcd⟩ := F.ex
  exact ⟨fun s us ws _ l1 l2 => .of_eq (h kV doc pm an cdv ct us ws l1 l2), fun r1 r2 => hrel r1 r2⟩
section
variable {X : Cx} {CX : CXT} {k n : Nat} {f C p' : Addr} {fd : FuncData} {ps ks : List Str} {sp : Sp} {E : XK} {m : Str} {pos apos : Pos} {o : Expr} {kws : List Keyword} {ta : TE} {tk : TA} {pl : Sem Bool} {g : List Value → List Value → List Value} {gV : List V → List V → List V}
end
/-- a loop over a range -/
theorem for_rng1 {ta : TA} {g : TG} {tb : TS} {D : Ends} {σ : L2.St} {H : Hp} (h : ta σ H fun vs H1 => ∃ j : Int, vs = [.int j] ∧ -(2 ^ 62) ≤ j ∧ j < 2 ^ 62 ∧ ForW (Itr 0 j.toNat) g tb D σ H1) : tFor (iRng1 ta) g tb D σ H := h
end HG

/-! What a call is heard to do. -/
namespace HG
open PySem L2 PyProof.Rows
end HG

/-! Lists kept, repeated, stored into. -/
namespace HG
open PySem L2
end HG

/-! What the top has written of exception classes, in the forms that the rules want. -/
namespace HG
open PySem L2 PyProof.Rows
section
variable {K : PySem.W.Frag} {C R N NR : Addr} {nm q nmR qR : Str} {bs bm bsR bmR : List Value} {hd hdR ab abR : Bool} {sn snR : List Str} {sub subR : List Value} {col colR : Option Bool} {dd ddR : Option Addr} {k0 k1 k2 k3 k5 j0 j1 j2 j3 j5 : Option Value} {ni niR : String}
end
end HG

/-! Growths compared: where one first exceeds another one. -/
namespace HG
section
variable {f g : Nat → Option Int} {p N : Nat} {c d : Nat → Int}
end
end HG

/-! enumerate(tuple). -/
namespace HG
open PySem L2 PyProof.Rows
section
variable {prog : Program} {w : World} {A : Around} {E : Value → Shared → Prop} {s : Shared}
end
/-- a loop over a range: nothing need stay -/
theorem for_itr {lo : Int} {n : Nat} {H1 : Hp} {g : TG} {tb : TS} {D : Ends} {σ : L2.St} (W : Nat → L2.St → Hp → Prop) (w0 : W 0 σ H1) (fin : ∀ σ H, W n σ H → D.nx σ H)
    (step : ∀ i σ H, i < n → W i σ H → g (.int (lo + (i : Nat))) σ H fun σ2 H2 => tb { D with nx := W (i + 1), ct := W (i + 1), bk := D.nx } σ2 H2) : ForW (Itr lo n) g tb D σ H1 := by
  refine ⟨fun i m σ H => i ≤ n ∧ m = n - i ∧ W i σ H, ⟨n, by omega, by omega, w0⟩, ?_⟩
  rintro i m σ H ⟨hi, hm, w⟩
  by_cases e : i = n
  · subst e
    exact .inl ⟨Nat.le_refl _, fin _ _ w⟩
  · have hl : i < n := by omega
    refine .inr ⟨hl, W (i + 1), fun σ' H' q => ⟨n - (i + 1), by omega, by omega, rfl, q⟩, fun x H' y => ?_⟩
    obtain ⟨rfl, rfl⟩ := y
    exact step i σ H' hl w
end HG

/-! range(i, j) over whole numbers of any size. -/
namespace HG
open PySem L2 PyProof.Rows
end HG

/-! Dicts whose keys are tuples of texts. -/
namespace HG
open PySem L2 PySem.Spec PyProof.Rows
section
variable {X : Cx}
end
end HG

/-! A dict among starred arguments. -/
namespace HG
open PySem L2 PySem.Spec PyProof.Rows
section
variable {X : Cx} {pins : List (Addr × Obj)} {σ : L2.St} {H : Hp} {s : Shared}
end
section
variable {X : Cx} {e : Expr} {es : List Expr} {te : TE} {t : TA} {p : Pos}
end
end HG

/-! Class attributes; instances called; walks of locked dicts. -/
namespace HG
open PySem L2 PyProof.Rows
/-- a number that stands in a class -/
structure CInt (K : PySem.W.Frag) (C : Addr) (m : Str) (i : Int) : Prop where
  rd : ∃ mc t, PySem.W.readsIn K C mc = true ∧ PySem.W.findCls K (.ref C) mc m = some (.val (.int i t))
section
variable {X : Cx} {CX : CXT} {k : Nat} {g C : Addr} {fd : FuncData} {ps : List Str} {sp : Sp} {E : XK} {e fe : Expr} {es : List Expr} {tf : TE} {t : TA} {pos : Pos}
end
/-! ### walks of locked dicts -/
/-- the iterator hands out at turn j what P j tells -/
structure JOkR (J : It) (H1 : Hp) (n : Nat) (P : Nat → V → Hp → Prop) : Prop where
  go : ∀ H, Grow H1 H → ∀ j, j < n → J.go j H
  yld : ∀ H, Grow H1 H → ∀ j, j < n → ∀ x H', J.yld j H x H' → H' = H ∧ P j x H
  stop : ∀ H, Grow H1 H → J.stop n H
  on : ∀ j x H H', P j x H → Grow H H' → P j x H'
end HG

/-! enumerate(text). -/
namespace HG
open PySem L2 PyProof.Rows
end HG

/-! A dict that is made to be walked; signs of a text. -/
namespace HG
open PySem L2 PyProof.Rows
section
variable {X : Cx} {tg e : Expr} {td : TE}
end
end HG

/-! Loops over texts and dicts. -/
namespace HG
open PySem L2 PyProof.Rows
end HG

/-! Defs called with keywords alone. -/
namespace HG
open PySem L2 PyProof.Rows
section
variable {X : Cx} {CX : CXT} {k n : Nat} {f : Addr} {fd : FuncData} {ps ks : List Str} {sp : Sp} {E : XK} {x : Str} {p pos : Pos} {kws : List Keyword} {tk : TA} {g : List Value → List Value → List Value} {gV : List V → List V → List V}
end
/-! list(text): its signs -/
end HG

/-! == of dicts whose keys are tuples. -/
namespace HG
open PySem PySem.W PySem.Calls PyProof.Rows PyProof.V PySem.Spec
open PySem.SeqAt (EqIn EqAt rcIn_lists rcIn_tuples)
section
variable {prog : Program} {w : World} {K : Type} [DecidableEq K] {knd : HeapKind prog w K} {A : Around} {E : Value → Shared → Prop} {s : Shared}
inductive HitsH (prog : Program) (w : World) {K : Type} [DecidableEq K] (A : Around) (s : Shared) (kb : List (K × Addr × Value)) : List (K × Addr × Value) → Bool → Prop
  | nil : HitsH prog w A s kb [] true
  | miss {k : K} {p : Addr × Value} {r : List (K × Addr × Value)} : atKey kb k = none → HitsH prog w A s kb ((k, p) :: r) false
  | hit {k : K} {p q : Addr × Value} {r : List (K × Addr × Value)} {e b : Bool} : atKey kb k = some q → EqIn prog w A s p.2 q.2 e → HitsH prog w A s kb r b → HitsH prog w A s kb ((k, p) :: r) (e && b)
end
end HG
namespace HG
open PySem PySem.Spec PyProof.Rows L2
open PySem.SeqAt (EqIn)
section
variable {X : Cx} {pins : List (Addr × Obj)} {σ : L2.St} {H : Hp} {s : Shared}
end
end HG

/-! Defs with a star parameter, called as methods. -/
namespace HG
open PySem L2 PyProof.Rows StX
structure FnGR (P : Program) (w : World) (K : PySem.W.Frag) (mg : Str → Option Value) (base : Heap) (CX : CXT) (k : Nat) (f : Addr) (sp : Sp) : Prop where
  run : ∀ (A : Around) (outer : List Env) (s : Shared) (H : Hp) (us : List Value) (vs : List V) (Q : VK) (E : XK), Room k A → GA A → Env0 P w K mg base A outer s H → Vals vs us → sp vs H Q E →
    codeAny (model P w) A (.call (.ref f) ⟨us, []⟩) (CR CX outer P w H s Q E) s
section
variable {P : Program} {w : World} {K : PySem.W.Frag} {mg : Str → Option Value} {base : Heap} {CX : CXT} {k : Nat} {f : Addr} {fd : FuncData} {ps : List Str} {sp : Sp}
end
section
variable {X : Cx} {CX : CXT} {k : Nat} {f C : Addr} {sp : Sp} {E : XK} {m : Str} {pos apos : Pos} {e o : Expr} {es : List Expr} {ta : TE} {t : TA} {pl : Sem Bool}
end
end HG

/-! for k, v in d.items(), d with tuple keys. -/
namespace HG
open PySem L2 PyProof.Rows
end HG

/-! Dict comprehensions whose walk makes new tuples, told by a relation. -/
namespace HG
open PySem L2
/-- the iterator may make what it hands out -/
structure JOkG (J : It) (H1 : Hp) (n : Nat) (P : Nat → V → Hp → Prop) : Prop where
  go : ∀ H, Grow H1 H → ∀ j, j < n → J.go j H
  yld : ∀ H, Grow H1 H → ∀ j, j < n → ∀ x H', J.yld j H x H' → Grow H H' ∧ P j x H'
  stop : ∀ H, Grow H1 H → J.stop n H
theorem JOkR.g {J : It} {H1 : Hp} {n : Nat} {P : Nat → V → Hp → Prop} (h : JOkR J H1 n P) : JOkG J H1 n P := ⟨h.go, fun H g j hj x H' y => by
  obtain ⟨rfl, p⟩ := h.yld H g j hj x H' y
  exact ⟨.refl, p⟩, h.stop⟩
theorem JOk.r {J : It} {H1 : Hp} {n : Nat} {xs : Nat → V} (h : JOk J H1 n xs) : JOkR J H1 n (fun j x _ => x = xs j) := ⟨h.go, h.yld, h.stop, fun j x H H' p g => p⟩
end HG

/-! len(o) by an own __len__; for i, x in enumerate(tuple). -/
namespace HG
open PySem L2 PyProof.Rows
structure LenF (K : PySem.W.Frag) (C f : Addr) : Prop where
  fn : PySem.W.findIn K (.ref C) "__len__" = some (some (.ref f))
  isf : PySem.W.isFn K (.ref f) = true
section
variable {X : Cx} {k : Nat} {C f : Addr} {sp : Sp}
end
end HG

/-! name = {comprehension with tuple keys}, the name a local. -/
namespace HG
open PySem L2 PySem.Spec PyProof.Rows
section
variable {X : Cx}
end
end HG

/-! Instances called with keywords alone. -/
namespace HG
open PySem L2 PyProof.Rows
section
variable {X : Cx} {CX : CXT} {k n : Nat} {f C : Addr} {fd : FuncData} {ps ks : List Str} {sp : Sp} {E : XK} {pos : Pos} {fe : Expr} {kws : List Keyword} {tf : TE} {tk : TA} {g : List Value → List Value → List Value} {gV : List V → List V → List V}
end
end HG

/-! repr of a text. -/
namespace HG
open PySem L2 PyProof.Rows
end HG

/-! repr of a bool and of an empty dict, too; values that are no text. -/
namespace HG
open PySem L2 PyProof.Rows
/-- no text -/
def NotStr (K : PySem.W.Frag) (H : Hp) (v : V) : Prop := (∀ x, v ≠ .str x) ∧ ∃ t, tyF H v = some t ∧ tyOk K t ∧ PySem.W.kitOne K t (.type "str") = some false
theorem tyF_grow {H H' : Hp} (g : Grow H H') {v : V} {t : Value} (h : tyF H v = some t) : tyF H' v = some t := by
  cases v with
  | ref a =>
    simp only [tyF] at h ⊢
    cases e : H a with
    | none => rw [e] at h; cases h
    | some o => rw [e] at h; rw [g _ _ e]; exact h
  | _ => exact h
theorem NotStr.grow {K : PySem.W.Frag} {H H' : Hp} {v : V} (h : NotStr K H v) (g : Grow H H') : NotStr K H' v := ⟨h.1, by
  obtain ⟨_, t, h1, h2, h3⟩ := h
  exact ⟨t, tyF_grow g h1, h2, h3⟩⟩
end HG

/-! {(a, b): v, ..}: a display with tuple keys. -/
namespace HG
open PySem L2 PySem.Spec PyProof.Rows
end HG

/-! A text some times. -/
namespace HG
open PySem L2 PyProof.Rows
end HG

/-! for x in o, o's own __iter__ being: return iter(a tuple). -/
namespace HG
open PySem L2 PyProof.Rows
/-- what stands there is forgotten -/
theorem _root_.L2.Inv.drop {X : Cx} {pins : List (Addr × Obj)} {σ : L2.St} {H : Hp} {s : Shared} {p : Addr} {φ : Heap → Prop} (I : Inv X pins σ H s) (h : H p = some (.ext φ)) (h0 : X.s_0.heap.objs.size ≤ p) : Inv X pins σ (del H p) s := by
  have ne : ∀ {b : Addr} {o : HO}, H b = some o → (∀ ψ, o ≠ .ext ψ) → b ≠ p := fun {b o} e n z => by rw [z, h] at e; cases e; exact n _ rfl
  have dn : ∀ {b : Addr}, H b = none → del H p b = none := fun {b} e => by
    by_cases z : b = p
    · rw [z, del_same]
    · rw [del_ne z]; exact e
  refine ⟨I.ok, I.os, I.bare, ⟨I.base.keep, I.base.slot, fun b o q n x => dn (I.base.free b o q n x), I.base.there, fun b xs q => ?_, fun b o xs q => ?_, fun b ps q => ?_⟩, I.loc, I.cell, dn I.free, fun y c e => dn (I.freeC y c e), fun r hr => ?_, fun b o q => ?_, I.len⟩
  · have := I.base.tups b xs q
    rw [del_ne (ne this (fun _ z => by cases z))]
    exact this
  · have := I.base.frzs b o xs q
    rw [del_ne (ne this (fun _ z => by cases z))]
    exact this
  · obtain ⟨more, this⟩ := I.base.tbls b ps q
    exact ⟨more, by rw [del_ne (ne this (fun _ z => by cases z))]; exact this⟩
  · obtain ⟨p1, p2, p3⟩ := I.pin r hr
    exact ⟨p1, dn p2, p3⟩
  · have hb : b ≠ p := fun z => by rw [z, del_same] at q; cases q
    rw [del_ne hb] at q
    exact (I.hok b o q).stay (fun c v hc z => z) (fun c hc => by rw [del_ne (ne hc (fun _ z => by cases z))]; exact hc) (fun c xs hc => by rw [del_ne (ne hc (fun _ z => by cases z))]; exact hc)
/-- a def whose promise speaks of where new things lie -/
structure FnGN (P : Program) (w : World) (K : PySem.W.Frag) (mg : Str → Option Value) (base : Heap) (CX : CXT) (k : Nat) (f : Addr) (fd : FuncData) (ps : List Str) (sp : Nat → Sp) : Prop where
  len : ∀ n vs H Q E, sp n vs H Q E → vs.length = ps.length
  run : ∀ (A : Around) (outer : List Env) (s : Shared) (H : Hp) (args : Args) (us : List Value) (vs : List V) (Q : VK) (E : XK), Room k A → GA A → Env0 P w K mg base A outer s H → BindsTo s fd args (ps.zip us) → Vals vs us → sp s.heap.objs.size vs H Q E → codeAny (model P w) A (.call (.ref f) args) (CR CX outer P w H s Q E) s
section
variable {P : Program} {w : World} {K : PySem.W.Frag} {mg : Str → Option Value} {base : Heap} {CX : CXT} {j k : Nat} {f : Addr} {fd : FuncData} {ps : List Str} {sp : Nat → Sp}
end
/-- __iter__ of the class at C -/
structure ItF (K : PySem.W.Frag) (C f : Addr) : Prop where
  fn : PySem.W.findIn K (.ref C) "__iter__" = some (some (.ref f))
  isf : PySem.W.isFn K (.ref f) = true
end HG

/-! dict([..]) of pairs; texts compared by order. -/
namespace HG
open PySem L2 PyProof.Rows
end HG

/-! Comprehensions whose results are told by a relation, over any walk; loops over a locked dict's keys; dicts whose values are all True. -/
namespace HG
open PySem L2 PyProof.Rows
end HG

/-! Sorted texts, each once. -/
namespace HG
open PySem L2
theorem JOk.gg {J : It} {H1 : Hp} {n : Nat} {xs : Nat → V} (h : JOk J H1 n xs) : JOkG J H1 n (fun j x _ => x = xs j) := h.r.g
end HG

/-! isinstance(e, (C, D)), e a tracked exception. -/
namespace HG
open PySem L2 PyProof.Rows
end HG

/-! zip of a list or tuple and a text. -/
namespace HG
open PySem L2 PyProof.Rows
end HG

/-! t[a::k] of a tuple, a of it or less, k two or more. -/
namespace HG
open PySem PySem.Spec L2 PyProof.Rows HT
section
variable {prog : Program} {w : World} {A : Around} {E : Value → Shared → Prop} {s : Shared}
end
end HG

/-! *text among the items of a display. -/
namespace HG
open PySem L2 PySem.Spec PyProof.Rows
section
variable {X : Cx} {pins : List (Addr × Obj)} {σ : L2.St} {H : Hp} {s : Shared}
end
end HG

/-! == and != of a dict beside a value of another kind. -/
namespace HG
open PySem PySem.SeqAt
open AutoSeq1 (wpAny_loadPart')
open MeetsSeq MeetsSeq2 MeetsSeq3
def IsD (h : Heap) (d : Addr) : Prop := ∃ es ep, h.get? d = some { cls := .type "dict", dict := none, data := .dict es ep, slots := #[] }
section
variable {prog : Program} {w : World} {A : Around} {E : Value → Shared → Prop} {s : Shared}
abbrev EqN (prog : Program) (w : World) (A : Around) (op : CmpOp) (s : Shared) (a b : Value) (k : Bool) : Prop := ∀ (E Q : Value → Shared → Prop), Q (.bool k) s → wpAny (model prog w) A (richCompare op a b) Q E s

theorem dict_eq_dec_none {d : Addr} {Q : Value → Shared → Prop} (hd : IsD s.heap d) (h : Q .notImplemented s) : wpAny (model prog w) A (call (.builtin "dict.__eq__") [.ref d, Value.none]) Q E s := by
  obtain ⟨es, ep, ho⟩ := hd
  refine wpAny_call_entry PySem.F.slot_dict_eq (T := "dict") ⟨_, ho, rfl⟩ PySem.F.entry_dict_eq ?_ (PySem.F.args_dict_eq_2 _ _)
  show wpAny _ _ (Builtin.Dict.dictSlotArgs "__eq__" ⟨[.ref d, Value.none], []⟩ >>= _) _ _ s
  refine wpAny_bind ?_
  unfold Builtin.Dict.dictSlotArgs
  refine wpAny_bind (wpAny_notOrdered_dict ⟨_, ho, rfl⟩ ?_)
  show wpAny _ _ (pure (Value.ref d, Value.none)) _ _ s
  refine wpAny_pure ?_
  refine wpAny_bind (wpAny_isInstance (T := "NoneType") (b := false) rfl PySem.F.sub_NoneType_dict ?_)
  simp only [Bool.not_false, if_true]
  exact wpAny_bind (wpAny_rule (wpAny_pure ⟨_, rfl, h⟩))

theorem none_eq_decD (d : Addr) (es : Array DictEntry) (ep : Nat) :
    Meets (Builtin.«NoneType.__eq__» ⟨[Value.none, .ref d], []⟩) (fun _ R s => s.heap.get? d = some { cls := .type "dict", dict := none, data := .dict es ep, slots := #[] } ∧ R (.ok (.ret .notImplemented)) s) :=
  .of_wp fun prog w A R s h => by obtain ⟨hp, g, d, tk, os⟩ := s; obtain ⟨hd, h⟩ := h; have f1 := F.sub_dict_NoneType; wp_walk using wpAny_loadPart' hd, wpAny_load hd; exact ⟨_, rfl, h⟩

theorem rc_eq_dict_none {d : Addr} (hd : IsD s.heap d) (hu : A.units < cLine) : EqN prog w A .Eq s (.ref d) Value.none false := fun E Q h => by
  obtain ⟨es, ep, ho⟩ := hd
  exact rc_eq_decline_or (k := false) ⟨_, ho, rfl⟩ rfl (by decide) F.sub_NoneType_dict F.slot_dict_eq F.slot_NoneType_eq_refl
    (fun _ hq => dict_eq_dec_none ⟨_, _, ho⟩ hq)
    (fun _ hq => call_meets F.slot_NoneType_eq_refl rfl F.entry_NoneType_eq (F.args_NoneType_eq_2 _ _) (none_eq_decD d es ep) ⟨ho, hq⟩)
    (fun _ hq => wpAny_of_eq (rfl : isSame (.ref d) Value.none = pure false) hq) (.inr hu) h
theorem rc_eq_none_dict {d : Addr} (hd : IsD s.heap d) (hu : A.units < cLine) : EqN prog w A .Eq s Value.none (.ref d) false := fun E Q h => by
  obtain ⟨es, ep, ho⟩ := hd
  exact rc_eq_decline_or (k := false) rfl ⟨_, ho, rfl⟩ (by decide) F.sub_dict_NoneType F.slot_NoneType_eq F.slot_dict_eq_refl
    (fun _ hq => call_meets F.slot_NoneType_eq rfl F.entry_NoneType_eq (F.args_NoneType_eq_2 _ _) (none_eq_decD d es ep) ⟨ho, hq⟩)
    (fun _ hq => dict_eq_dec_none ⟨_, _, ho⟩ hq)
    (fun _ hq => wpAny_of_eq (rfl : isSame Value.none (.ref d) = pure false) hq) (.inr hu) h

theorem dict_eq_dec_int {d : Addr} {i : Int} {t : Tok} {Q : Value → Shared → Prop} (hd : IsD s.heap d) (h : Q .notImplemented s) : wpAny (model prog w) A (call (.builtin "dict.__eq__") [.ref d, (Value.int i t)]) Q E s := by
  obtain ⟨es, ep, ho⟩ := hd
  refine wpAny_call_entry PySem.F.slot_dict_eq (T := "dict") ⟨_, ho, rfl⟩ PySem.F.entry_dict_eq ?_ (PySem.F.args_dict_eq_2 _ _)
  show wpAny _ _ (Builtin.Dict.dictSlotArgs "__eq__" ⟨[.ref d, (Value.int i t)], []⟩ >>= _) _ _ s
  refine wpAny_bind ?_
  unfold Builtin.Dict.dictSlotArgs
  refine wpAny_bind (wpAny_notOrdered_dict ⟨_, ho, rfl⟩ ?_)
  show wpAny _ _ (pure (Value.ref d, (Value.int i t))) _ _ s
  refine wpAny_pure ?_
  refine wpAny_bind (wpAny_isInstance (T := "int") (b := false) (typeIs_int s i t) PySem.F.sub_int_dict ?_)
  simp only [Bool.not_false, if_true]
  exact wpAny_bind (wpAny_rule (wpAny_pure ⟨_, rfl, h⟩))

theorem int_eq_decD (d : Addr) (es : Array DictEntry) (ep : Nat) (i : Int) (t : Tok) :
    Meets (Builtin.«int.__eq__» ⟨[(Value.int i t), .ref d], []⟩) (fun _ R s => s.heap.get? d = some { cls := .type "dict", dict := none, data := .dict es ep, slots := #[] } ∧ R (.ok (.ret .notImplemented)) s) :=
  .of_wp fun prog w A R s h => by obtain ⟨hp, g, d, tk, os⟩ := s; obtain ⟨hd, h⟩ := h; have f1 := F.sub_dict_int; wp_walk using wpAny_loadPart' hd, wpAny_load hd; exact ⟨_, rfl, h⟩

theorem rc_eq_dict_int {d : Addr} {i : Int} {t : Tok} (hd : IsD s.heap d) (hu : A.units < cLine) : EqN prog w A .Eq s (.ref d) (Value.int i t) false := fun E Q h => by
  obtain ⟨es, ep, ho⟩ := hd
  exact rc_eq_decline_or (k := false) ⟨_, ho, rfl⟩ (typeIs_int s i t) (by decide) F.sub_int_dict F.slot_dict_eq F.slot_int_eq_refl
    (fun _ hq => dict_eq_dec_int ⟨_, _, ho⟩ hq)
    (fun _ hq => call_meets F.slot_int_eq_refl (typeIs_int s i t) F.entry_int_eq (F.args_int_eq_2 _ _) (int_eq_decD d es ep i t) ⟨ho, hq⟩)
    (fun _ hq => wpAny_of_eq (rfl : isSame (.ref d) (Value.int i t) = pure false) hq) (.inr hu) h
theorem rc_eq_int_dict {d : Addr} {i : Int} {t : Tok} (hd : IsD s.heap d) (hu : A.units < cLine) : EqN prog w A .Eq s (Value.int i t) (.ref d) false := fun E Q h => by
  obtain ⟨es, ep, ho⟩ := hd
  exact rc_eq_decline_or (k := false) (typeIs_int s i t) ⟨_, ho, rfl⟩ (by decide) F.sub_dict_int F.slot_int_eq F.slot_dict_eq_refl
    (fun _ hq => call_meets F.slot_int_eq (typeIs_int s i t) F.entry_int_eq (F.args_int_eq_2 _ _) (int_eq_decD d es ep i t) ⟨ho, hq⟩)
    (fun _ hq => dict_eq_dec_int ⟨_, _, ho⟩ hq)
    (fun _ hq => wpAny_of_eq (rfl : isSame (Value.int i t) (.ref d) = pure false) hq) (.inr hu) h

theorem dict_eq_dec_str {d : Addr} {i : Str} {t : Tok} {Q : Value → Shared → Prop} (hd : IsD s.heap d) (h : Q .notImplemented s) : wpAny (model prog w) A (call (.builtin "dict.__eq__") [.ref d, (Value.str i t)]) Q E s := by
  obtain ⟨es, ep, ho⟩ := hd
  refine wpAny_call_entry PySem.F.slot_dict_eq (T := "dict") ⟨_, ho, rfl⟩ PySem.F.entry_dict_eq ?_ (PySem.F.args_dict_eq_2 _ _)
  show wpAny _ _ (Builtin.Dict.dictSlotArgs "__eq__" ⟨[.ref d, (Value.str i t)], []⟩ >>= _) _ _ s
  refine wpAny_bind ?_
  unfold Builtin.Dict.dictSlotArgs
  refine wpAny_bind (wpAny_notOrdered_dict ⟨_, ho, rfl⟩ ?_)
  show wpAny _ _ (pure (Value.ref d, (Value.str i t))) _ _ s
  refine wpAny_pure ?_
  refine wpAny_bind (wpAny_isInstance (T := "str") (b := false) (typeIs_str s i t) PySem.F.sub_str_dict ?_)
  simp only [Bool.not_false, if_true]
  exact wpAny_bind (wpAny_rule (wpAny_pure ⟨_, rfl, h⟩))

theorem str_eq_decD (d : Addr) (es : Array DictEntry) (ep : Nat) (i : Str) (t : Tok) :
    Meets (Builtin.«str.__eq__» ⟨[(Value.str i t), .ref d], []⟩) (fun _ R s => s.heap.get? d = some { cls := .type "dict", dict := none, data := .dict es ep, slots := #[] } ∧ R (.ok (.ret .notImplemented)) s) :=
  .of_wp fun prog w A R s h => by obtain ⟨hp, g, d, tk, os⟩ := s; obtain ⟨hd, h⟩ := h; have f1 := F.sub_dict_str; wp_walk using wpAny_loadPart' hd, wpAny_load hd; exact ⟨_, rfl, h⟩

theorem rc_eq_dict_str {d : Addr} {i : Str} {t : Tok} (hd : IsD s.heap d) (hu : A.units < cLine) : EqN prog w A .Eq s (.ref d) (Value.str i t) false := fun E Q h => by
  obtain ⟨es, ep, ho⟩ := hd
  exact rc_eq_decline_or (k := false) ⟨_, ho, rfl⟩ (typeIs_str s i t) (by decide) F.sub_str_dict F.slot_dict_eq F.slot_str_eq_refl
    (fun _ hq => dict_eq_dec_str ⟨_, _, ho⟩ hq)
    (fun _ hq => call_meets F.slot_str_eq_refl (typeIs_str s i t) F.entry_str_eq (F.args_str_eq_2 _ _) (str_eq_decD d es ep i t) ⟨ho, hq⟩)
    (fun _ hq => wpAny_of_eq (rfl : isSame (.ref d) (Value.str i t) = pure false) hq) (.inr hu) h
theorem rc_eq_str_dict {d : Addr} {i : Str} {t : Tok} (hd : IsD s.heap d) (hu : A.units < cLine) : EqN prog w A .Eq s (Value.str i t) (.ref d) false := fun E Q h => by
  obtain ⟨es, ep, ho⟩ := hd
  exact rc_eq_decline_or (k := false) (typeIs_str s i t) ⟨_, ho, rfl⟩ (by decide) F.sub_dict_str F.slot_str_eq F.slot_dict_eq_refl
    (fun _ hq => call_meets F.slot_str_eq (typeIs_str s i t) F.entry_str_eq (F.args_str_eq_2 _ _) (str_eq_decD d es ep i t) ⟨ho, hq⟩)
    (fun _ hq => dict_eq_dec_str ⟨_, _, ho⟩ hq)
    (fun _ hq => wpAny_of_eq (rfl : isSame (Value.str i t) (.ref d) = pure false) hq) (.inr hu) h

theorem dict_eq_dec_list {d : Addr} {l : Addr} {it : Array Value} {n : Nat} {dd : Option Addr} {sl : Array (Option Value)} {Q : Value → Shared → Prop} (hd : IsD s.heap d) (hl : s.heap.get? l = some { cls := .type "list", dict := dd, data := .seq it n, slots := sl }) (h : Q .notImplemented s) : wpAny (model prog w) A (call (.builtin "dict.__eq__") [.ref d, (Value.ref l)]) Q E s := by
  obtain ⟨es, ep, ho⟩ := hd
  refine wpAny_call_entry PySem.F.slot_dict_eq (T := "dict") ⟨_, ho, rfl⟩ PySem.F.entry_dict_eq ?_ (PySem.F.args_dict_eq_2 _ _)
  show wpAny _ _ (Builtin.Dict.dictSlotArgs "__eq__" ⟨[.ref d, (Value.ref l)], []⟩ >>= _) _ _ s
  refine wpAny_bind ?_
  unfold Builtin.Dict.dictSlotArgs
  refine wpAny_bind (wpAny_notOrdered_dict ⟨_, ho, rfl⟩ ?_)
  show wpAny _ _ (pure (Value.ref d, (Value.ref l))) _ _ s
  refine wpAny_pure ?_
  refine wpAny_bind (wpAny_isInstance (T := "list") (b := false) ⟨_, hl, rfl⟩ PySem.F.sub_list_dict ?_)
  simp only [Bool.not_false, if_true]
  exact wpAny_bind (wpAny_rule (wpAny_pure ⟨_, rfl, h⟩))

theorem list_eq_decD (d : Addr) (es : Array DictEntry) (ep : Nat) (l : Addr) (it : Array Value) (n : Nat) (dd : Option Addr) (sl : Array (Option Value)) :
    Meets (Builtin.«list.__eq__» ⟨[(Value.ref l), .ref d], []⟩) (fun _ R s => s.heap.get? d = some { cls := .type "dict", dict := none, data := .dict es ep, slots := #[] } ∧ s.heap.get? l = some { cls := .type "list", dict := dd, data := .seq it n, slots := sl } ∧ R (.ok (.ret .notImplemented)) s) :=
  .of_wp fun prog w A R s h => by obtain ⟨hp, g, d, tk, os⟩ := s; obtain ⟨hd, hl, h⟩ := h; have f1 := F.sub_dict_list; wp_walk using wpAny_loadPart' hd, wpAny_load hd, wpAny_loadPart' hl, wpAny_load hl; exact ⟨_, rfl, h⟩

theorem rc_eq_dict_list {d : Addr} {l : Addr} {it : Array Value} {n : Nat} {dd : Option Addr} {sl : Array (Option Value)} (hd : IsD s.heap d) (hl : s.heap.get? l = some { cls := .type "list", dict := dd, data := .seq it n, slots := sl }) (hu : A.units < cLine) : EqN prog w A .Eq s (.ref d) (Value.ref l) false := fun E Q h => by
  obtain ⟨es, ep, ho⟩ := hd
  have hne : d ≠ l := fun e => by subst e; rw [ho] at hl; simp at hl
  exact rc_eq_decline_or (k := false) ⟨_, ho, rfl⟩ ⟨_, hl, rfl⟩ (by decide) F.sub_list_dict F.slot_dict_eq F.slot_list_eq_refl
    (fun _ hq => dict_eq_dec_list ⟨_, _, ho⟩ hl hq)
    (fun _ hq => call_meets F.slot_list_eq_refl ⟨_, hl, rfl⟩ F.entry_list_eq (F.args_list_eq_2 _ _) (list_eq_decD d es ep l it n dd sl) ⟨ho, hl, hq⟩)
    (fun _ hq => wpAny_isSame_ref_other' hne ho hl (by simp) hq) (.inr hu) h
theorem rc_eq_list_dict {d : Addr} {l : Addr} {it : Array Value} {n : Nat} {dd : Option Addr} {sl : Array (Option Value)} (hd : IsD s.heap d) (hl : s.heap.get? l = some { cls := .type "list", dict := dd, data := .seq it n, slots := sl }) (hu : A.units < cLine) : EqN prog w A .Eq s (Value.ref l) (.ref d) false := fun E Q h => by
  obtain ⟨es, ep, ho⟩ := hd
  have hne : d ≠ l := fun e => by subst e; rw [ho] at hl; simp at hl
  exact rc_eq_decline_or (k := false) ⟨_, hl, rfl⟩ ⟨_, ho, rfl⟩ (by decide) F.sub_dict_list F.slot_list_eq F.slot_dict_eq_refl
    (fun _ hq => call_meets F.slot_list_eq ⟨_, hl, rfl⟩ F.entry_list_eq (F.args_list_eq_2 _ _) (list_eq_decD d es ep l it n dd sl) ⟨ho, hl, hq⟩)
    (fun _ hq => dict_eq_dec_list ⟨_, _, ho⟩ hl hq)
    (fun _ hq => wpAny_isSame_ref_other' hne.symm hl ho (by simp) hq) (.inr hu) h

theorem dict_eq_dec_tuple {d : Addr} {l : Addr} {it : Array Value} {n : Nat} {dd : Option Addr} {sl : Array (Option Value)} {Q : Value → Shared → Prop} (hd : IsD s.heap d) (hl : s.heap.get? l = some { cls := .type "tuple", dict := dd, data := .seq it n, slots := sl }) (h : Q .notImplemented s) : wpAny (model prog w) A (call (.builtin "dict.__eq__") [.ref d, (Value.ref l)]) Q E s := by
  obtain ⟨es, ep, ho⟩ := hd
  refine wpAny_call_entry PySem.F.slot_dict_eq (T := "dict") ⟨_, ho, rfl⟩ PySem.F.entry_dict_eq ?_ (PySem.F.args_dict_eq_2 _ _)
  show wpAny _ _ (Builtin.Dict.dictSlotArgs "__eq__" ⟨[.ref d, (Value.ref l)], []⟩ >>= _) _ _ s
  refine wpAny_bind ?_
  unfold Builtin.Dict.dictSlotArgs
  refine wpAny_bind (wpAny_notOrdered_dict ⟨_, ho, rfl⟩ ?_)
  show wpAny _ _ (pure (Value.ref d, (Value.ref l))) _ _ s
  refine wpAny_pure ?_
  refine wpAny_bind (wpAny_isInstance (T := "tuple") (b := false) ⟨_, hl, rfl⟩ PySem.F.sub_tuple_dict ?_)
  simp only [Bool.not_false, if_true]
  exact wpAny_bind (wpAny_rule (wpAny_pure ⟨_, rfl, h⟩))

theorem tuple_eq_decD (d : Addr) (es : Array DictEntry) (ep : Nat) (l : Addr) (it : Array Value) (n : Nat) (dd : Option Addr) (sl : Array (Option Value)) :
    Meets (Builtin.«tuple.__eq__» ⟨[(Value.ref l), .ref d], []⟩) (fun _ R s => s.heap.get? d = some { cls := .type "dict", dict := none, data := .dict es ep, slots := #[] } ∧ s.heap.get? l = some { cls := .type "tuple", dict := dd, data := .seq it n, slots := sl } ∧ R (.ok (.ret .notImplemented)) s) :=
  .of_wp fun prog w A R s h => by obtain ⟨hp, g, d, tk, os⟩ := s; obtain ⟨hd, hl, h⟩ := h; have f1 := F.sub_dict_tuple; wp_walk using wpAny_loadPart' hd, wpAny_load hd, wpAny_loadPart' hl, wpAny_load hl; exact ⟨_, rfl, h⟩

theorem rc_eq_dict_tuple {d : Addr} {l : Addr} {it : Array Value} {n : Nat} {dd : Option Addr} {sl : Array (Option Value)} (hd : IsD s.heap d) (hl : s.heap.get? l = some { cls := .type "tuple", dict := dd, data := .seq it n, slots := sl }) (hu : A.units < cLine) : EqN prog w A .Eq s (.ref d) (Value.ref l) false := fun E Q h => by
  obtain ⟨es, ep, ho⟩ := hd
  have hne : d ≠ l := fun e => by subst e; rw [ho] at hl; simp at hl
  exact rc_eq_decline_or (k := false) ⟨_, ho, rfl⟩ ⟨_, hl, rfl⟩ (by decide) F.sub_tuple_dict F.slot_dict_eq F.slot_tuple_eq_refl
    (fun _ hq => dict_eq_dec_tuple ⟨_, _, ho⟩ hl hq)
    (fun _ hq => call_meets F.slot_tuple_eq_refl ⟨_, hl, rfl⟩ F.entry_tuple_eq (F.args_tuple_eq_2 _ _) (tuple_eq_decD d es ep l it n dd sl) ⟨ho, hl, hq⟩)
    (fun _ hq => wpAny_isSame_ref_other hne ho hl (by simp) hq) (.inr hu) h
theorem rc_eq_tuple_dict {d : Addr} {l : Addr} {it : Array Value} {n : Nat} {dd : Option Addr} {sl : Array (Option Value)} (hd : IsD s.heap d) (hl : s.heap.get? l = some { cls := .type "tuple", dict := dd, data := .seq it n, slots := sl }) (hu : A.units < cLine) : EqN prog w A .Eq s (Value.ref l) (.ref d) false := fun E Q h => by
  obtain ⟨es, ep, ho⟩ := hd
  have hne : d ≠ l := fun e => by subst e; rw [ho] at hl; simp at hl
  exact rc_eq_decline_or (k := false) ⟨_, hl, rfl⟩ ⟨_, ho, rfl⟩ (by decide) F.sub_dict_tuple F.slot_tuple_eq F.slot_dict_eq_refl
    (fun _ hq => call_meets F.slot_tuple_eq ⟨_, hl, rfl⟩ F.entry_tuple_eq (F.args_tuple_eq_2 _ _) (tuple_eq_decD d es ep l it n dd sl) ⟨ho, hl, hq⟩)
    (fun _ hq => dict_eq_dec_tuple ⟨_, _, ho⟩ hl hq)
    (fun _ hq => wpAny_isSame_ref_other' hne.symm hl ho (by simp) hq) (.inr hu) h

theorem dict_ne_dec_none {d : Addr} {Q : Value → Shared → Prop} (hd : IsD s.heap d) (h : Q .notImplemented s) : wpAny (model prog w) A (call (.builtin "dict.__ne__") [.ref d, Value.none]) Q E s := by
  obtain ⟨es, ep, ho⟩ := hd
  refine wpAny_call_entry PySem.F.slot_dict_ne (T := "dict") ⟨_, ho, rfl⟩ PySem.F.entry_dict_ne ?_ (PySem.F.args_dict_ne_2 _ _)
  show wpAny _ _ (Builtin.Dict.dictSlotArgs "__ne__" ⟨[.ref d, Value.none], []⟩ >>= _) _ _ s
  refine wpAny_bind ?_
  unfold Builtin.Dict.dictSlotArgs
  refine wpAny_bind (wpAny_notOrdered_dict ⟨_, ho, rfl⟩ ?_)
  show wpAny _ _ (pure (Value.ref d, Value.none)) _ _ s
  refine wpAny_pure ?_
  refine wpAny_bind (wpAny_isInstance (T := "NoneType") (b := false) rfl PySem.F.sub_NoneType_dict ?_)
  simp only [Bool.not_false, if_true]
  exact wpAny_bind (wpAny_rule (wpAny_pure ⟨_, rfl, h⟩))

theorem none_ne_decD (d : Addr) (es : Array DictEntry) (ep : Nat) :
    Meets (Builtin.«NoneType.__ne__» ⟨[Value.none, .ref d], []⟩) (fun _ R s => s.heap.get? d = some { cls := .type "dict", dict := none, data := .dict es ep, slots := #[] } ∧ R (.ok (.ret .notImplemented)) s) :=
  .of_wp fun prog w A R s h => by obtain ⟨hp, g, d, tk, os⟩ := s; obtain ⟨hd, h⟩ := h; have f1 := F.sub_dict_NoneType; wp_walk using wpAny_loadPart' hd, wpAny_load hd; exact ⟨_, rfl, h⟩

theorem rc_ne_dict_none {d : Addr} (hd : IsD s.heap d) (hu : A.units < cLine) : EqN prog w A .NotEq s (.ref d) Value.none true := fun E Q h => by
  obtain ⟨es, ep, ho⟩ := hd
  exact rc_ne_decline_or (k := false) ⟨_, ho, rfl⟩ rfl (by decide) F.sub_NoneType_dict F.slot_dict_ne F.slot_NoneType_ne_refl
    (fun _ hq => dict_ne_dec_none ⟨_, _, ho⟩ hq)
    (fun _ hq => call_meets F.slot_NoneType_ne_refl rfl F.entry_NoneType_ne (F.args_NoneType_ne_2 _ _) (none_ne_decD d es ep) ⟨ho, hq⟩)
    (fun _ hq => wpAny_of_eq (rfl : isSame (.ref d) Value.none = pure false) hq) (.inr hu) h
theorem rc_ne_none_dict {d : Addr} (hd : IsD s.heap d) (hu : A.units < cLine) : EqN prog w A .NotEq s Value.none (.ref d) true := fun E Q h => by
  obtain ⟨es, ep, ho⟩ := hd
  exact rc_ne_decline_or (k := false) rfl ⟨_, ho, rfl⟩ (by decide) F.sub_dict_NoneType F.slot_NoneType_ne F.slot_dict_ne_refl
    (fun _ hq => call_meets F.slot_NoneType_ne rfl F.entry_NoneType_ne (F.args_NoneType_ne_2 _ _) (none_ne_decD d es ep) ⟨ho, hq⟩)
    (fun _ hq => dict_ne_dec_none ⟨_, _, ho⟩ hq)
    (fun _ hq => wpAny_of_eq (rfl : isSame Value.none (.ref d) = pure false) hq) (.inr hu) h

theorem dict_ne_dec_int {d : Addr} {i : Int} {t : Tok} {Q : Value → Shared → Prop} (hd : IsD s.heap d) (h : Q .notImplemented s) : wpAny (model prog w) A (call (.builtin "dict.__ne__") [.ref d, (Value.int i t)]) Q E s := by
  obtain ⟨es, ep, ho⟩ := hd
  refine wpAny_call_entry PySem.F.slot_dict_ne (T := "dict") ⟨_, ho, rfl⟩ PySem.F.entry_dict_ne ?_ (PySem.F.args_dict_ne_2 _ _)
  show wpAny _ _ (Builtin.Dict.dictSlotArgs "__ne__" ⟨[.ref d, (Value.int i t)], []⟩ >>= _) _ _ s
  refine wpAny_bind ?_
  unfold Builtin.Dict.dictSlotArgs
  refine wpAny_bind (wpAny_notOrdered_dict ⟨_, ho, rfl⟩ ?_)
  show wpAny _ _ (pure (Value.ref d, (Value.int i t))) _ _ s
  refine wpAny_pure ?_
  refine wpAny_bind (wpAny_isInstance (T := "int") (b := false) (typeIs_int s i t) PySem.F.sub_int_dict ?_)
  simp only [Bool.not_false, if_true]
  exact wpAny_bind (wpAny_rule (wpAny_pure ⟨_, rfl, h⟩))

theorem int_ne_decD (d : Addr) (es : Array DictEntry) (ep : Nat) (i : Int) (t : Tok) :
    Meets (Builtin.«int.__ne__» ⟨[(Value.int i t), .ref d], []⟩) (fun _ R s => s.heap.get? d = some { cls := .type "dict", dict := none, data := .dict es ep, slots := #[] } ∧ R (.ok (.ret .notImplemented)) s) :=
  .of_wp fun prog w A R s h => by obtain ⟨hp, g, d, tk, os⟩ := s; obtain ⟨hd, h⟩ := h; have f1 := F.sub_dict_int; wp_walk using wpAny_loadPart' hd, wpAny_load hd; exact ⟨_, rfl, h⟩

theorem rc_ne_dict_int {d : Addr} {i : Int} {t : Tok} (hd : IsD s.heap d) (hu : A.units < cLine) : EqN prog w A .NotEq s (.ref d) (Value.int i t) true := fun E Q h => by
  obtain ⟨es, ep, ho⟩ := hd
  exact rc_ne_decline_or (k := false) ⟨_, ho, rfl⟩ (typeIs_int s i t) (by decide) F.sub_int_dict F.slot_dict_ne F.slot_int_ne_refl
    (fun _ hq => dict_ne_dec_int ⟨_, _, ho⟩ hq)
    (fun _ hq => call_meets F.slot_int_ne_refl (typeIs_int s i t) F.entry_int_ne (F.args_int_ne_2 _ _) (int_ne_decD d es ep i t) ⟨ho, hq⟩)
    (fun _ hq => wpAny_of_eq (rfl : isSame (.ref d) (Value.int i t) = pure false) hq) (.inr hu) h
theorem rc_ne_int_dict {d : Addr} {i : Int} {t : Tok} (hd : IsD s.heap d) (hu : A.units < cLine) : EqN prog w A .NotEq s (Value.int i t) (.ref d) true := fun E Q h => by
  obtain ⟨es, ep, ho⟩ := hd
  exact rc_ne_decline_or (k := false) (typeIs_int s i t) ⟨_, ho, rfl⟩ (by decide) F.sub_dict_int F.slot_int_ne F.slot_dict_ne_refl
    (fun _ hq => call_meets F.slot_int_ne (typeIs_int s i t) F.entry_int_ne (F.args_int_ne_2 _ _) (int_ne_decD d es ep i t) ⟨ho, hq⟩)
    (fun _ hq => dict_ne_dec_int ⟨_, _, ho⟩ hq)
    (fun _ hq => wpAny_of_eq (rfl : isSame (Value.int i t) (.ref d) = pure false) hq) (.inr hu) h

theorem dict_ne_dec_str {d : Addr} {i : Str} {t : Tok} {Q : Value → Shared → Prop} (hd : IsD s.heap d) (h : Q .notImplemented s) : wpAny (model prog w) A (call (.builtin "dict.__ne__") [.ref d, (Value.str i t)]) Q E s := by
  obtain ⟨es, ep, ho⟩ := hd
  refine wpAny_call_entry PySem.F.slot_dict_ne (T := "dict") ⟨_, ho, rfl⟩ PySem.F.entry_dict_ne ?_ (PySem.F.args_dict_ne_2 _ _)
  show wpAny _ _ (Builtin.Dict.dictSlotArgs "__ne__" ⟨[.ref d, (Value.str i t)], []⟩ >>= _) _ _ s
  refine wpAny_bind ?_
  unfold Builtin.Dict.dictSlotArgs
  refine wpAny_bind (wpAny_notOrdered_dict ⟨_, ho, rfl⟩ ?_)
  show wpAny _ _ (pure (Value.ref d, (Value.str i t))) _ _ s
  refine wpAny_pure ?_
  refine wpAny_bind (wpAny_isInstance (T := "str") (b := false) (typeIs_str s i t) PySem.F.sub_str_dict ?_)
  simp only [Bool.not_false, if_true]
  exact wpAny_bind (wpAny_rule (wpAny_pure ⟨_, rfl, h⟩))

theorem str_ne_decD (d : Addr) (es : Array DictEntry) (ep : Nat) (i : Str) (t : Tok) :
    Meets (Builtin.«str.__ne__» ⟨[(Value.str i t), .ref d], []⟩) (fun _ R s => s.heap.get? d = some { cls := .type "dict", dict := none, data := .dict es ep, slots := #[] } ∧ R (.ok (.ret .notImplemented)) s) :=
  .of_wp fun prog w A R s h => by obtain ⟨hp, g, d, tk, os⟩ := s; obtain ⟨hd, h⟩ := h; have f1 := F.sub_dict_str; wp_walk using wpAny_loadPart' hd, wpAny_load hd; exact ⟨_, rfl, h⟩

theorem rc_ne_dict_str {d : Addr} {i : Str} {t : Tok} (hd : IsD s.heap d) (hu : A.units < cLine) : EqN prog w A .NotEq s (.ref d) (Value.str i t) true := fun E Q h => by
  obtain ⟨es, ep, ho⟩ := hd
  exact rc_ne_decline_or (k := false) ⟨_, ho, rfl⟩ (typeIs_str s i t) (by decide) F.sub_str_dict F.slot_dict_ne F.slot_str_ne_refl
    (fun _ hq => dict_ne_dec_str ⟨_, _, ho⟩ hq)
    (fun _ hq => call_meets F.slot_str_ne_refl (typeIs_str s i t) F.entry_str_ne (F.args_str_ne_2 _ _) (str_ne_decD d es ep i t) ⟨ho, hq⟩)
    (fun _ hq => wpAny_of_eq (rfl : isSame (.ref d) (Value.str i t) = pure false) hq) (.inr hu) h
theorem rc_ne_str_dict {d : Addr} {i : Str} {t : Tok} (hd : IsD s.heap d) (hu : A.units < cLine) : EqN prog w A .NotEq s (Value.str i t) (.ref d) true := fun E Q h => by
  obtain ⟨es, ep, ho⟩ := hd
  exact rc_ne_decline_or (k := false) (typeIs_str s i t) ⟨_, ho, rfl⟩ (by decide) F.sub_dict_str F.slot_str_ne F.slot_dict_ne_refl
    (fun _ hq => call_meets F.slot_str_ne (typeIs_str s i t) F.entry_str_ne (F.args_str_ne_2 _ _) (str_ne_decD d es ep i t) ⟨ho, hq⟩)
    (fun _ hq => dict_ne_dec_str ⟨_, _, ho⟩ hq)
    (fun _ hq => wpAny_of_eq (rfl : isSame (Value.str i t) (.ref d) = pure false) hq) (.inr hu) h

theorem dict_ne_dec_list {d : Addr} {l : Addr} {it : Array Value} {n : Nat} {dd : Option Addr} {sl : Array (Option Value)} {Q : Value → Shared → Prop} (hd : IsD s.heap d) (hl : s.heap.get? l = some { cls := .type "list", dict := dd, data := .seq it n, slots := sl }) (h : Q .notImplemented s) : wpAny (model prog w) A (call (.builtin "dict.__ne__") [.ref d, (Value.ref l)]) Q E s := by
  obtain ⟨es, ep, ho⟩ := hd
  refine wpAny_call_entry PySem.F.slot_dict_ne (T := "dict") ⟨_, ho, rfl⟩ PySem.F.entry_dict_ne ?_ (PySem.F.args_dict_ne_2 _ _)
  show wpAny _ _ (Builtin.Dict.dictSlotArgs "__ne__" ⟨[.ref d, (Value.ref l)], []⟩ >>= _) _ _ s
  refine wpAny_bind ?_
  unfold Builtin.Dict.dictSlotArgs
  refine wpAny_bind (wpAny_notOrdered_dict ⟨_, ho, rfl⟩ ?_)
  show wpAny _ _ (pure (Value.ref d, (Value.ref l))) _ _ s
  refine wpAny_pure ?_
  refine wpAny_bind (wpAny_isInstance (T := "list") (b := false) ⟨_, hl, rfl⟩ PySem.F.sub_list_dict ?_)
  simp only [Bool.not_false, if_true]
  exact wpAny_bind (wpAny_rule (wpAny_pure ⟨_, rfl, h⟩))

theorem list_ne_decD (d : Addr) (es : Array DictEntry) (ep : Nat) (l : Addr) (it : Array Value) (n : Nat) (dd : Option Addr) (sl : Array (Option Value)) :
    Meets (Builtin.«list.__ne__» ⟨[(Value.ref l), .ref d], []⟩) (fun _ R s => s.heap.get? d = some { cls := .type "dict", dict := none, data := .dict es ep, slots := #[] } ∧ s.heap.get? l = some { cls := .type "list", dict := dd, data := .seq it n, slots := sl } ∧ R (.ok (.ret .notImplemented)) s) :=
  .of_wp fun prog w A R s h => by obtain ⟨hp, g, d, tk, os⟩ := s; obtain ⟨hd, hl, h⟩ := h; have f1 := F.sub_dict_list; wp_walk using wpAny_loadPart' hd, wpAny_load hd, wpAny_loadPart' hl, wpAny_load hl; exact ⟨_, rfl, h⟩

theorem rc_ne_dict_list {d : Addr} {l : Addr} {it : Array Value} {n : Nat} {dd : Option Addr} {sl : Array (Option Value)} (hd : IsD s.heap d) (hl : s.heap.get? l = some { cls := .type "list", dict := dd, data := .seq it n, slots := sl }) (hu : A.units < cLine) : EqN prog w A .NotEq s (.ref d) (Value.ref l) true := fun E Q h => by
  obtain ⟨es, ep, ho⟩ := hd
  have hne : d ≠ l := fun e => by subst e; rw [ho] at hl; simp at hl
  exact rc_ne_decline_or (k := false) ⟨_, ho, rfl⟩ ⟨_, hl, rfl⟩ (by decide) F.sub_list_dict F.slot_dict_ne F.slot_list_ne_refl
    (fun _ hq => dict_ne_dec_list ⟨_, _, ho⟩ hl hq)
    (fun _ hq => call_meets F.slot_list_ne_refl ⟨_, hl, rfl⟩ F.entry_list_ne (F.args_list_ne_2 _ _) (list_ne_decD d es ep l it n dd sl) ⟨ho, hl, hq⟩)
    (fun _ hq => wpAny_isSame_ref_other' hne ho hl (by simp) hq) (.inr hu) h
theorem rc_ne_list_dict {d : Addr} {l : Addr} {it : Array Value} {n : Nat} {dd : Option Addr} {sl : Array (Option Value)} (hd : IsD s.heap d) (hl : s.heap.get? l = some { cls := .type "list", dict := dd, data := .seq it n, slots := sl }) (hu : A.units < cLine) : EqN prog w A .NotEq s (Value.ref l) (.ref d) true := fun E Q h => by
  obtain ⟨es, ep, ho⟩ := hd
  have hne : d ≠ l := fun e => by subst e; rw [ho] at hl; simp at hl
  exact rc_ne_decline_or (k := false) ⟨_, hl, rfl⟩ ⟨_, ho, rfl⟩ (by decide) F.sub_dict_list F.slot_list_ne F.slot_dict_ne_refl
    (fun _ hq => call_meets F.slot_list_ne ⟨_, hl, rfl⟩ F.entry_list_ne (F.args_list_ne_2 _ _) (list_ne_decD d es ep l it n dd sl) ⟨ho, hl, hq⟩)
    (fun _ hq => dict_ne_dec_list ⟨_, _, ho⟩ hl hq)
    (fun _ hq => wpAny_isSame_ref_other' hne.symm hl ho (by simp) hq) (.inr hu) h

theorem dict_ne_dec_tuple {d : Addr} {l : Addr} {it : Array Value} {n : Nat} {dd : Option Addr} {sl : Array (Option Value)} {Q : Value → Shared → Prop} (hd : IsD s.heap d) (hl : s.heap.get? l = some { cls := .type "tuple", dict := dd, data := .seq it n, slots := sl }) (h : Q .notImplemented s) : wpAny (model prog w) A (call (.builtin "dict.__ne__") [.ref d, (Value.ref l)]) Q E s := by
  obtain ⟨es, ep, ho⟩ := hd
  refine wpAny_call_entry PySem.F.slot_dict_ne (T := "dict") ⟨_, ho, rfl⟩ PySem.F.entry_dict_ne ?_ (PySem.F.args_dict_ne_2 _ _)
  show wpAny _ _ (Builtin.Dict.dictSlotArgs "__ne__" ⟨[.ref d, (Value.ref l)], []⟩ >>= _) _ _ s
  refine wpAny_bind ?_
  unfold Builtin.Dict.dictSlotArgs
  refine wpAny_bind (wpAny_notOrdered_dict ⟨_, ho, rfl⟩ ?_)
  show wpAny _ _ (pure (Value.ref d, (Value.ref l))) _ _ s
  refine wpAny_pure ?_
  refine wpAny_bind (wpAny_isInstance (T := "tuple") (b := false) ⟨_, hl, rfl⟩ PySem.F.sub_tuple_dict ?_)
  simp only [Bool.not_false, if_true]
  exact wpAny_bind (wpAny_rule (wpAny_pure ⟨_, rfl, h⟩))

theorem tuple_ne_decD (d : Addr) (es : Array DictEntry) (ep : Nat) (l : Addr) (it : Array Value) (n : Nat) (dd : Option Addr) (sl : Array (Option Value)) :
    Meets (Builtin.«tuple.__ne__» ⟨[(Value.ref l), .ref d], []⟩) (fun _ R s => s.heap.get? d = some { cls := .type "dict", dict := none, data := .dict es ep, slots := #[] } ∧ s.heap.get? l = some { cls := .type "tuple", dict := dd, data := .seq it n, slots := sl } ∧ R (.ok (.ret .notImplemented)) s) :=
  .of_wp fun prog w A R s h => by obtain ⟨hp, g, d, tk, os⟩ := s; obtain ⟨hd, hl, h⟩ := h; have f1 := F.sub_dict_tuple; wp_walk using wpAny_loadPart' hd, wpAny_load hd, wpAny_loadPart' hl, wpAny_load hl; exact ⟨_, rfl, h⟩

theorem rc_ne_dict_tuple {d : Addr} {l : Addr} {it : Array Value} {n : Nat} {dd : Option Addr} {sl : Array (Option Value)} (hd : IsD s.heap d) (hl : s.heap.get? l = some { cls := .type "tuple", dict := dd, data := .seq it n, slots := sl }) (hu : A.units < cLine) : EqN prog w A .NotEq s (.ref d) (Value.ref l) true := fun E Q h => by
  obtain ⟨es, ep, ho⟩ := hd
  have hne : d ≠ l := fun e => by subst e; rw [ho] at hl; simp at hl
  exact rc_ne_decline_or (k := false) ⟨_, ho, rfl⟩ ⟨_, hl, rfl⟩ (by decide) F.sub_tuple_dict F.slot_dict_ne F.slot_tuple_ne_refl
    (fun _ hq => dict_ne_dec_tuple ⟨_, _, ho⟩ hl hq)
    (fun _ hq => call_meets F.slot_tuple_ne_refl ⟨_, hl, rfl⟩ F.entry_tuple_ne (F.args_tuple_ne_2 _ _) (tuple_ne_decD d es ep l it n dd sl) ⟨ho, hl, hq⟩)
    (fun _ hq => wpAny_isSame_ref_other hne ho hl (by simp) hq) (.inr hu) h
theorem rc_ne_tuple_dict {d : Addr} {l : Addr} {it : Array Value} {n : Nat} {dd : Option Addr} {sl : Array (Option Value)} (hd : IsD s.heap d) (hl : s.heap.get? l = some { cls := .type "tuple", dict := dd, data := .seq it n, slots := sl }) (hu : A.units < cLine) : EqN prog w A .NotEq s (Value.ref l) (.ref d) true := fun E Q h => by
  obtain ⟨es, ep, ho⟩ := hd
  have hne : d ≠ l := fun e => by subst e; rw [ho] at hl; simp at hl
  exact rc_ne_decline_or (k := false) ⟨_, hl, rfl⟩ ⟨_, ho, rfl⟩ (by decide) F.sub_dict_tuple F.slot_tuple_ne F.slot_dict_ne_refl
    (fun _ hq => call_meets F.slot_tuple_ne ⟨_, hl, rfl⟩ F.entry_tuple_ne (F.args_tuple_ne_2 _ _) (tuple_ne_decD d es ep l it n dd sl) ⟨ho, hl, hq⟩)
    (fun _ hq => dict_ne_dec_tuple ⟨_, _, ho⟩ hl hq)
    (fun _ hq => wpAny_isSame_ref_other' hne.symm hl ho (by simp) hq) (.inr hu) h

end
end HG

/-! nine values of all kinds: ==, !=, repr of lists of them. -/
namespace HG
open PySem L2 PyProof.Rows
open PySem.SeqAt (EqIn EqAt RcAt RcNeAt)
inductive W9 | non | zero | five | emp | aa | tup | lst | dic | big deriving DecidableEq
structure Thr where
  t : Addr
  l : Addr
  d : Addr
def W9.v (w : Thr) : W9 → V
  | .non => .non | .zero => .int 0 | .five => .int 5 | .emp => .str "" | .aa => .str "a" | .tup => .ref w.t | .lst => .ref w.l | .dic => .ref w.d | .big => .int (-(10 ^ 40))
def W9.p : W9 → PyData
  | .non => .none | .zero => .int 0 | .five => .int 5 | .emp => .str "" | .aa => .str "a" | .tup => .tuple [.int 1, .str "x"] | .lst => .list [.int 2] | .dic => .dict [(.str "k", .none)] | .big => .int (-(10 ^ 40))
structure Sts (H : Hp) (w : Thr) : Prop where
  ht : H w.t = some (.tup [.int 1, .str "x"])
  hl : H w.l = some (.lst [.int 2])
  hd : H w.d = some (.dK [(.inr "k", .non)])
theorem Sts.grow {H H' : Hp} {w : Thr} (S : Sts H w) (g : Grow H H') : Sts H' w := ⟨g _ _ S.ht, g _ _ S.hl, g _ _ S.hd⟩
theorem w9_eqv : ∀ i j : W9, i ≠ .dic → j ≠ .dic → PyData.eqv i.p j.p = decide (i = j) := by
  intro i j hi hj
  cases i <;> cases j <;> first | exact absurd rfl hi | exact absurd rfl hj | decide
theorem w9_plain : ∀ i : W9, i ≠ .dic → i.p.plain = true := by
  intro i hi
  cases i <;> first | exact absurd rfl hi | rfl
theorem w9_depth : ∀ i : W9, i.p.depth ≤ 2 := by
  intro i
  cases i <;> decide
theorem W9.ty {i : W9} {H : Hp} {w : Thr} (S : Sts H w) : ∃ n, n ∈ ["NoneType", "int", "str", "tuple", "list", "dict"] ∧ tyF H (i.v w) = some (.type n) := by
  cases i
  case non => exact ⟨"NoneType", by decide, rfl⟩
  case zero => exact ⟨"int", by decide, rfl⟩
  case five => exact ⟨"int", by decide, rfl⟩
  case big => exact ⟨"int", by decide, rfl⟩
  case emp => exact ⟨"str", by decide, rfl⟩
  case aa => exact ⟨"str", by decide, rfl⟩
  case tup => exact ⟨"tuple", by decide, by simp only [W9.v, tyF, S.ht]⟩
  case lst => exact ⟨"list", by decide, by simp only [W9.v, tyF, S.hl]⟩
  case dic => exact ⟨"dict", by decide, by simp only [W9.v, tyF, S.hd]⟩
section
variable {X : Cx} {pins : List (Addr × Obj)} {σ : L2.St} {H : Hp} {s : Shared} {w : Thr}
theorem w9_dp {i : W9} (S : Sts H w) (hi : i ≠ .dic) : Dp X.K H (i.v w) i.p := by
  cases i
  case dic => exact absurd rfl hi
  case non => exact .non
  case zero => exact .int 0
  case five => exact .int 5
  case big => exact .int _
  case emp => exact .str _
  case aa => exact .str _
  case tup => exact .tup (SqT.of S.ht) (.cons (.int 1) (.cons (.str "x") .nil))
  case lst => exact .lst (SqL.of S.hl) (.cons (.int 2) .nil)
theorem w9_isD (I : Inv X pins σ H s) (S : Sts H w) : IsD s.heap w.d := by
  obtain ⟨z, hs, vs, rel, o, es, ep, h1, ⟨h2, h3, h4⟩, h5, h6⟩ := dk_of I.hok S.hd
  obtain ⟨c, dd, dt, sl⟩ := o
  simp only at h2 h3 h4 h5
  subst h2 h3 h4 h5
  exact ⟨es, ep, h1⟩
theorem w9_hits (I : Inv X pins σ H s) (S : Sts H w) (A : Around) : ∃ vs, s.heap.DictOf (mixKind X.prog X.w) w.d vs ∧ PySem.W.KeqHitsIn X.prog X.w A s vs vs true ∧ (w.d == sysModules) = false := by
  obtain ⟨z, hs, vs, rel, dd⟩ := dk_of I.hok S.hd
  refine ⟨vs, dd, ?_, hs⟩
  have rel' : KV [(.inr "k", .non)] vs := rel
  unfold KV at rel'
  cases rel' with
  | cons h t =>
    rename_i q qs
    cases t
    obtain ⟨h1, h2⟩ := h
    obtain ⟨k, v⟩ := q
    have h1' : (Sum.inr (Str.ofString "k") : Key) = k := h1
    have h2' : v = Value.none := h2
    subst h1' h2'
    show PySem.W.KeqHitsIn X.prog X.w A s _ ((_, Value.none) :: []) (true && true)
    exact .hit (y := Value.none) (by simp [valueAt]) ((EqAt.same _).inModel _ _) .nil
/-- x op y, two of the nine, at any depth -/
theorem w9_rc (I : Inv X pins σ H s) (S : Sts H w) {A : Around} (hu : A.units + 8 < cLine) (i j : W9) {v u : Value} (rx : RelV (i.v w) v) (ry : RelV (j.v w) u) :
    EqN X.prog X.w A .Eq s v u (decide (i = j)) ∧ EqN X.prog X.w A .NotEq s v u (!decide (i = j)) := by
  have hu0 : A.units < cLine := by omega
  by_cases hi : i = .dic
  · by_cases hj : j = .dic
    · subst hi hj
      cases (show v = Value.ref w.d from rx)
      cases (show u = Value.ref w.d from ry)
      obtain ⟨vs, dd, hh, hs⟩ := w9_hits I S A.in1
      rw [decide_eq_true rfl]
      refine ⟨fun E Q q => PySem.W.keq_eqIn hs hs dd dd hu0 (fun _ => hh) (by simpa using q), fun E Q q => ?_⟩
      refine wpAny_richCompare_same_room (op := .NotEq) dd.typeIs dd.typeIs PySem.F.slot_dict_ne (wpAny_call_entry PySem.F.slot_dict_ne dd.typeIs PySem.F.entry_dict_ne ?_ (PySem.F.args_dict_ne_2 _ _)) hu0
      show wpAny _ _ (Builtin.Dict.dictSlotArgs "__ne__" ⟨[.ref w.d, .ref w.d], []⟩ >>= _) _ _ s
      refine wpAny_bind ?_
      unfold Builtin.Dict.dictSlotArgs
      refine wpAny_bind (wpAny_notOrdered_dict dd.typeIs ?_)
      show wpAny _ _ (pure (Value.ref w.d, Value.ref w.d)) _ _ s
      refine wpAny_pure ?_
      refine wpAny_bind (wpAny_isInstance (T := "dict") dd.typeIs PySem.F.sub_dict_dict ?_)
      simp only [Bool.not_true, Bool.false_eq_true, if_false]
      refine wpAny_bind (wpAny_pure (wpAny_bind (wpAny_pure ?_)))
      refine wpAny_bind (PySem.W.keq_samePairsIn hs hs dd dd (fun _ => hh) ?_)
      refine wpAny_pure ⟨_, rfl, ?_, ?_⟩
      · exact fun x => nomatch x
      · simpa using q
    · subst hi
      cases (show v = Value.ref w.d from rx)
      have D := w9_isD I S
      rw [decide_eq_false (Ne.symm hj)]
      cases j
      case dic => exact absurd rfl hj
      case non => cases (show u = Value.none from ry); exact ⟨rc_eq_dict_none D hu0, rc_ne_dict_none D hu0⟩
      case zero => obtain ⟨t, rfl⟩ := (show ∃ t, u = Value.int 0 t from ry); exact ⟨rc_eq_dict_int D hu0, rc_ne_dict_int D hu0⟩
      case five => obtain ⟨t, rfl⟩ := (show ∃ t, u = Value.int 5 t from ry); exact ⟨rc_eq_dict_int D hu0, rc_ne_dict_int D hu0⟩
      case big => obtain ⟨t, rfl⟩ := (show ∃ t, u = Value.int _ t from ry); exact ⟨rc_eq_dict_int D hu0, rc_ne_dict_int D hu0⟩
      case emp => obtain ⟨t, rfl⟩ := (show ∃ t, u = Value.str _ t from ry); exact ⟨rc_eq_dict_str D hu0, rc_ne_dict_str D hu0⟩
      case aa => obtain ⟨t, rfl⟩ := (show ∃ t, u = Value.str _ t from ry); exact ⟨rc_eq_dict_str D hu0, rc_ne_dict_str D hu0⟩
      case tup =>
        cases (show u = Value.ref w.t from ry)
        obtain ⟨_, us, r1, o1, g1, c1, n1, d1⟩ := (show ObjOk X.prog X.w H s.heap w.t (.tup [.int 1, .str "x"]) from I.hok _ _ S.ht)
        obtain ⟨c, dd, dt, sl⟩ := o1
        simp only at c1 d1
        subst c1 d1
        exact ⟨rc_eq_dict_tuple D g1 hu0, rc_ne_dict_tuple D g1 hu0⟩
      case lst =>
        cases (show u = Value.ref w.l from ry)
        obtain ⟨_, its, n, r1, g1⟩ := (show ObjOk X.prog X.w H s.heap w.l (.lst [.int 2]) from I.hok _ _ S.hl)
        exact ⟨rc_eq_dict_list D g1 hu0, rc_ne_dict_list D g1 hu0⟩
  · by_cases hj : j = .dic
    · subst hj
      cases (show u = Value.ref w.d from ry)
      have D := w9_isD I S
      rw [decide_eq_false hi]
      cases i
      case dic => exact absurd rfl hi
      case non => cases (show v = Value.none from rx); exact ⟨rc_eq_none_dict D hu0, rc_ne_none_dict D hu0⟩
      case zero => obtain ⟨t, rfl⟩ := (show ∃ t, v = Value.int 0 t from rx); exact ⟨rc_eq_int_dict D hu0, rc_ne_int_dict D hu0⟩
      case five => obtain ⟨t, rfl⟩ := (show ∃ t, v = Value.int 5 t from rx); exact ⟨rc_eq_int_dict D hu0, rc_ne_int_dict D hu0⟩
      case big => obtain ⟨t, rfl⟩ := (show ∃ t, v = Value.int _ t from rx); exact ⟨rc_eq_int_dict D hu0, rc_ne_int_dict D hu0⟩
      case emp => obtain ⟨t, rfl⟩ := (show ∃ t, v = Value.str _ t from rx); exact ⟨rc_eq_str_dict D hu0, rc_ne_str_dict D hu0⟩
      case aa => obtain ⟨t, rfl⟩ := (show ∃ t, v = Value.str _ t from rx); exact ⟨rc_eq_str_dict D hu0, rc_ne_str_dict D hu0⟩
      case tup =>
        cases (show v = Value.ref w.t from rx)
        obtain ⟨_, us, r1, o1, g1, c1, n1, d1⟩ := (show ObjOk X.prog X.w H s.heap w.t (.tup [.int 1, .str "x"]) from I.hok _ _ S.ht)
        obtain ⟨c, dd, dt, sl⟩ := o1
        simp only at c1 d1
        subst c1 d1
        exact ⟨rc_eq_tuple_dict D g1 hu0, rc_ne_tuple_dict D g1 hu0⟩
      case lst =>
        cases (show v = Value.ref w.l from rx)
        obtain ⟨_, its, n, r1, g1⟩ := (show ObjOk X.prog X.w H s.heap w.l (.lst [.int 2]) from I.hok _ _ S.hl)
        exact ⟨rc_eq_list_dict D g1 hu0, rc_ne_list_dict D g1 hu0⟩
    · obtain ⟨as, ra⟩ := Dp.reads I i.p (i.v w) v (w9_dp (X := X) S hi) rx
      obtain ⟨bs, rb⟩ := Dp.reads I j.p (j.v w) u (w9_dp (X := X) S hj) ry
      have hd : A.units + min i.p.depth j.p.depth < cLine := by have := w9_depth i; omega
      have e1 := SeqAt.rcAt_plain ra rb (w9_plain i hi) (w9_plain j hj) hd
      have e2 := SeqAt.rcNe_plain ra rb (w9_plain i hi) (w9_plain j hj) hd
      rw [w9_eqv i j hi hj] at e1 e2
      exact ⟨fun E Q q => e1 X.prog X.w E Q q, fun E Q q => e2 X.prog X.w E Q q⟩
theorem eqIn_L {P : Program} {wd : World} {A : Around} {s : Shared} {d : Addr} {u : Value} {k : Bool} (hn : Value.ref d ≠ u) (q : EqN P wd A .Eq s (.ref d) u k) : EqIn P wd A s (.ref d) u k := by
  intro E Q hq
  unfold eqBool
  refine wpAny_holding ?_
  refine wpAny_ite_split (fun hab => absurd (eq_of_beq hab) hn) (fun _ => ?_)
  exact wpAny_bind (q E _ (wpAny_truthy_bool hq))
theorem eqIn_R {P : Program} {wd : World} {A : Around} {s : Shared} {d : Addr} {v : Value} {k : Bool} (hf : ∀ b t, v ≠ .float b t) (hn : v ≠ Value.ref d) (q : EqN P wd A .Eq s v (.ref d) k) : EqIn P wd A s v (.ref d) k := by
  intro E Q hq
  unfold eqBool
  refine wpAny_holding ?_
  refine wpAny_ite_split (fun hab => absurd (eq_of_beq hab) hn) (fun _ => ?_)
  cases v <;> first | exact absurd rfl (hf _ _) | exact wpAny_bind (q E _ (wpAny_truthy_bool hq))
theorem w9_val {i : W9} {v : Value} (rx : RelV (i.v w) v) : ∀ b t, v ≠ .float b t := by
  intro b t e
  subst e
  cases i <;> first | (obtain ⟨_, e⟩ := rx; cases e) | cases rx
theorem w9_ne (S : Sts H w) {i : W9} (hi : i ≠ .dic) {v : Value} (rx : RelV (i.v w) v) : v ≠ .ref w.d := by
  intro e
  subst e
  cases i
  case dic => exact hi rfl
  case tup =>
    have e : Value.ref w.d = Value.ref w.t := rx
    have e2 : w.d = w.t := by injection e
    have := S.hd
    rw [e2, S.ht] at this
    cases this
  case lst =>
    have e : Value.ref w.d = Value.ref w.l := rx
    have e2 : w.d = w.l := by injection e
    have := S.hd
    rw [e2, S.hl] at this
    cases this
  all_goals first | (obtain ⟨_, e⟩ := rx; cases e) | cases rx
theorem w9_eqIn (I : Inv X pins σ H s) (S : Sts H w) {A : Around} (hu : A.units + 8 < cLine) (i j : W9) {v u : Value} (rx : RelV (i.v w) v) (ry : RelV (j.v w) u) : EqIn X.prog X.w A s v u (decide (i = j)) := by
  have q := (w9_rc I S hu i j rx ry).1
  by_cases hi : i = .dic
  · by_cases hj : j = .dic
    · subst hi hj
      cases (show v = Value.ref w.d from rx)
      cases (show u = Value.ref w.d from ry)
      rw [decide_eq_true rfl]
      exact (EqAt.same _).inModel _ _
    · subst hi
      cases (show v = Value.ref w.d from rx)
      exact eqIn_L (Ne.symm (w9_ne S hj ry)) q
  · by_cases hj : j = .dic
    · subst hj
      cases (show u = Value.ref w.d from ry)
      exact eqIn_R (w9_val rx) (w9_ne S hi rx) q
    · obtain ⟨as, ra⟩ := Dp.reads I i.p (i.v w) v (w9_dp (X := X) S hi) rx
      obtain ⟨bs, rb⟩ := Dp.reads I j.p (j.v w) u (w9_dp (X := X) S hj) ry
      have e1 := SeqAt.eqAt_plain _ _ A s _ _ _ _ ra rb (w9_plain i hi) (w9_plain j hj) (by have := w9_depth i; omega)
      rw [w9_eqv i j hi hj] at e1
      exact e1.inModel _ _
/-- tuples of the nine -/
theorem w9_tups (I : Inv X pins σ H s) (S : Sts H w) {A : Around} (hu : A.units + 16 < cLine) {is js : List W9} (hl : is.length = js.length) {a c : Addr} (ha : H a = some (.tup (is.map (W9.v w)))) (hc : H c = some (.tup (js.map (W9.v w)))) :
    EqN X.prog X.w A .Eq s (.ref a) (.ref c) (decide (is = js)) := by
  intro E Q q
  obtain ⟨_, us, r1, o1, g1, c1, n1, d1⟩ := (show ObjOk X.prog X.w H s.heap a (.tup _) from I.hok a _ ha)
  obtain ⟨_, ws, r2, o2, g2, c2, n2, d2⟩ := (show ObjOk X.prog X.w H s.heap c (.tup _) from I.hok c _ hc)
  have l1 := r1.length
  have l2 := r2.length
  rw [List.length_map] at l1 l2
  refine SeqAt.rcIn_tuples (e := fun n => decide (is[n]? = js[n]?)) ⟨o1, g1, c1, n1, d1⟩ ⟨o2, g2, c2, n2, d2⟩ (by omega) (fun n h1 h2 => ?_) ?_
  · have h1' : n < us.length := by simpa using h1
    have h2' : n < ws.length := by simpa using h2
    have g1 : (is.map (W9.v w))[n]? = some ((is[n]'(by omega)).v w) := by rw [List.getElem?_map, List.getElem?_eq_getElem (by omega)]; rfl
    have g2 : (js.map (W9.v w))[n]? = some ((js[n]'(by omega)).v w) := by rw [List.getElem?_map, List.getElem?_eq_getElem (by omega)]; rfl
    obtain ⟨u1, k1, t1⟩ := r1.get g1
    obtain ⟨u2, k2, t2⟩ := r2.get g2
    rw [List.getElem?_eq_getElem h1'] at k1
    rw [List.getElem?_eq_getElem h2'] at k2
    have e1 := Option.some.inj k1
    have e2 := Option.some.inj k2
    have z := w9_eqIn I S (A := A.in1) (by show A.units + 1 + 8 < cLine; omega) _ _ t1 t2
    rw [← e1, ← e2] at z
    have hn1 : n < is.length := by omega
    have hn2 : n < js.length := by omega
    rw [List.getElem?_eq_getElem hn1, List.getElem?_eq_getElem hn2]
    simpa using z
  · rw [List.size_toArray, List.size_toArray, ← l1, ← l2, hl]
    have : ((List.range (min js.length js.length)).all fun n => decide (is[n]? = js[n]?)) = decide (is = js) := by
      rw [Nat.min_self]
      by_cases e : is = js
      · subst e; simp
      · rw [decide_eq_false e]
        refine Bool.eq_false_iff.mpr fun hh => e ?_
        rw [List.all_eq_true] at hh
        refine List.ext_getElem? fun n => ?_
        by_cases hn : n < js.length
        · exact of_decide_eq_true (hh n (List.mem_range.mpr hn))
        · rw [List.getElem?_eq_none (by omega), List.getElem?_eq_none (by omega)]
    rw [this]
    simpa using q
end
section
variable {X : Cx}
/-- x == y, x != y: two of the nine -/
def rEq9 : R2 := fun x y H Q => ∃ w i j, Sts H w ∧ x = W9.v w i ∧ y = W9.v w j ∧ Q (.bl (decide (i = j))) H
def rNe9 : R2 := fun x y H Q => ∃ w i j, Sts H w ∧ x = W9.v w i ∧ y = W9.v w j ∧ Q (.bl (!decide (i = j))) H
theorem op_eq9 (hu : X.A.units + 64 < cLine) : OpR X (compareOp .Eq) rEq9 := by
  intro pins s σ H x y v u Q I rx ry h
  obtain ⟨w, i, j, S, rfl, rfl, q⟩ := h
  exact (w9_rc I S (by omega) i j rx ry).1 _ _ ⟨.bl _, H, I, rfl, q⟩
theorem op_ne9 (hu : X.A.units + 64 < cLine) : OpR X (compareOp .NotEq) rNe9 := by
  intro pins s σ H x y v u Q I rx ry h
  obtain ⟨w, i, j, S, rfl, rfl, q⟩ := h
  exact (w9_rc I S (by omega) i j rx ry).2 _ _ ⟨.bl _, H, I, rfl, q⟩
def rEqT9 : R2 := fun x y H Q => ∃ w is js a c, Sts H w ∧ x = .ref a ∧ y = .ref c ∧ List.length is = List.length js ∧ H a = some (.tup (is.map (W9.v w))) ∧ H c = some (.tup (js.map (W9.v w))) ∧ Q (.bl (decide (is = js))) H
theorem op_eqT9 (hu : X.A.units + 64 < cLine) : OpR X (compareOp .Eq) rEqT9 := by
  intro pins s σ H x y v u Q I rx ry h
  obtain ⟨w, is, js, a, c, S, rfl, rfl, hl, ha, hc, q⟩ := h
  cases (show v = Value.ref a from rx)
  cases (show u = Value.ref c from ry)
  exact w9_tups I S (by omega) hl ha hc _ _ ⟨.bl _, H, I, rfl, q⟩
end
end HG

/-! repr of lists of the nine; new lists that are not sys.modules; bool(x) by an own __bool__; lists of tuples of the same things. -/
namespace HG
open PySem L2 PyProof.Rows
open PySem.SeqAt (EqIn EqAt RcAt RcNeAt)
/-- [..], knowing that it is no list of before -/
def tLstN (t : TA) : TE := fun σ H Q => t σ H fun xs H1 => xs.length ≤ sizeLine ∧ ∀ p, H1 p = none → p ≠ sysModules → Q (.ref p) (upd H1 p (.lst xs))
section
variable {X : Cx} {es : List Expr} {t : TA} {pos : Pos}
theorem pe_lstN (h : PA X es t) : PE X (.List es pos) (tLstN t) := by
  refine ⟨fun pins s σ H Q I hq => ?_⟩
  refine wpAny_List_spliced (thn (h.run pos pins s σ H _ I hq) fun us s1 ⟨xs, H1, I1, r, z, q⟩ => ⟨by rw [← r.length]; exact z, ?_⟩)
  have hf : H1 s1.heap.objs.size = none := I1.hok.fresh (Nat.le_refl _)
  refine ⟨.ref s1.heap.objs.size, upd H1 s1.heap.objs.size (.lst xs), I1.laid (t' := s1.toks) (fun b u e => Heap.get?_push_of_some _ e) (Nat.le_refl _) ?_, rfl, q _ hf (Nat.ne_of_gt I1.big)⟩
  exact ⟨z, us, 0, r, Heap.get?_push_size _ rfl⟩
end
section
variable {X : Cx} {pins : List (Addr × Obj)} {σ : L2.St} {H : Hp} {s : Shared} {w : Thr}
theorem w9_reads (I : Inv X pins σ H s) (S : Sts H w) (hn : w.l ≠ sysModules) (i : W9) {u : Value} (rx : RelV (i.v w) u) : ∃ as, Reads s.heap u i.p as ∧ sysModules ∉ as := by
  cases i
  case non => cases (show u = Value.none from rx); exact ⟨[], .none, by simp⟩
  case zero => obtain ⟨t, rfl⟩ := (show ∃ t, u = Value.int 0 t from rx); exact ⟨[], .int _ _, by simp⟩
  case five => obtain ⟨t, rfl⟩ := (show ∃ t, u = Value.int 5 t from rx); exact ⟨[], .int _ _, by simp⟩
  case big => obtain ⟨t, rfl⟩ := (show ∃ t, u = Value.int _ t from rx); exact ⟨[], .int _ _, by simp⟩
  case emp => obtain ⟨t, rfl⟩ := (show ∃ t, u = Value.str _ t from rx); exact ⟨[], .str _ _, by simp⟩
  case aa => obtain ⟨t, rfl⟩ := (show ∃ t, u = Value.str _ t from rx); exact ⟨[], .str _ _, by simp⟩
  case tup =>
    cases (show u = Value.ref w.t from rx)
    obtain ⟨_, us, r1, o1, g1, c1, n1, d1⟩ := (show ObjOk X.prog X.w H s.heap w.t (.tup [.int 1, .str "x"]) from I.hok _ _ S.ht)
    obtain ⟨a, b, rfl, ra, rb⟩ := vals2 r1
    obtain ⟨t1, rfl⟩ := ra
    obtain ⟨t2, rfl⟩ := rb
    exact ⟨_, .tuple g1 c1 d1 (.cons (.int _ _) (.cons (.str _ _) .nil)), by simp⟩
  case lst =>
    cases (show u = Value.ref w.l from rx)
    obtain ⟨_, its, n, r1, g1⟩ := (show ObjOk X.prog X.w H s.heap w.l (.lst [.int 2]) from I.hok _ _ S.hl)
    cases r1 with
    | cons ra rn =>
      cases rn
      obtain ⟨t1, rfl⟩ := ra
      exact ⟨_, .list g1 rfl rfl (.cons (.int _ _) .nil), by simpa using Ne.symm hn⟩
  case dic =>
    cases (show u = Value.ref w.d from rx)
    obtain ⟨z, hs, vs, rel, o, es, ep, h1, h2, h3, h4, h5, h6⟩ := dk_of I.hok S.hd
    have rel' : KV [(.inr "k", .non)] vs := rel
    unfold KV at rel'
    cases rel' with
    | cons h t =>
      rename_i q qs
      cases t
      obtain ⟨e1, e2⟩ := h
      obtain ⟨k, v⟩ := q
      have e1' : (Sum.inr (Str.ofString "k") : Key) = k := e1
      have e2' : v = Value.none := e2
      subst e1' e2'
      obtain ⟨L, hL⟩ : ∃ L, es.toList = L := ⟨_, rfl⟩
      rw [hL] at h5
      cases h5 with
      | cons ek ev er =>
        rename_i e0 es0
        cases er
        have ek' : keyIs (Sum.inr (Str.ofString "k")) e0.key = true := ek
        rcases keyIs_shape ek' with ⟨i, t, e3, e4⟩ | ⟨x, t, e3, e4⟩
        · cases e3
        · cases e3
          have r1 : Reads s.heap e0.key (.str "k") [] := by rw [e4]; exact .str _ _
          have r2 : Reads s.heap e0.val .none [] := by rw [ev]; exact .none
          refine ⟨_, .dict (kvs := [(.str "k", .none)]) (as := []) (bs := []) h1 h2.1 h3 ?_ ?_, ?_⟩
          · rw [hL]; exact .cons r1 .nil
          · rw [hL]; exact .cons r2 .nil
          · intro hm
            rcases List.mem_append.mp hm with hm | hm
            · rcases List.mem_cons.mp hm with e | e
              · rw [← e] at hs; exact absurd hs (by decide)
              · cases e
            · cases hm
theorem w9_readsAll (I : Inv X pins σ H s) (S : Sts H w) (hn : w.l ≠ sysModules) : ∀ {is : List W9} {us : List Value}, Vals (is.map (W9.v w)) us → ∃ as, ReadsAll s.heap us (is.map W9.p) as ∧ sysModules ∉ as
  | [], us, r => by cases r; exact ⟨[], .nil, by simp⟩
  | i :: is, us, r => by
    cases r with
    | cons a b =>
      obtain ⟨as, r1, n1⟩ := w9_reads I S hn i a
      obtain ⟨bs, r2, n2⟩ := w9_readsAll I S hn b
      exact ⟨as ++ bs, .cons r1 r2, by simp [n1, n2]⟩
end
theorem w9_shw (is : List W9) : PyData.showableAll (is.map W9.p) = true ∧ PyData.leavesShortAll 60 (is.map W9.p) = true ∧ PyData.weightAll (is.map W9.p) ≤ 201 * is.length ∧ PyData.depthAll (is.map W9.p) ≤ 2 := by
  induction is with
  | nil => exact ⟨rfl, rfl, by decide, by decide⟩
  | cons i r ih =>
    obtain ⟨h1, h2, h3, h4⟩ := ih
    have g : PyData.showable i.p = true ∧ PyData.leavesShort 60 i.p = true ∧ PyData.weight i.p ≤ 200 ∧ PyData.depth i.p ≤ 2 := by cases i <;> decide +kernel
    obtain ⟨g1, g2, g3, g4⟩ := g
    refine ⟨?_, ?_, ?_, ?_⟩
    · show (PyData.showable _ && PyData.showableAll _) = true
      rw [g1, h1]; rfl
    · show (PyData.leavesShort 60 _ && PyData.leavesShortAll 60 _) = true
      rw [g2, h2]; rfl
    · show PyData.weight i.p + 1 + PyData.weightAll (r.map W9.p) ≤ 201 * (r.length + 1)
      omega
    · show max (PyData.depth i.p) (PyData.depthAll (r.map W9.p)) ≤ 2
      omega
def cRepr9 : List V → Hp → VK → Prop := fun xs H Q => ∃ w r is, xs = [.ref r] ∧ Sts H w ∧ r ≠ sysModules ∧ w.l ≠ sysModules ∧ List.length is ≤ 8 ∧ H r = some (.lst (is.map (W9.v w))) ∧ Q (.str (PyData.shown (.list (is.map W9.p)))) H
theorem call_repr9 {X : Cx} (hG : GA X.A) (hu : X.A.units + 64 < cLine) : CallR X (.builtin "repr") cRepr9 := by
  intro pins s σ H xs us Q I r h
  obtain ⟨w, a, is, rfl, S, hr, hn, hl, ha, q⟩ := h
  cases r with
  | cons r1 rn =>
    cases rn
    cases r1
    obtain ⟨_, its, n, rv, g1⟩ := (show ObjOk X.prog X.w H s.heap a (.lst _) from I.hok _ _ ha)
    obtain ⟨as, rd, na⟩ := w9_readsAll I S hn rv
    obtain ⟨s1, s2, s3, s4⟩ := w9_shw is
    have rd' : Reads s.heap (.ref a) (.list (is.map W9.p)) (a :: as) := .list g1 rfl rfl rd
    refine repr_of_reads' rd' s1 (fun _ z => ?_) hG ?_ (fun _ _ e => e) (fun h' u tk hk => ⟨.str _, H, I.kept hk, ⟨_, rfl⟩, q⟩) ?_
    · rcases List.mem_cons.mp z with e | e
      · exact hr e.symm
      · exact na e
    · show X.A.units + (PyData.depthAll (is.map W9.p) + 1 + 1) < cLine
      omega
    · have z := PyData.shown_le 60 (by decide) (.list (is.map W9.p)) s2
      have e : PyData.weight (.list (is.map W9.p)) ≤ 1608 := by
        show PyData.weightAll _ ≤ _
        omega
      have e2 : (60 + 2) * PyData.weight (.list (is.map W9.p)) ≤ (60 + 2) * 1608 := Nat.mul_le_mul_left _ e
      have : sizeLine = 16777216 := rfl
      omega
/-! ### bool(x) -/
structure BoolF (K : PySem.W.Frag) (C f : Addr) : Prop where
  fn : PySem.W.findIn K (.ref C) "__bool__" = some (some (.ref f))
  isf : PySem.W.isFn K (.ref f) = true
def rBoolO (C : Addr) (sp : Sp) : List V → Hp → VK → Prop := fun xs H Q => ∃ x, xs = [x] ∧ isIns C H x ∧ sp [x] H (fun v H' => ∃ b, v = .bl b ∧ Q (.bl b) H') E0
section
variable {X : Cx} {k : Nat} {C f : Addr} {sp : Sp}
theorem call_boolO (B : BoolF X.K C f) (O : Own2 X k f sp) : CallR X (.type "bool") (rBoolO C sp) := by
  intro pins s σ H xs us Q I rx h
  obtain ⟨x, rfl, h1, h3⟩ := h
  obtain ⟨p, dx, fs, rfl, ea⟩ := isIns_out h1
  cases rx with
  | cons r1 r2 =>
    cases r2
    cases r1
    obtain ⟨mA, J, _⟩ := ins_get I.hok ea
    obtain ⟨od, J, _⟩ := J.look
    obtain ⟨m, hF⟩ := I.fr
    have tr := PySem.W.truthy_K (Q := fun b s' => EP X pins σ Q (.bool b) s') hF I.ok.mod.kin J B.fn B.isf (thn (O.run (vs := [.ref p]) I (.cons rfl .nil) h3) fun r s' z => by
        obtain ⟨v, H', I', rw', b, rfl, q⟩ := z
        cases rw'
        exact ⟨.bl b, H', I', rfl, q⟩)
    refine callType_newIn (S := fun A R s => wpAny (model X.prog X.w) A.in1 (truthy (.ref p)) (fun b s' => R (.ok (.ret (.bool b))) s') (fun e s' => R (.error e) s') s)
      F.called_bool F.newNe_bool (F.typeCall_bool_1 _) (F.newCall_bool_1 _) (fun obj => F.args_object_init_2 obj _) F.entry_bool_new (fun A R s hs => ?_) (wpAny_mono tr (fun b s' hq => ⟨rfl, hq⟩) fun _ _ y => y)
    unfold Builtin.«bool.__new__»
    refine wpAny_bind (m := isType (.type "bool")) (wpAny_pure ?_)
    simp only [Bool.not_true, Bool.false_eq_true, if_false]
    refine wpAny_bind (wpAny_of_eq F.conv_sub_bool ?_)
    simp only [Bool.not_true, Bool.false_eq_true, if_false]
    refine wpAny_bind (wpAny_of_eq (a := [.ref p]) rfl ?_)
    refine wpAny_bind (wpAny_mono hs (fun b s' hq => ?_) fun _ _ y => y)
    exact wpAny_pure hq
end
end HG

/-! != of an instance by its own __eq__, whatever its bases; one of several classes; lists of one tuple of the same things. -/
namespace PySem.W
open PySem PySem.Spec PyProof.Rows PySem.SeqAt Builtin
section
variable {prog : Program} {w : World} {A : Around} {E : Value → Shared → Prop} {s : Shared} {K : Frag} {x y C f : Addr} {ox oy : Obj} {od : Option Obj}
theorem ifBound_objNe {M : Model} {args : List Value} {Q : Option Value → Shared → Prop} (X : K.In s.heap) (I : InstAt s.heap x ox C od) (hs : findIn K (.ref C) "__ne__" = some (some (.builtin "object.__ne__")))
    (h : wpAny M A (call (.builtin "object.__ne__") (.ref x :: args)) (fun v => Q (some v)) E s) : wpAny M A (callSpecialIfBound? (.ref x) "__ne__" args) Q E s := by
  simp only [callSpecialIfBound?, bindSpecialIfBound?]
  refine wpAny_holding (wpAny_bind (wpAny_bind (wpAny_bind (I.type.here ((looks_findIn X hs).here ?_)))))
  refine wpAny_bind (wpAny_askSetting (wpAny_ite ?_))
  have fin : wpAny M A (call (.builtin "object.__ne__") ([.ref x] ++ args) >>= fun v => pure (some v)) Q E s := wpAny_bind (wpAny_mono h (fun v s' h' => wpAny_pure h') fun _ _ h' => h')
  split
  · exact wpAny_bind (wpAny_of_eq (F.cmp_object.ne.bind _) (wpAny_pure (by exact fin)))
  · exact wpAny_tryCatch (wpAny_bind (wpAny_of_eq (F.cmp_object.ne.bind _) (wpAny_pure (by exact fin))))
theorem call_objNe {b : Value} {Q : Value → Shared → Prop} (hu : A.in1.units < cLine) (X : K.In s.heap) (I : InstAt s.heap x ox C od) (hm : mroIn K C (.type "object") = some true) (he : findIn K (.ref C) "__eq__" = some (some (.ref f))) (hf : isFn K (.ref f) = true)
    (h : wpAny (model prog w) A.in1 (call (.ref f) [.ref x, b]) (fun v s' => ∃ k, v = .bool k ∧ Q (.bool (!k)) s') E s) :
    wpAny (model prog w) A (call (.builtin "object.__ne__") [.ref x, b]) Q E s := by
  refine wpAny_call (codeAny_call_builtin F.cmp_object.ne.plain F.cmpEntry_ne (check_slot F.cmpKind_ne F.cmpSplit_ne (I.type.andThen (looks_mroIn X hm)) (F.cmpArgs_ne _ _) ?_))
  unfold Builtin.«object.__ne__»
  refine wpAny_bind (wpAny_of_eq (a := (.ref x, [b])) rfl ?_)
  refine wpAny_bind (wpAny_cRoomFor hu ?_)
  refine wpAny_bind (ifBound_K X I he hf (wpAny_mono h (fun v s' hv => ?_) fun _ _ e => e))
  obtain ⟨k, rfl, hq⟩ := hv
  exact wpAny_bind (wpAny_truthy_bool (wpAny_pure hq))
theorem ne_K {Q : Value → Shared → Prop} (hu : A.units + 1 < cLine) (X : K.In s.heap) (I : InstAt s.heap x ox C od) (hy : s.heap.get? y = some oy) (hc : oy.cls = .ref C) (hm : mroIn K C (.type "object") = some true)
    (hn : findIn K (.ref C) "__ne__" = some (some (.builtin "object.__ne__"))) (he : findIn K (.ref C) "__eq__" = some (some (.ref f))) (hf : isFn K (.ref f) = true)
    (h : wpAny (model prog w) A.in1 (call (.ref f) [.ref x, .ref y]) (fun v s' => ∃ k, v = .bool k ∧ Q (.bool (!k)) s') E s) :
    wpAny (model prog w) A (compareOp .NotEq (.ref x) (.ref y)) Q E s := by
  unfold compareOp richCompare
  simp only [oneThing_ref]
  refine wpAny_holding ?_
  refine wpAny_bind (wpAny_cRoomFor (Nat.lt_of_succ_lt hu) ?_)
  rw [cmpInfo_NotEq]
  dsimp only
  refine wpAny_bind (I.type.here ?_)
  refine wpAny_bind (wpAny_typeOf_ref hy ?_)
  rw [hc]
  rw [show (Value.ref C != Value.ref C) = false from by simp]
  simp only [Bool.false_eq_true, if_false]
  refine wpAny_bind (wpAny_pure ?_)
  simp only [Bool.false_eq_true, if_false]
  have one : wpAny (model prog w) A (tryCompare (.ref x) "__ne__" (.ref y)) (fun r s' => ∃ v, r = some v ∧ Q v s') E s := by
    unfold tryCompare
    refine wpAny_bind (ifBound_objNe X I hn (call_objNe (by show A.units + 1 < cLine; exact hu) X I hm he hf (wpAny_mono h (fun v s' hv => ?_) fun _ _ e => e)))
    obtain ⟨k, rfl, hq⟩ := hv
    exact ⟨k, rfl, wpAny_pure ⟨_, rfl, hq⟩⟩
  refine wpAny_bind (wpAny_mono one (fun r s' z => ?_) fun _ _ e => e)
  obtain ⟨v, rfl, hq⟩ := z
  exact wpAny_pure hq
end
end PySem.W
namespace HG
open PySem L2 PyProof.Rows
open PySem.SeqAt (EqIn EqAt RcAt RcNeAt)
structure NeK (K : PySem.W.Frag) (C f : Addr) : Prop where
  hm : PySem.W.mroIn K C (.type "object") = some true
  ne : PySem.W.findIn K (.ref C) "__ne__" = some (some (.builtin "object.__ne__"))
  eq : PySem.W.findIn K (.ref C) "__eq__" = some (some (.ref f))
  isf : PySem.W.isFn K (.ref f) = true
section
variable {X : Cx} {k : Nat} {C f : Addr} {sp : Sp}
theorem op_neK (B : NeK X.K C f) (O : Own1 X k f sp) (hu : X.A.units + 1 < cLine) : OpR X (compareOp .NotEq) (rNeO C sp) := by
  intro pins s σ H x y v u Q I rx ry h
  obtain ⟨h1, h2, h3⟩ := h
  obtain ⟨a, dx, fs, rfl, ea⟩ := isIns_out h1
  cases rx
  obtain ⟨b, dy, gs, rfl, eb⟩ := isIns_out h2
  cases ry
  obtain ⟨mA, J, _⟩ := ins_get I.hok ea
  obtain ⟨mB, J', _⟩ := ins_get I.hok eb
  obtain ⟨od, J, _⟩ := J.look
  refine PySem.W.ne_K hu I.kIn J J'.obj rfl B.hm B.ne B.eq B.isf (thn (O.run (vs := [.ref a, .ref b]) I (.cons rfl (.cons rfl .nil)) h3) fun v s' z => ?_)
  obtain ⟨v', H', I', r', q'⟩ := z
  cases v' with
  | bl c =>
    cases r'
    exact ⟨c, rfl, .bl (!c), H', I', rfl, q'⟩
  | _ => exact q'.elim
end
/-! ### one of several -/
def anyR (l : List R2) : R2 := fun x y H Q => ∃ r, r ∈ l ∧ r x y H Q
inductive AllOp (X : Cx) (op : Value → Value → Sem Value) : List R2 → Prop
  | nil : AllOp X op []
  | cons {r : R2} {l : List R2} : OpR X op r → AllOp X op l → AllOp X op (r :: l)
theorem AllOp.get {X : Cx} {op : Value → Value → Sem Value} {l : List R2} (h : AllOp X op l) : ∀ r ∈ l, OpR X op r := by
  induction h with
  | nil => intro r hr; cases hr
  | cons a b ih =>
    intro r hr
    rcases List.mem_cons.mp hr with e | hr
    · rw [e]; exact a
    · exact ih r hr
theorem op_anyR {X : Cx} {op : Value → Value → Sem Value} {l : List R2} (h : AllOp X op l) : OpR X op (anyR l) := by
  intro pins s σ H x y v u Q I rx ry z
  obtain ⟨r, hr, z⟩ := z
  exact h.get r hr pins s σ H x y v u Q I rx ry z
abbrev CR := List V → Hp → VK → Prop
def anyC (l : List CR) : CR := fun xs H Q => ∃ r, r ∈ l ∧ r xs H Q
inductive AllC (X : Cx) (f : Value) : List CR → Prop
  | nil : AllC X f []
  | cons {r : CR} {l : List CR} : CallR X f r → AllC X f l → AllC X f (r :: l)
theorem AllC.get {X : Cx} {f : Value} {l : List CR} (h : AllC X f l) : ∀ r ∈ l, CallR X f r := by
  induction h with
  | nil => intro r hr; cases hr
  | cons a b ih =>
    intro r hr
    rcases List.mem_cons.mp hr with e | hr
    · rw [e]; exact a
    · exact ih r hr
theorem call_anyC {X : Cx} {f : Value} {l : List CR} (h : AllC X f l) : CallR X f (anyC l) := by
  intro pins s σ H xs us Q I rx z
  obtain ⟨r, hr, z⟩ := z
  exact h.get r hr pins s σ H xs us Q I rx z
/-! ### [t] != [t'], two tuples of the same objects -/
def rNeRow : R2 := fun x y H Q => ∃ a b t1 t2 as, x = .ref a ∧ y = .ref b ∧ H a = some (.lst [.ref t1]) ∧ H b = some (.lst [.ref t2]) ∧ t1 ≠ t2 ∧ H t1 = some (.tup (List.map V.ref as)) ∧ H t2 = some (.tup (List.map V.ref as)) ∧ Q (.bl false) H
theorem vals_refs : ∀ {as : List Addr} {us : List Value}, Vals (as.map V.ref) us → us = as.map Value.ref
  | [], us, r => by cases r; rfl
  | a :: as, us, r => by
    cases r with
    | cons h t =>
      cases (show _ = Value.ref a from h)
      rw [vals_refs t]; rfl
theorem op_neRow {X : Cx} (hu : X.A.units + 64 < cLine) : OpR X (compareOp .NotEq) rNeRow := by
  intro pins s σ H x y v u Q I rx ry h
  obtain ⟨a, b, t1, t2, as, rfl, rfl, ha, hb, hne, h1, h2, q⟩ := h
  cases (show v = Value.ref a from rx)
  cases (show u = Value.ref b from ry)
  obtain ⟨_, us, n, r1, g1⟩ := (show ObjOk X.prog X.w H s.heap a (.lst _) from I.hok _ _ ha)
  obtain ⟨_, ws, m, r2, g2⟩ := (show ObjOk X.prog X.w H s.heap b (.lst _) from I.hok _ _ hb)
  obtain rfl := Vals.ref1 r1
  obtain rfl := Vals.ref1 r2
  obtain ⟨_, us, r1, o1, g3, c1, n1, d1⟩ := (show ObjOk X.prog X.w H s.heap t1 (.tup _) from I.hok _ _ h1)
  obtain ⟨_, ws, r2, o2, g4, c2, n2, d2⟩ := (show ObjOk X.prog X.w H s.heap t2 (.tup _) from I.hok _ _ h2)
  have e1 := vals_refs r1
  have e2 := vals_refs r2
  subst e1 e2
  have i1 : s.heap.IsTuple t1 (as.map Value.ref).toArray := ⟨o1, g3, c1, n1, d1⟩
  have i2 : s.heap.IsTuple t2 (as.map Value.ref).toArray := ⟨o2, g4, c2, n2, d2⟩
  have l1 : s.heap.IsList a [Value.ref t1].toArray := ⟨_, g1, rfl, _, rfl⟩
  have l2 : s.heap.IsList b [Value.ref t2].toArray := ⟨_, g2, rfl, _, rfl⟩
  have et : EqAt X.A.in1 s (.ref t1) (.ref t2) true := by
    refine .of_refs hne ?_
    have z := RcAt.tuples (A := X.A.in1) (e := fun _ => true) i1 i2 (by show X.A.units + 1 < cLine; omega) (fun j h1 h2 => EqAt.same _)
    have e : (((List.range (min (as.map Value.ref).toArray.size (as.map Value.ref).toArray.size)).all fun _ => true) && (as.map Value.ref).toArray.size == (as.map Value.ref).toArray.size) = true := by
      rw [show (List.range (min (as.map Value.ref).toArray.size (as.map Value.ref).toArray.size)).all (fun _ => true) = true from List.all_eq_true.mpr fun _ _ => rfl]; simp
    rw [e] at z
    exact z
  have z := RcNeAt.lists (A := X.A) (e := fun _ => true) l1 l2 rfl (by omega) (fun j h1 h2 => by
    have : j = 0 := by simpa using h1
    subst this
    exact et)
  have e : (!(List.range [Value.ref t1].toArray.size).all fun _ => true) = false := by simp
  rw [e] at z
  exact z _ _ _ _ ⟨.bl false, H, I, rfl, q⟩
end HG

namespace HG
open PySem L2
def kw_Beyond_init_behind_falling_between_rising_ahead : List V → List V → List V := fun vs zs => vs ++ ((zs.drop 4).take 1 ++ ((zs.drop 3).take 1 ++ ((zs.drop 2).take 1 ++ ((zs.drop 1).take 1 ++ ((zs.drop 0).take 1)))))
def kw_Cut_init_at_text_heights_number : List V → List V → List V := fun vs zs => vs ++ ((zs.drop 3).take 1 ++ ((zs.drop 2).take 1 ++ ((zs.drop 1).take 1 ++ ((zs.drop 0).take 1))))
def kw_EndlessCut_init_behind_ring_at_text : List V → List V → List V := fun vs zs => vs ++ ((zs.drop 3).take 1 ++ ((zs.drop 2).take 1 ++ ((zs.drop 1).take 1 ++ ((zs.drop 0).take 1))))
def kw_Enough_init_text_heights_number : List V → List V → List V := fun vs zs => vs ++ ((zs.drop 2).take 1 ++ ((zs.drop 1).take 1 ++ ((zs.drop 0).take 1)))
def kw_Fits_init_text_losses_rises_number : List V → List V → List V := fun vs zs => vs ++ ((zs.drop 3).take 1 ++ ((zs.drop 2).take 1 ++ ((zs.drop 1).take 1 ++ ((zs.drop 0).take 1))))
def kw_Lengths_init_tails_steps_first : List V → List V → List V := fun vs zs => vs ++ ((zs.drop 2).take 1 ++ ((zs.drop 1).take 1 ++ ((zs.drop 0).take 1)))
def kw_Mean_init_heights_ring_rate : List V → List V → List V := fun vs zs => vs ++ ((zs.drop 2).take 1 ++ ((zs.drop 1).take 1 ++ ((zs.drop 0).take 1)))
def kw_Never_init_behind_ring_ahead : List V → List V → List V := fun vs zs => vs ++ ((zs.drop 2).take 1 ++ ((zs.drop 1).take 1 ++ ((zs.drop 0).take 1)))
def kw_Ring_init_text_state : List V → List V → List V := fun vs zs => vs ++ ((zs.drop 1).take 1 ++ ((zs.drop 0).take 1))
def kw_Table_init_growths : List V → List V → List V := fun vs zs => vs ++ ((zs.drop 0).take 1)
structure Ad where
  c_Enough : Addr
  c_Fits : Addr
  c_Cut : Addr
  c_Never : Addr
  c_Beyond : Addr
  c_EndlessCut : Addr
  c_Table : Addr
  c_Ring : Addr
  c_Mean : Addr
  c_Lengths : Addr
  c_Verdict : Addr
  f_Enough_init : Addr
  f_Fits_init : Addr
  f_Cut_init : Addr
  f_Never_init : Addr
  f_Beyond_init : Addr
  f_EndlessCut_init : Addr
  f_Table_init : Addr
  f_Ring_init : Addr
  f_Mean_init : Addr
  f_Lengths_init : Addr
  f_Enough_eq : Addr
  f_Fits_eq : Addr
  f_Cut_eq : Addr
  f_Never_eq : Addr
  f_Beyond_eq : Addr
  f_EndlessCut_eq : Addr
  f_Table_eq : Addr
  f_Ring_eq : Addr
  f_Mean_eq : Addr
  f_Lengths_eq : Addr
  f_Enough_bool : Addr
  f_Fits_bool : Addr
  f_Cut_bool : Addr
  f_Never_bool : Addr
  f_Beyond_bool : Addr
  f_EndlessCut_bool : Addr
  f_law_pen : Addr
  f_law_draw : Addr
  f_law_pick : Addr
  f_law_yes : Addr
  f_law_no : Addr
  f_law_plain : Addr
  f_law : Addr
  d_Enough_init : FuncData
  d_Fits_init : FuncData
  d_Cut_init : FuncData
  d_Never_init : FuncData
  d_Beyond_init : FuncData
  d_EndlessCut_init : FuncData
  d_Table_init : FuncData
  d_Ring_init : FuncData
  d_Mean_init : FuncData
  d_Lengths_init : FuncData
  d_Enough_eq : FuncData
  d_Fits_eq : FuncData
  d_Cut_eq : FuncData
  d_Never_eq : FuncData
  d_Beyond_eq : FuncData
  d_EndlessCut_eq : FuncData
  d_Table_eq : FuncData
  d_Ring_eq : FuncData
  d_Mean_eq : FuncData
  d_Lengths_eq : FuncData
  d_Enough_bool : FuncData
  d_Fits_bool : FuncData
  d_Cut_bool : FuncData
  d_Never_bool : FuncData
  d_Beyond_bool : FuncData
  d_EndlessCut_bool : FuncData
  d_law_pen : FuncData
  d_law_draw : FuncData
  d_law_pick : FuncData
  d_law_yes : FuncData
  d_law_no : FuncData
  d_law_plain : FuncData
  d_law : FuncData

def sp_law_pen (K : PySem.W.Frag) (A : Ad) : Sp := spPenL K
def sp_law_draw (K : PySem.W.Frag) (A : Ad) : Sp := spDrawL
def sp_law_pick (K : PySem.W.Frag) (A : Ad) : Sp := spPickL
def t_law_pen_0 (K : PySem.W.Frag) (A : Ad) : TS := (tRet (tLst (tCons (tCB (cList K) (tCons (tSl (rSlL K) (tVar 0) tNoPart (tPart (tC (.int 63)))) tNil)) (tCons (tC (.int 0)) (tCons (tC (.int 0)) tNil)))))

def t_law_draw_3 (K : PySem.W.Frag) (A : Ad) : TS := (tRet (tVar 2))
def t_law_draw_2 (K : PySem.W.Frag) (A : Ad) : TS := (tSeq (tAsg (tOp oFdiv (tCB cInt (tCons (tOp (iIx K) (tVar 0) (tC (.int 2))) tNil)) (tVar 1)) (gSub (tVar 0) (tC (.int 2)) stL)) (t_law_draw_3 K A))
def t_law_draw_1 (K : PySem.W.Frag) (A : Ad) : TS := (tSeq (tAsg (tOp oMod (tCB cInt (tCons (tOp (iIx K) (tVar 0) (tC (.int 2))) tNil)) (tVar 1)) (gName 2)) (t_law_draw_2 K A))
def t_law_draw_8 (K : PySem.W.Frag) (A : Ad) : TS := (tAsg (tOp (iIx K) (tOp (iIx K) (tVar 0) (tC (.int 0))) (tOp oMod (tCB cInt (tCons (tVar 3) tNil)) (tCB (cLen K) (tCons (tOp (iIx K) (tVar 0) (tC (.int 0))) tNil)))) (gName 4))
def t_law_draw_12 (K : PySem.W.Frag) (A : Ad) : TS := (tRet (tOp oMod (tCB cInt (tCons (tVar 5) tNil)) (tVar 1)))
def t_law_draw_11 (K : PySem.W.Frag) (A : Ad) : TS := (tSeq (tAsg (tOp oFdiv (tCB cInt (tCons (tVar 5) tNil)) (tVar 1)) (gSub (tVar 0) (tC (.int 2)) stL)) (t_law_draw_12 K A))
def t_law_draw_10 (K : PySem.W.Frag) (A : Ad) : TS := (tSeq (tAsg (tOp oAdd (tOp oMul (tC (.int 2)) (tOp oSub (tCB cAbs (tCons (tVar 4) tNil)) (tOp oPow (tC (.int 10)) (tC (.int 18))))) (tCB cInt (tCons (tOp oLt (tVar 4) (tC (.int 0))) tNil))) (gName 5)) (t_law_draw_11 K A))
def t_law_draw_15 (K : PySem.W.Frag) (A : Ad) : TS := (tRet (tOp oMod (tCB cInt (tCons (tOp oFdiv (tVar 6) (tC (.int 32))) tNil)) (tVar 1)))
def t_law_draw_14 (K : PySem.W.Frag) (A : Ad) : TS := (tSeq (tAsg (tOp oMod (tCB cInt (tCons (tOp oPow (tOp oAdd (tOp oAdd (tOp oMul (tVar 6) (tOp oAdd (tOp oMul (tC (.int 2)) (tVar 3)) (tC (.int 593)))) (tOp oMul (tOp oMul (tC (.int 51717)) (tVar 3)) (tVar 3))) (tC (.int 295))) (tC (.int 3))) tNil)) (tC (.int 2147483563))) (gName 6)) (t_law_draw_15 K A))
def t_law_draw_13 (K : PySem.W.Frag) (A : Ad) : TS := (tSeq (tAsg (tOp oMod (tCB cInt (tCons (tOp oPow (tOp oAdd (tOp oAdd (tOp oMod (tCB cInt (tCons (tVar 4) tNil)) (tC (.int 2147483549))) (tOp oMul (tC (.int 42463)) (tVar 3))) (tC (.int 1937))) (tC (.int 5))) tNil)) (tC (.int 2147483647))) (gName 6)) (t_law_draw_14 K A))
def t_law_draw_9 (K : PySem.W.Frag) (A : Ad) : TS := (tSeq (tIfS (tAnd (tTest (tOp oLt (tVar 3) (tCB (cLen K) (tCons (tOp (iIx K) (tVar 0) (tC (.int 0))) tNil)))) (tTest (tOp oGe (tCB cAbs (tCons (tVar 4) tNil)) (tOp oPow (tC (.int 10)) (tC (.int 18)))))) (t_law_draw_10 K A) tNext) (t_law_draw_13 K A))
def t_law_draw_7 (K : PySem.W.Frag) (A : Ad) : TS := (tSeq (tIfS (tTest (tOp (oNe K) (tOp (iIx K) (tVar 0) (tC (.int 0))) (tLst tNil))) (t_law_draw_8 K A) tNext) (t_law_draw_9 K A))
def t_law_draw_6 (K : PySem.W.Frag) (A : Ad) : TS := (tSeq (tAsg (tOp oAdd (tOp oMul (tC (.int 54253)) (tVar 3)) (tC (.int 2655))) (gName 4)) (t_law_draw_7 K A))
def t_law_draw_5 (K : PySem.W.Frag) (A : Ad) : TS := (tSeq (tAsg (tOp oAdd (tVar 3) (tC (.int 1))) (gSub (tVar 0) (tC (.int 1)) stL)) (t_law_draw_6 K A))
def t_law_draw_4 (K : PySem.W.Frag) (A : Ad) : TS := (tSeq (tAsg (tOp (iIx K) (tVar 0) (tC (.int 1))) (gName 3)) (t_law_draw_5 K A))
def t_law_draw_0 (K : PySem.W.Frag) (A : Ad) : TS := (tSeq (tIfS (tTest (tOp oGt (tOp (iIx K) (tVar 0) (tC (.int 2))) (tC (.int 0)))) (t_law_draw_1 K A) tNext) (t_law_draw_4 K A))

def t_law_pick_0 (K : PySem.W.Frag) (A : Ad) : TS := (tRet (tOp (iIx K) (tVar 1) (tCall (sp_law_draw K A) [] E0 (tCons (tVar 0) (tCons (tCB (cLen K) (tCons (tVar 1) tNil)) tNil)))))

theorem pure_law_pen {K : PySem.W.Frag} {A : Ad} {vs : List V} {H : Hp} {Q : VK} {E : XK} (h : sp_law_pen K A vs H Q E) : (t_law_pen_0 K A) { nx := fun _ H' => Q .non H', rt := Q } (start ["_law_script"] vs) H := by
  unfold sp_law_pen spPenL at h
  split at h
  · rename_i a
    obtain ⟨ns, hs, k⟩ := h
    show (t_law_pen_0 K A) _ [some (.ref a)] H
    refine st_ret ?_
    (refine evE ?P1 (fun Q h => ?h1) ?_; (case h1 => (simp only [tTest, tOp, tUn, tVar, tC, tCB, tCons, tNil, tAnd, tOr, tNot, tB, tTup, tLst, tIf, tAndV, tOrV, tNotV, tSl, tPart, tNoPart, tCall, iIx_ref, oGt_int, oMod_int, oFdiv_int, oAdd_int, oAdd_str, oSub_int, oMul_int, oLt_int, oGe_int, oLe_int, oPow_int, uNeg_int, oEq_int, oEq_str, oEq_bl, oNe_int, oNe_str, oNe_bl, cInt_int, cInt_bl, cAbs_int, cLen_ref, cList_ref, stL_ref, gName, gSub, gTup, gCons, gNil, rdSeq, List.getElem?_cons_zero, List.getElem?_cons_succ, List.set_cons_zero, List.set_cons_succ, List.cons_append, List.nil_append, Option.some.injEq, exists_eq_left', V.bl.injEq, V.int.injEq, V.ref.injEq, atI_0, atI_1, atI_2, setI_1, setI_2, Bool.not_true, Bool.not_false, Bool.false_eq_true, if_false, if_true, rSlL]; exact h)); (try dsimp only [gName, tNext, List.set_cons_zero, List.set_cons_succ]))
    refine ⟨a, _, rfl, hs, fun p hp => ?_⟩
    have e1 : cutV (ns.map V.int) none (some 63) = (ns.take 63).map V.int := by
      have e2 : HT.sIx (ns.map V.int).length (ns.map V.int).length (some 63) = min 63 (ns.map V.int).length := HT.sIx_nat _ _ 63
      unfold cutV
      rw [e2, HT.sIx_none, List.drop_zero, Nat.sub_zero, List.map_take, List.take_eq_take_iff]
      omega
    rw [e1, upd_same]
    intro l hl
    refine ⟨by show 3 ≤ sizeLine; decide, fun q hq => ?_⟩
    have hlp : l ≠ p := fun z => by rw [z, upd_same] at hl; cases hl
    have hlq : l ≠ q := fun z => by rw [← z, upd_same] at hq; cases hq
    refine k q l _ ⟨ns.take 63, 0, 0, upd_same, ?_, ?_, by decide, by decide, by decide⟩ (fun b o e => ?_) ?_
    · rw [upd_ne hlq, upd_same]
    · rw [List.length_take]; omega
    · have g1 : Grow H (upd H p (.lst ((ns.take 63).map V.int))) := Grow.new hp
      exact (g1.trans ((Grow.new hl).trans (Grow.new hq))) b o e
    · cases e : H q with
      | none => rfl
      | some o =>
        have g1 : Grow H (upd H p (.lst ((ns.take 63).map V.int))) := Grow.new hp
        rw [(g1.trans (Grow.new hl)) q o e] at hq
        cases hq
  · exact h.elim
theorem pure_law_draw {K : PySem.W.Frag} {A : Ad} {vs : List V} {H : Hp} {Q : VK} {E : XK} (h : sp_law_draw K A vs H Q E) : (t_law_draw_0 K A) { nx := fun _ H' => Q .non H', rt := Q } (start ["_law_pen_here", "_law_many", "_law_digit", "_law_turn", "_law_cell", "_law_great", "_law_blend"] vs) H := by
  unfold sp_law_draw spDrawL at h
  split at h
  · rename_i p many
    obtain ⟨l, n, ⟨cells, turn, rest, hp, hl, hc, ht0, ht1, hr0⟩, hn, hm0, hm1, k⟩ := h
    have k : ∀ (d turn' rest' : Int) (H' : Hp), 0 ≤ d → d < many → turn ≤ turn' → turn' ≤ turn + 1 → 0 ≤ rest' → H' p = some (.lst [.ref l, .int turn', .int rest']) → Keep p H H' → Q (.int d) H' := by
      intro d turn' rest' H' h1 h2 h3 h4 h5 h6 h7
      refine k d H' h1 h2 ⟨cells, turn', rest', h6, h7 l _ ?_ hl, hc, by omega, by omega, h5⟩ h7
      rintro rfl
      rw [hp] at hl
      cases cells <;> cases hl
    have ht1 : turn ≤ 1000000 := by omega
    show (t_law_draw_0 K A) _ [some (.ref p), some (.int many), none, none, none, none, none] H
    refine st_seq (st_if ?_)
    (refine evT ?P2 (fun Q h => ?h2) ?_; (case h2 => (simp only [tTest, tOp, tUn, tVar, tC, tCB, tCons, tNil, tAnd, tOr, tNot, tB, tTup, tLst, tIf, tAndV, tOrV, tNotV, tSl, tPart, tNoPart, tCall, iIx_ref, oGt_int, oMod_int, oFdiv_int, oAdd_int, oAdd_str, oSub_int, oMul_int, oLt_int, oGe_int, oLe_int, oPow_int, uNeg_int, oEq_int, oEq_str, oEq_bl, oNe_int, oNe_str, oNe_bl, cInt_int, cInt_bl, cAbs_int, cLen_ref, cList_ref, stL_ref, gName, gSub, gTup, gCons, gNil, rdSeq, List.getElem?_cons_zero, List.getElem?_cons_succ, List.set_cons_zero, List.set_cons_succ, List.cons_append, List.nil_append, Option.some.injEq, exists_eq_left', V.bl.injEq, V.int.injEq, V.ref.injEq, atI_0, atI_1, atI_2, setI_1, setI_2, Bool.not_true, Bool.not_false, Bool.false_eq_true, if_false, if_true, hp]; exact h)); (try dsimp only [gName, tNext, List.set_cons_zero, List.set_cons_succ]))
    refine ite_dec (fun hrest => ?_) (fun hrest => ?_)
    all_goals (try dsimp only [gName, tNext, List.set_cons_zero, List.set_cons_succ])
    · refine st_seq (st_asg ?_)
      (refine evE ?P3 (fun Q h => ?h3) ?_; (case h3 => (simp only [tTest, tOp, tUn, tVar, tC, tCB, tCons, tNil, tAnd, tOr, tNot, tB, tTup, tLst, tIf, tAndV, tOrV, tNotV, tSl, tPart, tNoPart, tCall, iIx_ref, oGt_int, oMod_int, oFdiv_int, oAdd_int, oAdd_str, oSub_int, oMul_int, oLt_int, oGe_int, oLe_int, oPow_int, uNeg_int, oEq_int, oEq_str, oEq_bl, oNe_int, oNe_str, oNe_bl, cInt_int, cInt_bl, cAbs_int, cLen_ref, cList_ref, stL_ref, gName, gSub, gTup, gCons, gNil, rdSeq, List.getElem?_cons_zero, List.getElem?_cons_succ, List.set_cons_zero, List.set_cons_succ, List.cons_append, List.nil_append, Option.some.injEq, exists_eq_left', V.bl.injEq, V.int.injEq, V.ref.injEq, atI_0, atI_1, atI_2, setI_1, setI_2, Bool.not_true, Bool.not_false, Bool.false_eq_true, if_false, if_true, hp]; exact h)); (try dsimp only [gName, tNext, List.set_cons_zero, List.set_cons_succ]))
      refine ⟨hm0, ?_⟩
      (try dsimp only [gName, tNext, List.set_cons_zero, List.set_cons_succ])
      refine st_seq (st_asg ?_)
      (refine evE ?P4 (fun Q h => ?h4) ?_; (case h4 => (simp only [tTest, tOp, tUn, tVar, tC, tCB, tCons, tNil, tAnd, tOr, tNot, tB, tTup, tLst, tIf, tAndV, tOrV, tNotV, tSl, tPart, tNoPart, tCall, iIx_ref, oGt_int, oMod_int, oFdiv_int, oAdd_int, oAdd_str, oSub_int, oMul_int, oLt_int, oGe_int, oLe_int, oPow_int, uNeg_int, oEq_int, oEq_str, oEq_bl, oNe_int, oNe_str, oNe_bl, cInt_int, cInt_bl, cAbs_int, cLen_ref, cList_ref, stL_ref, gName, gSub, gTup, gCons, gNil, rdSeq, List.getElem?_cons_zero, List.getElem?_cons_succ, List.set_cons_zero, List.set_cons_succ, List.cons_append, List.nil_append, Option.some.injEq, exists_eq_left', V.bl.injEq, V.int.injEq, V.ref.injEq, atI_0, atI_1, atI_2, setI_1, setI_2, Bool.not_true, Bool.not_false, Bool.false_eq_true, if_false, if_true, hp]; exact h)); (try dsimp only [gName, tNext, List.set_cons_zero, List.set_cons_succ]))
      refine ⟨⟨hm0, hm1⟩, ?_⟩
      (try dsimp only [gName, tNext, List.set_cons_zero, List.set_cons_succ])
      (refine evG ?P5 (fun Q h => ?h5) ?_; (case h5 => (simp only [tTest, tOp, tUn, tVar, tC, tCB, tCons, tNil, tAnd, tOr, tNot, tB, tTup, tLst, tIf, tAndV, tOrV, tNotV, tSl, tPart, tNoPart, tCall, iIx_ref, oGt_int, oMod_int, oFdiv_int, oAdd_int, oAdd_str, oSub_int, oMul_int, oLt_int, oGe_int, oLe_int, oPow_int, uNeg_int, oEq_int, oEq_str, oEq_bl, oNe_int, oNe_str, oNe_bl, cInt_int, cInt_bl, cAbs_int, cLen_ref, cList_ref, stL_ref, gName, gSub, gTup, gCons, gNil, rdSeq, List.getElem?_cons_zero, List.getElem?_cons_succ, List.set_cons_zero, List.set_cons_succ, List.cons_append, List.nil_append, Option.some.injEq, exists_eq_left', V.bl.injEq, V.int.injEq, V.ref.injEq, atI_0, atI_1, atI_2, setI_1, setI_2, Bool.not_true, Bool.not_false, Bool.false_eq_true, if_false, if_true, hp]; exact h)); (try dsimp only [gName, tNext, List.set_cons_zero, List.set_cons_succ]))
      refine st_ret ?_
      (refine evE ?P6 (fun Q h => ?h6) ?_; (case h6 => (simp only [tTest, tOp, tUn, tVar, tC, tCB, tCons, tNil, tAnd, tOr, tNot, tB, tTup, tLst, tIf, tAndV, tOrV, tNotV, tSl, tPart, tNoPart, tCall, iIx_ref, oGt_int, oMod_int, oFdiv_int, oAdd_int, oAdd_str, oSub_int, oMul_int, oLt_int, oGe_int, oLe_int, oPow_int, uNeg_int, oEq_int, oEq_str, oEq_bl, oNe_int, oNe_str, oNe_bl, cInt_int, cInt_bl, cAbs_int, cLen_ref, cList_ref, stL_ref, gName, gSub, gTup, gCons, gNil, rdSeq, List.getElem?_cons_zero, List.getElem?_cons_succ, List.set_cons_zero, List.set_cons_succ, List.cons_append, List.nil_append, Option.some.injEq, exists_eq_left', V.bl.injEq, V.int.injEq, V.ref.injEq, atI_0, atI_1, atI_2, setI_1, setI_2, Bool.not_true, Bool.not_false, Bool.false_eq_true, if_false, if_true]; exact h)); (try dsimp only [gName, tNext, List.set_cons_zero, List.set_cons_succ]))
      exact k _ turn _ _ (Int.emod_nonneg _ (by omega)) (Int.emod_lt_of_pos _ hm0) (by omega) (by omega) (Int.ediv_nonneg hr0 (by omega)) upd_same fun b o hb e => by rw [upd_ne hb]; exact e
    · refine st_seq (st_asg ?_)
      (refine evE ?P7 (fun Q h => ?h7) ?_; (case h7 => (simp only [tTest, tOp, tUn, tVar, tC, tCB, tCons, tNil, tAnd, tOr, tNot, tB, tTup, tLst, tIf, tAndV, tOrV, tNotV, tSl, tPart, tNoPart, tCall, iIx_ref, oGt_int, oMod_int, oFdiv_int, oAdd_int, oAdd_str, oSub_int, oMul_int, oLt_int, oGe_int, oLe_int, oPow_int, uNeg_int, oEq_int, oEq_str, oEq_bl, oNe_int, oNe_str, oNe_bl, cInt_int, cInt_bl, cAbs_int, cLen_ref, cList_ref, stL_ref, gName, gSub, gTup, gCons, gNil, rdSeq, List.getElem?_cons_zero, List.getElem?_cons_succ, List.set_cons_zero, List.set_cons_succ, List.cons_append, List.nil_append, Option.some.injEq, exists_eq_left', V.bl.injEq, V.int.injEq, V.ref.injEq, atI_0, atI_1, atI_2, setI_1, setI_2, Bool.not_true, Bool.not_false, Bool.false_eq_true, if_false, if_true, hp]; exact h)); (try dsimp only [gName, tNext, List.set_cons_zero, List.set_cons_succ]))
      refine st_seq (st_asg ?_)
      (refine evE ?P8 (fun Q h => ?h8) ?_; (case h8 => (simp only [tTest, tOp, tUn, tVar, tC, tCB, tCons, tNil, tAnd, tOr, tNot, tB, tTup, tLst, tIf, tAndV, tOrV, tNotV, tSl, tPart, tNoPart, tCall, iIx_ref, oGt_int, oMod_int, oFdiv_int, oAdd_int, oAdd_str, oSub_int, oMul_int, oLt_int, oGe_int, oLe_int, oPow_int, uNeg_int, oEq_int, oEq_str, oEq_bl, oNe_int, oNe_str, oNe_bl, cInt_int, cInt_bl, cAbs_int, cLen_ref, cList_ref, stL_ref, gName, gSub, gTup, gCons, gNil, rdSeq, List.getElem?_cons_zero, List.getElem?_cons_succ, List.set_cons_zero, List.set_cons_succ, List.cons_append, List.nil_append, Option.some.injEq, exists_eq_left', V.bl.injEq, V.int.injEq, V.ref.injEq, atI_0, atI_1, atI_2, setI_1, setI_2, Bool.not_true, Bool.not_false, Bool.false_eq_true, if_false, if_true, hp]; exact h)); (try dsimp only [gName, tNext, List.set_cons_zero, List.set_cons_succ]))
      (refine evG ?P9 (fun Q h => ?h9) ?_; (case h9 => (simp only [tTest, tOp, tUn, tVar, tC, tCB, tCons, tNil, tAnd, tOr, tNot, tB, tTup, tLst, tIf, tAndV, tOrV, tNotV, tSl, tPart, tNoPart, tCall, iIx_ref, oGt_int, oMod_int, oFdiv_int, oAdd_int, oAdd_str, oSub_int, oMul_int, oLt_int, oGe_int, oLe_int, oPow_int, uNeg_int, oEq_int, oEq_str, oEq_bl, oNe_int, oNe_str, oNe_bl, cInt_int, cInt_bl, cAbs_int, cLen_ref, cList_ref, stL_ref, gName, gSub, gTup, gCons, gNil, rdSeq, List.getElem?_cons_zero, List.getElem?_cons_succ, List.set_cons_zero, List.set_cons_succ, List.cons_append, List.nil_append, Option.some.injEq, exists_eq_left', V.bl.injEq, V.int.injEq, V.ref.injEq, atI_0, atI_1, atI_2, setI_1, setI_2, Bool.not_true, Bool.not_false, Bool.false_eq_true, if_false, if_true, hp]; exact h)); (try dsimp only [gName, tNext, List.set_cons_zero, List.set_cons_succ]))
      refine st_seq (st_asg ?_)
      (refine evE ?P10 (fun Q h => ?h10) ?_; (case h10 => (simp only [tTest, tOp, tUn, tVar, tC, tCB, tCons, tNil, tAnd, tOr, tNot, tB, tTup, tLst, tIf, tAndV, tOrV, tNotV, tSl, tPart, tNoPart, tCall, iIx_ref, oGt_int, oMod_int, oFdiv_int, oAdd_int, oAdd_str, oSub_int, oMul_int, oLt_int, oGe_int, oLe_int, oPow_int, uNeg_int, oEq_int, oEq_str, oEq_bl, oNe_int, oNe_str, oNe_bl, cInt_int, cInt_bl, cAbs_int, cLen_ref, cList_ref, stL_ref, gName, gSub, gTup, gCons, gNil, rdSeq, List.getElem?_cons_zero, List.getElem?_cons_succ, List.set_cons_zero, List.set_cons_succ, List.cons_append, List.nil_append, Option.some.injEq, exists_eq_left', V.bl.injEq, V.int.injEq, V.ref.injEq, atI_0, atI_1, atI_2, setI_1, setI_2, Bool.not_true, Bool.not_false, Bool.false_eq_true, if_false, if_true, hp]; exact h)); (try dsimp only [gName, tNext, List.set_cons_zero, List.set_cons_succ]))
      refine ⟨.of_left (intBits_le_64 (by omega) (by omega)), ?_⟩
      refine st_seq (st_if ?_)
      (refine evT ?P11 (fun Q h => ?h11) ?_; (case h11 => (simp only [tTest, tOp, tUn, tVar, tC, tCB, tCons, tNil, tAnd, tOr, tNot, tB, tTup, tLst, tIf, tAndV, tOrV, tNotV, tSl, tPart, tNoPart, tCall, iIx_ref, oGt_int, oMod_int, oFdiv_int, oAdd_int, oAdd_str, oSub_int, oMul_int, oLt_int, oGe_int, oLe_int, oPow_int, uNeg_int, oEq_int, oEq_str, oEq_bl, oNe_int, oNe_str, oNe_bl, cInt_int, cInt_bl, cAbs_int, cLen_ref, cList_ref, stL_ref, gName, gSub, gTup, gCons, gNil, rdSeq, List.getElem?_cons_zero, List.getElem?_cons_succ, List.set_cons_zero, List.set_cons_succ, List.cons_append, List.nil_append, Option.some.injEq, exists_eq_left', V.bl.injEq, V.int.injEq, V.ref.injEq, atI_0, atI_1, atI_2, setI_1, setI_2, Bool.not_true, Bool.not_false, Bool.false_eq_true, if_false, if_true, hp, upd_same]; exact h)); (try dsimp only [gName, tNext, List.set_cons_zero, List.set_cons_succ]))
      refine ⟨by decide, fun q hq => ?_⟩
      have npl : l ≠ p := by
        rintro rfl
        rw [hp] at hl
        cases cells <;> cases hl
      have hpq : q ≠ p := fun e => by rw [e, upd_same] at hq; cases hq
      have hq' : H q = none := by rw [upd_ne hpq] at hq; exact hq
      have hlq : l ≠ q := fun e => by rw [← e, hl] at hq'; cases hq'
      generalize hH2 : upd (upd H p (.lst [.ref l, .int (turn + 1), .int rest])) q (.lst []) = H2
      have h2p : H2 p = some (.lst [.ref l, .int (turn + 1), .int rest]) := by rw [← hH2, upd_ne hpq.symm, upd_same]
      have h2l : H2 l = some (.lst (cells.map V.int)) := by rw [← hH2, upd_ne hlq, upd_ne npl]; exact hl
      have h2q : H2 q = some (.lst []) := by rw [← hH2, upd_same]
      have k2 : Keep p H H2 := fun b o hb e => by
        rw [← hH2, upd_ne (fun z => by rw [z, hq'] at e; cases e), upd_ne hb]; exact e
      refine ne_nil h2l h2q ⟨_, rfl, ?_⟩
      have tail : ∀ cell : Int, t_law_draw_13 K A { nx := fun _ H' => Q .non H', rt := Q } [some (.ref p), some (.int many), none, some (.int turn), some (.int cell), none, none] H2 := by
        intro cell
        refine st_seq (st_asg ?_)
        (refine evE ?P12 (fun Q h => ?h12) ?_; (case h12 => (simp only [tTest, tOp, tUn, tVar, tC, tCB, tCons, tNil, tAnd, tOr, tNot, tB, tTup, tLst, tIf, tAndV, tOrV, tNotV, tSl, tPart, tNoPart, tCall, iIx_ref, oGt_int, oMod_int, oFdiv_int, oAdd_int, oAdd_str, oSub_int, oMul_int, oLt_int, oGe_int, oLe_int, oPow_int, uNeg_int, oEq_int, oEq_str, oEq_bl, oNe_int, oNe_str, oNe_bl, cInt_int, cInt_bl, cAbs_int, cLen_ref, cList_ref, stL_ref, gName, gSub, gTup, gCons, gNil, rdSeq, List.getElem?_cons_zero, List.getElem?_cons_succ, List.set_cons_zero, List.set_cons_succ, List.cons_append, List.nil_append, Option.some.injEq, exists_eq_left', V.bl.injEq, V.int.injEq, V.ref.injEq, atI_0, atI_1, atI_2, setI_1, setI_2, Bool.not_true, Bool.not_false, Bool.false_eq_true, if_false, if_true]; exact h)); (try dsimp only [gName, tNext, List.set_cons_zero, List.set_cons_succ]))
        have hx := mod_range (x := cell) (m := 2147483549) (by decide)
        refine ⟨by decide, mulok_left (by decide) (by decide), ⟨by decide, by decide, draw_pow1 hx.1 (by omega) ht0 ht1 (by decide) (by decide) (by decide) (by decide)⟩, by decide, ?_⟩
        (try dsimp only [gName, tNext, List.set_cons_zero, List.set_cons_succ])
        generalize hm : ((cell % 2147483549 + 42463 * turn + 1937) ^ Int.toNat 5 % 2147483647) = mixed
        have hmx : 0 ≤ mixed ∧ mixed < 2147483647 := by rw [← hm]; exact mod_range (by decide)
        refine st_seq (st_asg ?_)
        (refine evE ?P13 (fun Q h => ?h13) ?_; (case h13 => (simp only [tTest, tOp, tUn, tVar, tC, tCB, tCons, tNil, tAnd, tOr, tNot, tB, tTup, tLst, tIf, tAndV, tOrV, tNotV, tSl, tPart, tNoPart, tCall, iIx_ref, oGt_int, oMod_int, oFdiv_int, oAdd_int, oAdd_str, oSub_int, oMul_int, oLt_int, oGe_int, oLe_int, oPow_int, uNeg_int, oEq_int, oEq_str, oEq_bl, oNe_int, oNe_str, oNe_bl, cInt_int, cInt_bl, cAbs_int, cLen_ref, cList_ref, stL_ref, gName, gSub, gTup, gCons, gNil, rdSeq, List.getElem?_cons_zero, List.getElem?_cons_succ, List.set_cons_zero, List.set_cons_succ, List.cons_append, List.nil_append, Option.some.injEq, exists_eq_left', V.bl.injEq, V.int.injEq, V.ref.injEq, atI_0, atI_1, atI_2, setI_1, setI_2, Bool.not_true, Bool.not_false, Bool.false_eq_true, if_false, if_true]; exact h)); (try dsimp only [gName, tNext, List.set_cons_zero, List.set_cons_succ]))
        refine ⟨mulok_left (by decide) (by decide), mulok_left (by omega) (by omega), mulok_left (by decide) (by decide), draw_bt ht0 ht1 (by decide) (by decide), ⟨by decide, by decide, draw_pow2 hmx.1 (by omega) ht0 ht1 (by decide) (by decide) (by decide) (by decide) (by decide) (by decide)⟩, by decide, ?_⟩
        (try dsimp only [gName, tNext, List.set_cons_zero, List.set_cons_succ])
        refine st_ret ?_
        (refine evE ?P14 (fun Q h => ?h14) ?_; (case h14 => (simp only [tTest, tOp, tUn, tVar, tC, tCB, tCons, tNil, tAnd, tOr, tNot, tB, tTup, tLst, tIf, tAndV, tOrV, tNotV, tSl, tPart, tNoPart, tCall, iIx_ref, oGt_int, oMod_int, oFdiv_int, oAdd_int, oAdd_str, oSub_int, oMul_int, oLt_int, oGe_int, oLe_int, oPow_int, uNeg_int, oEq_int, oEq_str, oEq_bl, oNe_int, oNe_str, oNe_bl, cInt_int, cInt_bl, cAbs_int, cLen_ref, cList_ref, stL_ref, gName, gSub, gTup, gCons, gNil, rdSeq, List.getElem?_cons_zero, List.getElem?_cons_succ, List.set_cons_zero, List.set_cons_succ, List.cons_append, List.nil_append, Option.some.injEq, exists_eq_left', V.bl.injEq, V.int.injEq, V.ref.injEq, atI_0, atI_1, atI_2, setI_1, setI_2, Bool.not_true, Bool.not_false, Bool.false_eq_true, if_false, if_true]; exact h)); (try dsimp only [gName, tNext, List.set_cons_zero, List.set_cons_succ]))
        refine ⟨⟨by decide, by decide⟩, hm0, ?_⟩
        exact k _ (turn + 1) _ _ (mod_range hm0).1 (mod_range hm0).2 (by omega) (by omega) hr0 h2p k2
      -- both ways go on with a cell
      have go : ∀ cell : Int, t_law_draw_9 K A { nx := fun _ H' => Q .non H', rt := Q } [some (.ref p), some (.int many), none, some (.int turn), some (.int cell), none, none] H2 := by
        intro cell
        refine st_seq (st_if ?_)
        (refine evT ?P15 (fun Q h => ?h15) ?_; (case h15 => (simp only [tTest, tOp, tUn, tVar, tC, tCB, tCons, tNil, tAnd, tOr, tNot, tB, tTup, tLst, tIf, tAndV, tOrV, tNotV, tSl, tPart, tNoPart, tCall, iIx_ref, oGt_int, oMod_int, oFdiv_int, oAdd_int, oAdd_str, oSub_int, oMul_int, oLt_int, oGe_int, oLe_int, oPow_int, uNeg_int, oEq_int, oEq_str, oEq_bl, oNe_int, oNe_str, oNe_bl, cInt_int, cInt_bl, cAbs_int, cLen_ref, cList_ref, stL_ref, gName, gSub, gTup, gCons, gNil, rdSeq, List.getElem?_cons_zero, List.getElem?_cons_succ, List.set_cons_zero, List.set_cons_succ, List.cons_append, List.nil_append, Option.some.injEq, exists_eq_left', V.bl.injEq, V.int.injEq, V.ref.injEq, atI_0, atI_1, atI_2, setI_1, setI_2, Bool.not_true, Bool.not_false, Bool.false_eq_true, if_false, if_true, h2p, h2l]; exact h)); (try dsimp only [gName, tNext, List.set_cons_zero, List.set_cons_succ]))
        refine ite_dec (fun hc1 => ?_) (fun hc1 => ?_)
        all_goals (try dsimp only [gName, tNext, List.set_cons_zero, List.set_cons_succ])
        · refine ⟨⟨by decide, by decide, by decide⟩, ?_⟩
          refine ite_dec (fun hc2 => ?_) (fun hc2 => ?_)
          all_goals (try dsimp only [gName, tNext, List.set_cons_zero, List.set_cons_succ])
          · refine st_seq (st_asg ?_)
            (refine evE ?P16 (fun Q h => ?h16) ?_; (case h16 => (simp only [tTest, tOp, tUn, tVar, tC, tCB, tCons, tNil, tAnd, tOr, tNot, tB, tTup, tLst, tIf, tAndV, tOrV, tNotV, tSl, tPart, tNoPart, tCall, iIx_ref, oGt_int, oMod_int, oFdiv_int, oAdd_int, oAdd_str, oSub_int, oMul_int, oLt_int, oGe_int, oLe_int, oPow_int, uNeg_int, oEq_int, oEq_str, oEq_bl, oNe_int, oNe_str, oNe_bl, cInt_int, cInt_bl, cAbs_int, cLen_ref, cList_ref, stL_ref, gName, gSub, gTup, gCons, gNil, rdSeq, List.getElem?_cons_zero, List.getElem?_cons_succ, List.set_cons_zero, List.set_cons_succ, List.cons_append, List.nil_append, Option.some.injEq, exists_eq_left', V.bl.injEq, V.int.injEq, V.ref.injEq, atI_0, atI_1, atI_2, setI_1, setI_2, Bool.not_true, Bool.not_false, Bool.false_eq_true, if_false, if_true]; exact h)); (try dsimp only [gName, tNext, List.set_cons_zero, List.set_cons_succ]))
            refine ⟨⟨by decide, by decide, by decide⟩, mulok_left (by decide) (by decide), ?_⟩
            (try dsimp only [gName, tNext, List.set_cons_zero, List.set_cons_succ])
            refine st_seq (st_asg ?_)
            (refine evE ?P17 (fun Q h => ?h17) ?_; (case h17 => (simp only [tTest, tOp, tUn, tVar, tC, tCB, tCons, tNil, tAnd, tOr, tNot, tB, tTup, tLst, tIf, tAndV, tOrV, tNotV, tSl, tPart, tNoPart, tCall, iIx_ref, oGt_int, oMod_int, oFdiv_int, oAdd_int, oAdd_str, oSub_int, oMul_int, oLt_int, oGe_int, oLe_int, oPow_int, uNeg_int, oEq_int, oEq_str, oEq_bl, oNe_int, oNe_str, oNe_bl, cInt_int, cInt_bl, cAbs_int, cLen_ref, cList_ref, stL_ref, gName, gSub, gTup, gCons, gNil, rdSeq, List.getElem?_cons_zero, List.getElem?_cons_succ, List.set_cons_zero, List.set_cons_succ, List.cons_append, List.nil_append, Option.some.injEq, exists_eq_left', V.bl.injEq, V.int.injEq, V.ref.injEq, atI_0, atI_1, atI_2, setI_1, setI_2, Bool.not_true, Bool.not_false, Bool.false_eq_true, if_false, if_true]; exact h)); (try dsimp only [gName, tNext, List.set_cons_zero, List.set_cons_succ]))
            refine ⟨⟨hm0, hm1⟩, ?_⟩
            (refine evG ?P18 (fun Q h => ?h18) ?_; (case h18 => (simp only [tTest, tOp, tUn, tVar, tC, tCB, tCons, tNil, tAnd, tOr, tNot, tB, tTup, tLst, tIf, tAndV, tOrV, tNotV, tSl, tPart, tNoPart, tCall, iIx_ref, oGt_int, oMod_int, oFdiv_int, oAdd_int, oAdd_str, oSub_int, oMul_int, oLt_int, oGe_int, oLe_int, oPow_int, uNeg_int, oEq_int, oEq_str, oEq_bl, oNe_int, oNe_str, oNe_bl, cInt_int, cInt_bl, cAbs_int, cLen_ref, cList_ref, stL_ref, gName, gSub, gTup, gCons, gNil, rdSeq, List.getElem?_cons_zero, List.getElem?_cons_succ, List.set_cons_zero, List.set_cons_succ, List.cons_append, List.nil_append, Option.some.injEq, exists_eq_left', V.bl.injEq, V.int.injEq, V.ref.injEq, atI_0, atI_1, atI_2, setI_1, setI_2, Bool.not_true, Bool.not_false, Bool.false_eq_true, if_false, if_true, h2p]; exact h)); (try dsimp only [gName, tNext, List.set_cons_zero, List.set_cons_succ]))
            refine st_ret ?_
            (refine evE ?P19 (fun Q h => ?h19) ?_; (case h19 => (simp only [tTest, tOp, tUn, tVar, tC, tCB, tCons, tNil, tAnd, tOr, tNot, tB, tTup, tLst, tIf, tAndV, tOrV, tNotV, tSl, tPart, tNoPart, tCall, iIx_ref, oGt_int, oMod_int, oFdiv_int, oAdd_int, oAdd_str, oSub_int, oMul_int, oLt_int, oGe_int, oLe_int, oPow_int, uNeg_int, oEq_int, oEq_str, oEq_bl, oNe_int, oNe_str, oNe_bl, cInt_int, cInt_bl, cAbs_int, cLen_ref, cList_ref, stL_ref, gName, gSub, gTup, gCons, gNil, rdSeq, List.getElem?_cons_zero, List.getElem?_cons_succ, List.set_cons_zero, List.set_cons_succ, List.cons_append, List.nil_append, Option.some.injEq, exists_eq_left', V.bl.injEq, V.int.injEq, V.ref.injEq, atI_0, atI_1, atI_2, setI_1, setI_2, Bool.not_true, Bool.not_false, Bool.false_eq_true, if_false, if_true]; exact h)); (try dsimp only [gName, tNext, List.set_cons_zero, List.set_cons_succ]))
            refine ⟨hm0, ?_⟩
            refine k _ (turn + 1) _ _ (mod_range hm0).1 (mod_range hm0).2 (by omega) (by omega) (Int.ediv_nonneg ?_ (by omega)) upd_same fun b o hb e => by rw [upd_ne hb]; exact k2 b o hb e
            have e18 : (10 : Int) ^ Int.toNat 18 = 1000000000000000000 := by decide
            rw [e18] at hc2 ⊢
            split <;> split at hc2 <;> split <;> omega
          · exact tail cell
        · exact tail cell
      refine ite_b (fun hb => ?_) (fun _ => go _)
      refine st_asg ?_
      have hne : cells ≠ [] := by
        rintro rfl
        cases hb
      have hpos : 0 < cells.length := List.length_pos_iff.mpr hne
      have hi : turn % (cells.length : Int) < cells.length := (mod_range (by omega)).2
      have hi0 : 0 ≤ turn % (cells.length : Int) := (mod_range (by omega)).1
      have hat : atI (cells.map V.int) (turn % ((cells.map V.int).length : Int)) = some (.int (cells.getD (turn % (cells.length : Int)).toNat 0)) := by
        refine atI_nat' (by rw [List.length_map]; exact hi0) ?_
        rw [List.length_map, List.getElem?_map, List.getD_eq_getElem?_getD, List.getElem?_eq_getElem (by omega)]
        rfl
      (refine evE ?P20 (fun Q h => ?h20) ?_; (case h20 => (simp only [tTest, tOp, tUn, tVar, tC, tCB, tCons, tNil, tAnd, tOr, tNot, tB, tTup, tLst, tIf, tAndV, tOrV, tNotV, tSl, tPart, tNoPart, tCall, iIx_ref, oGt_int, oMod_int, oFdiv_int, oAdd_int, oAdd_str, oSub_int, oMul_int, oLt_int, oGe_int, oLe_int, oPow_int, uNeg_int, oEq_int, oEq_str, oEq_bl, oNe_int, oNe_str, oNe_bl, cInt_int, cInt_bl, cAbs_int, cLen_ref, cList_ref, stL_ref, gName, gSub, gTup, gCons, gNil, rdSeq, List.getElem?_cons_zero, List.getElem?_cons_succ, List.set_cons_zero, List.set_cons_succ, List.cons_append, List.nil_append, Option.some.injEq, exists_eq_left', V.bl.injEq, V.int.injEq, V.ref.injEq, atI_0, atI_1, atI_2, setI_1, setI_2, Bool.not_true, Bool.not_false, Bool.false_eq_true, if_false, if_true, h2p, h2l, hat]; exact h)); (try dsimp only [gName, tNext, List.set_cons_zero, List.set_cons_succ]))
      refine ⟨by rw [List.length_map]; omega, ?_⟩
      exact go _
  · exact h.elim
theorem pure_law_pick {K : PySem.W.Frag} {A : Ad} {vs : List V} {H : Hp} {Q : VK} {E : XK} (h : sp_law_pick K A vs H Q E) : (t_law_pick_0 K A) { nx := fun _ H' => Q .non H', rt := Q } (start ["_law_pen_here", "_law_some"] vs) H := by
  unfold sp_law_pick spPickL at h
  split at h
  · rename_i p s
    obtain ⟨l, n, xs, hp, hn, hs, hsp, hx, hl, k⟩ := h
    show (t_law_pick_0 K A) _ [some (.ref p), some (.ref s)] H
    refine st_ret ?_
    (refine evE ?P21 (fun Q h => ?h21) ?_; (case h21 => (simp only [tTest, tOp, tUn, tVar, tC, tCB, tCons, tNil, tAnd, tOr, tNot, tB, tTup, tLst, tIf, tAndV, tOrV, tNotV, tSl, tPart, tNoPart, tCall, iIx_ref, oGt_int, oMod_int, oFdiv_int, oAdd_int, oAdd_str, oSub_int, oMul_int, oLt_int, oGe_int, oLe_int, oPow_int, uNeg_int, oEq_int, oEq_str, oEq_bl, oNe_int, oNe_str, oNe_bl, cInt_int, cInt_bl, cAbs_int, cLen_ref, cList_ref, stL_ref, gName, gSub, gTup, gCons, gNil, rdSeq, List.getElem?_cons_zero, List.getElem?_cons_succ, List.set_cons_zero, List.set_cons_succ, List.cons_append, List.nil_append, Option.some.injEq, exists_eq_left', V.bl.injEq, V.int.injEq, V.ref.injEq, atI_0, atI_1, atI_2, setI_1, setI_2, Bool.not_true, Bool.not_false, Bool.false_eq_true, if_false, if_true, hs]; exact h)); (try dsimp only [gName, tNext, List.set_cons_zero, List.set_cons_succ]))
    have hpos : 0 < xs.length := List.length_pos_iff.mpr hx
    refine ⟨l, n, hp, hn, by omega, log_small (by omega) (by omega), fun d H' h0 h1 hp' kp => ?_⟩
    have e : atI xs d = some xs[d.toNat] := atI_nat' h0 (List.getElem?_eq_getElem (by omega))
    have hs' := kp s _ hsp hs
    simp only [tTest, tOp, tUn, tVar, tC, tCB, tCons, tNil, tAnd, tOr, tNot, tB, tTup, tLst, tIf, tAndV, tOrV, tNotV, tSl, tPart, tNoPart, tCall, iIx_ref, oGt_int, oMod_int, oFdiv_int, oAdd_int, oAdd_str, oSub_int, oMul_int, oLt_int, oGe_int, oLe_int, oPow_int, uNeg_int, oEq_int, oEq_str, oEq_bl, oNe_int, oNe_str, oNe_bl, cInt_int, cInt_bl, cAbs_int, cLen_ref, cList_ref, stL_ref, gName, gSub, gTup, gCons, gNil, rdSeq, List.getElem?_cons_zero, List.getElem?_cons_succ, List.set_cons_zero, List.set_cons_succ, List.cons_append, List.nil_append, Option.some.injEq, exists_eq_left', V.bl.injEq, V.int.injEq, V.ref.injEq, atI_0, atI_1, atI_2, setI_1, setI_2, Bool.not_true, Bool.not_false, Bool.false_eq_true, if_false, if_true, hs', e]
    exact k _ _ (List.getElem_mem _) hp' kp
  · exact h.elim

inductive P10 | Enough | Fits | Cut | Never | Beyond | EndlessCut | Table | Ring | Mean | Lengths deriving DecidableEq
def P10.c (A : Ad) : P10 → Addr
  | .Enough => A.c_Enough
  | .Fits => A.c_Fits
  | .Cut => A.c_Cut
  | .Never => A.c_Never
  | .Beyond => A.c_Beyond
  | .EndlessCut => A.c_EndlessCut
  | .Table => A.c_Table
  | .Ring => A.c_Ring
  | .Mean => A.c_Mean
  | .Lengths => A.c_Lengths
def P10.names : P10 → List Str
  | .Enough => ["number", "heights", "text"]
  | .Fits => ["number", "rises", "losses", "text"]
  | .Cut => ["number", "heights", "text", "at"]
  | .Never => ["ahead", "ring", "behind"]
  | .Beyond => ["ahead", "rising", "between", "falling", "behind"]
  | .EndlessCut => ["text", "at", "ring", "behind"]
  | .Table => ["growths"]
  | .Ring => ["state", "text"]
  | .Mean => ["rate", "ring", "heights"]
  | .Lengths => ["first", "steps", "tails"]
def P10.verd : P10 → Bool
  | .Enough => true
  | .Fits => true
  | .Cut => true
  | .Never => true
  | .Beyond => true
  | .EndlessCut => true
  | .Table => false
  | .Ring => false
  | .Mean => false
  | .Lengths => false
def P10.yes : P10 → Bool
  | .Enough => true
  | .Fits => true
  | .Cut => true
  | .Never => false
  | .Beyond => false
  | .EndlessCut => false
  | .Table => false
  | .Ring => false
  | .Mean => false
  | .Lengths => false
def P10.val (x y z : W9) : P10 → List W9
  | .Enough => [x, y, z]
  | .Fits => [x, y, z, x]
  | .Cut => [x, y, z, x]
  | .Never => [x, y, z]
  | .Beyond => [x, y, z, x, y]
  | .EndlessCut => [x, y, z, x]
  | .Table => [x]
  | .Ring => [x, y]
  | .Mean => [x, y, z]
  | .Lengths => [x, y, z]
structure KF (K : PySem.W.Frag) (A : Ad) : Prop where
  ty : ∀ i : P10, InsTy K (i.c A)
  na : ∀ i : P10, ∀ n ∈ i.names, NoAttr K (i.c A) n
  kit : ∀ i j : P10, PySem.W.kitOne K (.ref (i.c A)) (.ref (j.c A)) = some (decide (i = j))
  kv : ∀ i : P10, i.verd = true → PySem.W.kitOne K (.ref (i.c A)) (.ref A.c_Verdict) = some true
  kt : ∀ i : P10, ∀ t ∈ ["tuple", "list"], PySem.W.kitOne K (.type t) (.ref (i.c A)) = some false
  nf : ∀ i j : P10, PySem.W.notFirst K (i.c A) (.ref (j.c A)) = true
  nt : ∀ i : P10, ∀ t ∈ ["tuple", "list"], PySem.W.notFirst K (i.c A) (.type t) = true
/-- a paper of class i with these values -/
def Pap (A : Ad) (H : Hp) (w : Thr) (i : P10) (vs : List W9) (a : Addr) : Prop := List.length vs = i.names.length ∧ ∃ dx, H a = some (.ins (i.c A) dx (i.names.zip (vs.map (W9.v w))))
theorem Pap.grow {A : Ad} {H H' : Hp} {w : Thr} {i : P10} {vs : List W9} {a : Addr} (p : Pap A H w i vs a) (g : Grow H H') : Pap A H' w i vs a := ⟨p.1, p.2.elim fun dx h => ⟨dx, g _ _ h⟩⟩
theorem Pap.ty {A : Ad} {H : Hp} {w : Thr} {i : P10} {vs : List W9} {a : Addr} (p : Pap A H w i vs a) : tyF H (.ref a) = some (.ref (i.c A)) := by
  obtain ⟨_, dx, h⟩ := p
  simp only [tyF, h]
theorem Pap.isI {A : Ad} {H : Hp} {w : Thr} {i : P10} {vs : List W9} {a : Addr} (p : Pap A H w i vs a) : isIns (i.c A) H (.ref a) := by
  obtain ⟨_, dx, h⟩ := p
  exact isIns_of h
theorem fld_of {K : PySem.W.Frag} {C a dx : Addr} {H : Hp} {fs : List (Str × V)} {f : Str} {v : V} {Q : VK} (cl : Cls K C) (na : NoAttr K C f) (h : H a = some (.ins C dx fs)) (e : fs.lookup f = some v) (k : Q v H) : fldR K (.ref a) f H Q := by
  rw [fldR_eq h cl na e]; exact k
theorem len1 {α : Type} {l : List α} (h : List.length l = 1) : ∃ a, l = [a] := by
  match l, h with | [a], _ => exact ⟨a, rfl⟩
theorem len2 {α : Type} {l : List α} (h : List.length l = 2) : ∃ a b, l = [a, b] := by
  match l, h with | [a, b], _ => exact ⟨a, b, rfl⟩
theorem len3 {α : Type} {l : List α} (h : List.length l = 3) : ∃ a b c, l = [a, b, c] := by
  match l, h with | [a, b, c], _ => exact ⟨a, b, c, rfl⟩
theorem len4 {α : Type} {l : List α} (h : List.length l = 4) : ∃ a b c d, l = [a, b, c, d] := by
  match l, h with | [a, b, c, d], _ => exact ⟨a, b, c, d, rfl⟩
theorem len5 {α : Type} {l : List α} (h : List.length l = 5) : ∃ a b c d e, l = [a, b, c, d, e] := by
  match l, h with | [a, b, c, d, e], _ => exact ⟨a, b, c, d, e, rfl⟩
/-- x == y: x a paper of class i -/
def spEqP (i : P10) (K : PySem.W.Frag) (A : Ad) : Sp := fun xs H Q _ => match xs with
  | [.ref a, y] => ∃ w vs, Sts H w ∧ Pap A H w i vs a ∧ ((∃ b us, y = .ref b ∧ Pap A H w i us b ∧ ∀ H', Grow H H' → Q (.bl (decide (vs = us))) H') ∨ ((∃ t, tyF H y = some t ∧ tyOk K t ∧ PySem.W.kitOne K t (.ref (i.c A)) = some false) ∧ Q (.bl false) H))
  | _ => False
/-- bool(x) -/
def spBoolP (i : P10) (A : Ad) : Sp := fun xs H Q _ => match xs with
  | [.ref a] => isIns (i.c A) H (.ref a) ∧ Q (.bl i.yes) H
  | _ => False

def sp_Enough_init (K : PySem.W.Frag) (A : Ad) : Sp := fun xs H Q _ => match xs with
  | [.ref x, v0, v1, v2] => ∃ dx, Cls K A.c_Enough ∧ (∀ n ∈ P10.Enough.names, NoAttr K A.c_Enough n) ∧ H x = some (.ins A.c_Enough dx []) ∧ ∀ H', Keep x H H' → H' x = some (.ins A.c_Enough dx [("number", v0), ("heights", v1), ("text", v2)]) → Q .non H'
  | _ => False
def t_Enough_init_2 (K : PySem.W.Frag) (A : Ad) : TS := (sFld K (tVar 0) (tVar 3) "text")
def t_Enough_init_1 (K : PySem.W.Frag) (A : Ad) : TS := (tSeq (sFld K (tVar 0) (tVar 2) "heights") (t_Enough_init_2 K A))
def t_Enough_init_0 (K : PySem.W.Frag) (A : Ad) : TS := (tSeq (sFld K (tVar 0) (tVar 1) "number") (t_Enough_init_1 K A))

theorem pure_Enough_init {K : PySem.W.Frag} {A : Ad} {xs : List V} {H : Hp} {Q : VK} {E : XK} (h : sp_Enough_init K A xs H Q E) : (t_Enough_init_0 K A) { nx := fun _ H' => Q .non H', rt := Q } (start ["self", "number", "heights", "text"] xs) H := by
  unfold sp_Enough_init at h
  split at h
  · rename_i x v0 v1 v2
    obtain ⟨dx, cl, na, hx, k⟩ := h
    show (t_Enough_init_0 K A) _ [some (.ref x), some (v0), some (v1), some (v2)] H
    refine st_seq (st_fld ?_)
    (refine evE ?P22 (fun Q h => ?h22) ?_; (case h22 => (simp only [tTest, tOp, tUn, tVar, tC, tCB, tCons, tNil, tAnd, tOr, tNot, tB, tTup, tLst, tIf, tAndV, tOrV, tNotV, tSl, tPart, tNoPart, tCall, iIx_ref, oGt_int, oMod_int, oFdiv_int, oAdd_int, oAdd_str, oSub_int, oMul_int, oLt_int, oGe_int, oLe_int, oPow_int, uNeg_int, oEq_int, oEq_str, oEq_bl, oNe_int, oNe_str, oNe_bl, cInt_int, cInt_bl, cAbs_int, cLen_ref, cList_ref, stL_ref, gName, gSub, gTup, gCons, gNil, rdSeq, List.getElem?_cons_zero, List.getElem?_cons_succ, List.set_cons_zero, List.set_cons_succ, List.cons_append, List.nil_append, Option.some.injEq, exists_eq_left', V.bl.injEq, V.int.injEq, V.ref.injEq, atI_0, atI_1, atI_2, setI_1, setI_2, Bool.not_true, Bool.not_false, Bool.false_eq_true, if_false, if_true]; exact h)); (try dsimp only [gName, tNext, List.set_cons_zero, List.set_cons_succ]))
    (refine evE ?P23 (fun Q h => ?h23) ?_; (case h23 => (simp only [tTest, tOp, tUn, tVar, tC, tCB, tCons, tNil, tAnd, tOr, tNot, tB, tTup, tLst, tIf, tAndV, tOrV, tNotV, tSl, tPart, tNoPart, tCall, iIx_ref, oGt_int, oMod_int, oFdiv_int, oAdd_int, oAdd_str, oSub_int, oMul_int, oLt_int, oGe_int, oLe_int, oPow_int, uNeg_int, oEq_int, oEq_str, oEq_bl, oNe_int, oNe_str, oNe_bl, cInt_int, cInt_bl, cAbs_int, cLen_ref, cList_ref, stL_ref, gName, gSub, gTup, gCons, gNil, rdSeq, List.getElem?_cons_zero, List.getElem?_cons_succ, List.set_cons_zero, List.set_cons_succ, List.cons_append, List.nil_append, Option.some.injEq, exists_eq_left', V.bl.injEq, V.int.injEq, V.ref.injEq, atI_0, atI_1, atI_2, setI_1, setI_2, Bool.not_true, Bool.not_false, Bool.false_eq_true, if_false, if_true]; exact h)); (try dsimp only [gName, tNext, List.set_cons_zero, List.set_cons_succ]))
    refine ⟨x, _, dx, _, rfl, hx, cl, na _ (by decide), by show 0 < 1000; decide, ?_⟩
    show t_Enough_init_1 K A _ _ (upd H x (.ins A.c_Enough dx [("number", v0)]))
    have kp1 : Keep x H (upd H x (.ins A.c_Enough dx [("number", v0)])) := fun b o hb e => by rw [upd_ne hb]; exact e
    have hx : upd H x (.ins A.c_Enough dx [("number", v0)]) x = some (.ins A.c_Enough dx [("number", v0)]) := upd_same
    generalize upd H x (.ins A.c_Enough dx [("number", v0)]) = H1 at *
    refine st_seq (st_fld ?_)
    (refine evE ?P24 (fun Q h => ?h24) ?_; (case h24 => (simp only [tTest, tOp, tUn, tVar, tC, tCB, tCons, tNil, tAnd, tOr, tNot, tB, tTup, tLst, tIf, tAndV, tOrV, tNotV, tSl, tPart, tNoPart, tCall, iIx_ref, oGt_int, oMod_int, oFdiv_int, oAdd_int, oAdd_str, oSub_int, oMul_int, oLt_int, oGe_int, oLe_int, oPow_int, uNeg_int, oEq_int, oEq_str, oEq_bl, oNe_int, oNe_str, oNe_bl, cInt_int, cInt_bl, cAbs_int, cLen_ref, cList_ref, stL_ref, gName, gSub, gTup, gCons, gNil, rdSeq, List.getElem?_cons_zero, List.getElem?_cons_succ, List.set_cons_zero, List.set_cons_succ, List.cons_append, List.nil_append, Option.some.injEq, exists_eq_left', V.bl.injEq, V.int.injEq, V.ref.injEq, atI_0, atI_1, atI_2, setI_1, setI_2, Bool.not_true, Bool.not_false, Bool.false_eq_true, if_false, if_true]; exact h)); (try dsimp only [gName, tNext, List.set_cons_zero, List.set_cons_succ]))
    (refine evE ?P25 (fun Q h => ?h25) ?_; (case h25 => (simp only [tTest, tOp, tUn, tVar, tC, tCB, tCons, tNil, tAnd, tOr, tNot, tB, tTup, tLst, tIf, tAndV, tOrV, tNotV, tSl, tPart, tNoPart, tCall, iIx_ref, oGt_int, oMod_int, oFdiv_int, oAdd_int, oAdd_str, oSub_int, oMul_int, oLt_int, oGe_int, oLe_int, oPow_int, uNeg_int, oEq_int, oEq_str, oEq_bl, oNe_int, oNe_str, oNe_bl, cInt_int, cInt_bl, cAbs_int, cLen_ref, cList_ref, stL_ref, gName, gSub, gTup, gCons, gNil, rdSeq, List.getElem?_cons_zero, List.getElem?_cons_succ, List.set_cons_zero, List.set_cons_succ, List.cons_append, List.nil_append, Option.some.injEq, exists_eq_left', V.bl.injEq, V.int.injEq, V.ref.injEq, atI_0, atI_1, atI_2, setI_1, setI_2, Bool.not_true, Bool.not_false, Bool.false_eq_true, if_false, if_true]; exact h)); (try dsimp only [gName, tNext, List.set_cons_zero, List.set_cons_succ]))
    refine ⟨x, _, dx, _, rfl, hx, cl, na _ (by decide), by show 1 < 1000; decide, ?_⟩
    show t_Enough_init_2 K A _ _ (upd H1 x (.ins A.c_Enough dx [("number", v0), ("heights", v1)]))
    have kp2 : Keep x H (upd H1 x (.ins A.c_Enough dx [("number", v0), ("heights", v1)])) := fun b o hb e => by rw [upd_ne hb]; exact kp1 b o hb e
    have hx : upd H1 x (.ins A.c_Enough dx [("number", v0), ("heights", v1)]) x = some (.ins A.c_Enough dx [("number", v0), ("heights", v1)]) := upd_same
    generalize upd H1 x (.ins A.c_Enough dx [("number", v0), ("heights", v1)]) = H2 at *
    refine st_fld ?_
    (refine evE ?P26 (fun Q h => ?h26) ?_; (case h26 => (simp only [tTest, tOp, tUn, tVar, tC, tCB, tCons, tNil, tAnd, tOr, tNot, tB, tTup, tLst, tIf, tAndV, tOrV, tNotV, tSl, tPart, tNoPart, tCall, iIx_ref, oGt_int, oMod_int, oFdiv_int, oAdd_int, oAdd_str, oSub_int, oMul_int, oLt_int, oGe_int, oLe_int, oPow_int, uNeg_int, oEq_int, oEq_str, oEq_bl, oNe_int, oNe_str, oNe_bl, cInt_int, cInt_bl, cAbs_int, cLen_ref, cList_ref, stL_ref, gName, gSub, gTup, gCons, gNil, rdSeq, List.getElem?_cons_zero, List.getElem?_cons_succ, List.set_cons_zero, List.set_cons_succ, List.cons_append, List.nil_append, Option.some.injEq, exists_eq_left', V.bl.injEq, V.int.injEq, V.ref.injEq, atI_0, atI_1, atI_2, setI_1, setI_2, Bool.not_true, Bool.not_false, Bool.false_eq_true, if_false, if_true]; exact h)); (try dsimp only [gName, tNext, List.set_cons_zero, List.set_cons_succ]))
    (refine evE ?P27 (fun Q h => ?h27) ?_; (case h27 => (simp only [tTest, tOp, tUn, tVar, tC, tCB, tCons, tNil, tAnd, tOr, tNot, tB, tTup, tLst, tIf, tAndV, tOrV, tNotV, tSl, tPart, tNoPart, tCall, iIx_ref, oGt_int, oMod_int, oFdiv_int, oAdd_int, oAdd_str, oSub_int, oMul_int, oLt_int, oGe_int, oLe_int, oPow_int, uNeg_int, oEq_int, oEq_str, oEq_bl, oNe_int, oNe_str, oNe_bl, cInt_int, cInt_bl, cAbs_int, cLen_ref, cList_ref, stL_ref, gName, gSub, gTup, gCons, gNil, rdSeq, List.getElem?_cons_zero, List.getElem?_cons_succ, List.set_cons_zero, List.set_cons_succ, List.cons_append, List.nil_append, Option.some.injEq, exists_eq_left', V.bl.injEq, V.int.injEq, V.ref.injEq, atI_0, atI_1, atI_2, setI_1, setI_2, Bool.not_true, Bool.not_false, Bool.false_eq_true, if_false, if_true]; exact h)); (try dsimp only [gName, tNext, List.set_cons_zero, List.set_cons_succ]))
    refine ⟨x, _, dx, _, rfl, hx, cl, na _ (by decide), by show 2 < 1000; decide, ?_⟩
    exact k _ (fun b o hb e => by rw [upd_ne hb]; exact kp2 b o hb e) upd_same
  · exact h.elim

def sp_Fits_init (K : PySem.W.Frag) (A : Ad) : Sp := fun xs H Q _ => match xs with
  | [.ref x, v0, v1, v2, v3] => ∃ dx, Cls K A.c_Fits ∧ (∀ n ∈ P10.Fits.names, NoAttr K A.c_Fits n) ∧ H x = some (.ins A.c_Fits dx []) ∧ ∀ H', Keep x H H' → H' x = some (.ins A.c_Fits dx [("number", v0), ("rises", v1), ("losses", v2), ("text", v3)]) → Q .non H'
  | _ => False
def t_Fits_init_3 (K : PySem.W.Frag) (A : Ad) : TS := (sFld K (tVar 0) (tVar 4) "text")
def t_Fits_init_2 (K : PySem.W.Frag) (A : Ad) : TS := (tSeq (sFld K (tVar 0) (tVar 3) "losses") (t_Fits_init_3 K A))
def t_Fits_init_1 (K : PySem.W.Frag) (A : Ad) : TS := (tSeq (sFld K (tVar 0) (tVar 2) "rises") (t_Fits_init_2 K A))
def t_Fits_init_0 (K : PySem.W.Frag) (A : Ad) : TS := (tSeq (sFld K (tVar 0) (tVar 1) "number") (t_Fits_init_1 K A))

theorem pure_Fits_init {K : PySem.W.Frag} {A : Ad} {xs : List V} {H : Hp} {Q : VK} {E : XK} (h : sp_Fits_init K A xs H Q E) : (t_Fits_init_0 K A) { nx := fun _ H' => Q .non H', rt := Q } (start ["self", "number", "rises", "losses", "text"] xs) H := by
  unfold sp_Fits_init at h
  split at h
  · rename_i x v0 v1 v2 v3
    obtain ⟨dx, cl, na, hx, k⟩ := h
    show (t_Fits_init_0 K A) _ [some (.ref x), some (v0), some (v1), some (v2), some (v3)] H
    refine st_seq (st_fld ?_)
    (refine evE ?P28 (fun Q h => ?h28) ?_; (case h28 => (simp only [tTest, tOp, tUn, tVar, tC, tCB, tCons, tNil, tAnd, tOr, tNot, tB, tTup, tLst, tIf, tAndV, tOrV, tNotV, tSl, tPart, tNoPart, tCall, iIx_ref, oGt_int, oMod_int, oFdiv_int, oAdd_int, oAdd_str, oSub_int, oMul_int, oLt_int, oGe_int, oLe_int, oPow_int, uNeg_int, oEq_int, oEq_str, oEq_bl, oNe_int, oNe_str, oNe_bl, cInt_int, cInt_bl, cAbs_int, cLen_ref, cList_ref, stL_ref, gName, gSub, gTup, gCons, gNil, rdSeq, List.getElem?_cons_zero, List.getElem?_cons_succ, List.set_cons_zero, List.set_cons_succ, List.cons_append, List.nil_append, Option.some.injEq, exists_eq_left', V.bl.injEq, V.int.injEq, V.ref.injEq, atI_0, atI_1, atI_2, setI_1, setI_2, Bool.not_true, Bool.not_false, Bool.false_eq_true, if_false, if_true]; exact h)); (try dsimp only [gName, tNext, List.set_cons_zero, List.set_cons_succ]))
    (refine evE ?P29 (fun Q h => ?h29) ?_; (case h29 => (simp only [tTest, tOp, tUn, tVar, tC, tCB, tCons, tNil, tAnd, tOr, tNot, tB, tTup, tLst, tIf, tAndV, tOrV, tNotV, tSl, tPart, tNoPart, tCall, iIx_ref, oGt_int, oMod_int, oFdiv_int, oAdd_int, oAdd_str, oSub_int, oMul_int, oLt_int, oGe_int, oLe_int, oPow_int, uNeg_int, oEq_int, oEq_str, oEq_bl, oNe_int, oNe_str, oNe_bl, cInt_int, cInt_bl, cAbs_int, cLen_ref, cList_ref, stL_ref, gName, gSub, gTup, gCons, gNil, rdSeq, List.getElem?_cons_zero, List.getElem?_cons_succ, List.set_cons_zero, List.set_cons_succ, List.cons_append, List.nil_append, Option.some.injEq, exists_eq_left', V.bl.injEq, V.int.injEq, V.ref.injEq, atI_0, atI_1, atI_2, setI_1, setI_2, Bool.not_true, Bool.not_false, Bool.false_eq_true, if_false, if_true]; exact h)); (try dsimp only [gName, tNext, List.set_cons_zero, List.set_cons_succ]))
    refine ⟨x, _, dx, _, rfl, hx, cl, na _ (by decide), by show 0 < 1000; decide, ?_⟩
    show t_Fits_init_1 K A _ _ (upd H x (.ins A.c_Fits dx [("number", v0)]))
    have kp1 : Keep x H (upd H x (.ins A.c_Fits dx [("number", v0)])) := fun b o hb e => by rw [upd_ne hb]; exact e
    have hx : upd H x (.ins A.c_Fits dx [("number", v0)]) x = some (.ins A.c_Fits dx [("number", v0)]) := upd_same
    generalize upd H x (.ins A.c_Fits dx [("number", v0)]) = H1 at *
    refine st_seq (st_fld ?_)
    (refine evE ?P30 (fun Q h => ?h30) ?_; (case h30 => (simp only [tTest, tOp, tUn, tVar, tC, tCB, tCons, tNil, tAnd, tOr, tNot, tB, tTup, tLst, tIf, tAndV, tOrV, tNotV, tSl, tPart, tNoPart, tCall, iIx_ref, oGt_int, oMod_int, oFdiv_int, oAdd_int, oAdd_str, oSub_int, oMul_int, oLt_int, oGe_int, oLe_int, oPow_int, uNeg_int, oEq_int, oEq_str, oEq_bl, oNe_int, oNe_str, oNe_bl, cInt_int, cInt_bl, cAbs_int, cLen_ref, cList_ref, stL_ref, gName, gSub, gTup, gCons, gNil, rdSeq, List.getElem?_cons_zero, List.getElem?_cons_succ, List.set_cons_zero, List.set_cons_succ, List.cons_append, List.nil_append, Option.some.injEq, exists_eq_left', V.bl.injEq, V.int.injEq, V.ref.injEq, atI_0, atI_1, atI_2, setI_1, setI_2, Bool.not_true, Bool.not_false, Bool.false_eq_true, if_false, if_true]; exact h)); (try dsimp only [gName, tNext, List.set_cons_zero, List.set_cons_succ]))
    (refine evE ?P31 (fun Q h => ?h31) ?_; (case h31 => (simp only [tTest, tOp, tUn, tVar, tC, tCB, tCons, tNil, tAnd, tOr, tNot, tB, tTup, tLst, tIf, tAndV, tOrV, tNotV, tSl, tPart, tNoPart, tCall, iIx_ref, oGt_int, oMod_int, oFdiv_int, oAdd_int, oAdd_str, oSub_int, oMul_int, oLt_int, oGe_int, oLe_int, oPow_int, uNeg_int, oEq_int, oEq_str, oEq_bl, oNe_int, oNe_str, oNe_bl, cInt_int, cInt_bl, cAbs_int, cLen_ref, cList_ref, stL_ref, gName, gSub, gTup, gCons, gNil, rdSeq, List.getElem?_cons_zero, List.getElem?_cons_succ, List.set_cons_zero, List.set_cons_succ, List.cons_append, List.nil_append, Option.some.injEq, exists_eq_left', V.bl.injEq, V.int.injEq, V.ref.injEq, atI_0, atI_1, atI_2, setI_1, setI_2, Bool.not_true, Bool.not_false, Bool.false_eq_true, if_false, if_true]; exact h)); (try dsimp only [gName, tNext, List.set_cons_zero, List.set_cons_succ]))
    refine ⟨x, _, dx, _, rfl, hx, cl, na _ (by decide), by show 1 < 1000; decide, ?_⟩
    show t_Fits_init_2 K A _ _ (upd H1 x (.ins A.c_Fits dx [("number", v0), ("rises", v1)]))
    have kp2 : Keep x H (upd H1 x (.ins A.c_Fits dx [("number", v0), ("rises", v1)])) := fun b o hb e => by rw [upd_ne hb]; exact kp1 b o hb e
    have hx : upd H1 x (.ins A.c_Fits dx [("number", v0), ("rises", v1)]) x = some (.ins A.c_Fits dx [("number", v0), ("rises", v1)]) := upd_same
    generalize upd H1 x (.ins A.c_Fits dx [("number", v0), ("rises", v1)]) = H2 at *
    refine st_seq (st_fld ?_)
    (refine evE ?P32 (fun Q h => ?h32) ?_; (case h32 => (simp only [tTest, tOp, tUn, tVar, tC, tCB, tCons, tNil, tAnd, tOr, tNot, tB, tTup, tLst, tIf, tAndV, tOrV, tNotV, tSl, tPart, tNoPart, tCall, iIx_ref, oGt_int, oMod_int, oFdiv_int, oAdd_int, oAdd_str, oSub_int, oMul_int, oLt_int, oGe_int, oLe_int, oPow_int, uNeg_int, oEq_int, oEq_str, oEq_bl, oNe_int, oNe_str, oNe_bl, cInt_int, cInt_bl, cAbs_int, cLen_ref, cList_ref, stL_ref, gName, gSub, gTup, gCons, gNil, rdSeq, List.getElem?_cons_zero, List.getElem?_cons_succ, List.set_cons_zero, List.set_cons_succ, List.cons_append, List.nil_append, Option.some.injEq, exists_eq_left', V.bl.injEq, V.int.injEq, V.ref.injEq, atI_0, atI_1, atI_2, setI_1, setI_2, Bool.not_true, Bool.not_false, Bool.false_eq_true, if_false, if_true]; exact h)); (try dsimp only [gName, tNext, List.set_cons_zero, List.set_cons_succ]))
    (refine evE ?P33 (fun Q h => ?h33) ?_; (case h33 => (simp only [tTest, tOp, tUn, tVar, tC, tCB, tCons, tNil, tAnd, tOr, tNot, tB, tTup, tLst, tIf, tAndV, tOrV, tNotV, tSl, tPart, tNoPart, tCall, iIx_ref, oGt_int, oMod_int, oFdiv_int, oAdd_int, oAdd_str, oSub_int, oMul_int, oLt_int, oGe_int, oLe_int, oPow_int, uNeg_int, oEq_int, oEq_str, oEq_bl, oNe_int, oNe_str, oNe_bl, cInt_int, cInt_bl, cAbs_int, cLen_ref, cList_ref, stL_ref, gName, gSub, gTup, gCons, gNil, rdSeq, List.getElem?_cons_zero, List.getElem?_cons_succ, List.set_cons_zero, List.set_cons_succ, List.cons_append, List.nil_append, Option.some.injEq, exists_eq_left', V.bl.injEq, V.int.injEq, V.ref.injEq, atI_0, atI_1, atI_2, setI_1, setI_2, Bool.not_true, Bool.not_false, Bool.false_eq_true, if_false, if_true]; exact h)); (try dsimp only [gName, tNext, List.set_cons_zero, List.set_cons_succ]))
    refine ⟨x, _, dx, _, rfl, hx, cl, na _ (by decide), by show 2 < 1000; decide, ?_⟩
    show t_Fits_init_3 K A _ _ (upd H2 x (.ins A.c_Fits dx [("number", v0), ("rises", v1), ("losses", v2)]))
    have kp3 : Keep x H (upd H2 x (.ins A.c_Fits dx [("number", v0), ("rises", v1), ("losses", v2)])) := fun b o hb e => by rw [upd_ne hb]; exact kp2 b o hb e
    have hx : upd H2 x (.ins A.c_Fits dx [("number", v0), ("rises", v1), ("losses", v2)]) x = some (.ins A.c_Fits dx [("number", v0), ("rises", v1), ("losses", v2)]) := upd_same
    generalize upd H2 x (.ins A.c_Fits dx [("number", v0), ("rises", v1), ("losses", v2)]) = H3 at *
    refine st_fld ?_
    (refine evE ?P34 (fun Q h => ?h34) ?_; (case h34 => (simp only [tTest, tOp, tUn, tVar, tC, tCB, tCons, tNil, tAnd, tOr, tNot, tB, tTup, tLst, tIf, tAndV, tOrV, tNotV, tSl, tPart, tNoPart, tCall, iIx_ref, oGt_int, oMod_int, oFdiv_int, oAdd_int, oAdd_str, oSub_int, oMul_int, oLt_int, oGe_int, oLe_int, oPow_int, uNeg_int, oEq_int, oEq_str, oEq_bl, oNe_int, oNe_str, oNe_bl, cInt_int, cInt_bl, cAbs_int, cLen_ref, cList_ref, stL_ref, gName, gSub, gTup, gCons, gNil, rdSeq, List.getElem?_cons_zero, List.getElem?_cons_succ, List.set_cons_zero, List.set_cons_succ, List.cons_append, List.nil_append, Option.some.injEq, exists_eq_left', V.bl.injEq, V.int.injEq, V.ref.injEq, atI_0, atI_1, atI_2, setI_1, setI_2, Bool.not_true, Bool.not_false, Bool.false_eq_true, if_false, if_true]; exact h)); (try dsimp only [gName, tNext, List.set_cons_zero, List.set_cons_succ]))
    (refine evE ?P35 (fun Q h => ?h35) ?_; (case h35 => (simp only [tTest, tOp, tUn, tVar, tC, tCB, tCons, tNil, tAnd, tOr, tNot, tB, tTup, tLst, tIf, tAndV, tOrV, tNotV, tSl, tPart, tNoPart, tCall, iIx_ref, oGt_int, oMod_int, oFdiv_int, oAdd_int, oAdd_str, oSub_int, oMul_int, oLt_int, oGe_int, oLe_int, oPow_int, uNeg_int, oEq_int, oEq_str, oEq_bl, oNe_int, oNe_str, oNe_bl, cInt_int, cInt_bl, cAbs_int, cLen_ref, cList_ref, stL_ref, gName, gSub, gTup, gCons, gNil, rdSeq, List.getElem?_cons_zero, List.getElem?_cons_succ, List.set_cons_zero, List.set_cons_succ, List.cons_append, List.nil_append, Option.some.injEq, exists_eq_left', V.bl.injEq, V.int.injEq, V.ref.injEq, atI_0, atI_1, atI_2, setI_1, setI_2, Bool.not_true, Bool.not_false, Bool.false_eq_true, if_false, if_true]; exact h)); (try dsimp only [gName, tNext, List.set_cons_zero, List.set_cons_succ]))
    refine ⟨x, _, dx, _, rfl, hx, cl, na _ (by decide), by show 3 < 1000; decide, ?_⟩
    exact k _ (fun b o hb e => by rw [upd_ne hb]; exact kp3 b o hb e) upd_same
  · exact h.elim

def sp_Cut_init (K : PySem.W.Frag) (A : Ad) : Sp := fun xs H Q _ => match xs with
  | [.ref x, v0, v1, v2, v3] => ∃ dx, Cls K A.c_Cut ∧ (∀ n ∈ P10.Cut.names, NoAttr K A.c_Cut n) ∧ H x = some (.ins A.c_Cut dx []) ∧ ∀ H', Keep x H H' → H' x = some (.ins A.c_Cut dx [("number", v0), ("heights", v1), ("text", v2), ("at", v3)]) → Q .non H'
  | _ => False
def t_Cut_init_3 (K : PySem.W.Frag) (A : Ad) : TS := (sFld K (tVar 0) (tVar 4) "at")
def t_Cut_init_2 (K : PySem.W.Frag) (A : Ad) : TS := (tSeq (sFld K (tVar 0) (tVar 3) "text") (t_Cut_init_3 K A))
def t_Cut_init_1 (K : PySem.W.Frag) (A : Ad) : TS := (tSeq (sFld K (tVar 0) (tVar 2) "heights") (t_Cut_init_2 K A))
def t_Cut_init_0 (K : PySem.W.Frag) (A : Ad) : TS := (tSeq (sFld K (tVar 0) (tVar 1) "number") (t_Cut_init_1 K A))

theorem pure_Cut_init {K : PySem.W.Frag} {A : Ad} {xs : List V} {H : Hp} {Q : VK} {E : XK} (h : sp_Cut_init K A xs H Q E) : (t_Cut_init_0 K A) { nx := fun _ H' => Q .non H', rt := Q } (start ["self", "number", "heights", "text", "at"] xs) H := by
  unfold sp_Cut_init at h
  split at h
  · rename_i x v0 v1 v2 v3
    obtain ⟨dx, cl, na, hx, k⟩ := h
    show (t_Cut_init_0 K A) _ [some (.ref x), some (v0), some (v1), some (v2), some (v3)] H
    refine st_seq (st_fld ?_)
    (refine evE ?P36 (fun Q h => ?h36) ?_; (case h36 => (simp only [tTest, tOp, tUn, tVar, tC, tCB, tCons, tNil, tAnd, tOr, tNot, tB, tTup, tLst, tIf, tAndV, tOrV, tNotV, tSl, tPart, tNoPart, tCall, iIx_ref, oGt_int, oMod_int, oFdiv_int, oAdd_int, oAdd_str, oSub_int, oMul_int, oLt_int, oGe_int, oLe_int, oPow_int, uNeg_int, oEq_int, oEq_str, oEq_bl, oNe_int, oNe_str, oNe_bl, cInt_int, cInt_bl, cAbs_int, cLen_ref, cList_ref, stL_ref, gName, gSub, gTup, gCons, gNil, rdSeq, List.getElem?_cons_zero, List.getElem?_cons_succ, List.set_cons_zero, List.set_cons_succ, List.cons_append, List.nil_append, Option.some.injEq, exists_eq_left', V.bl.injEq, V.int.injEq, V.ref.injEq, atI_0, atI_1, atI_2, setI_1, setI_2, Bool.not_true, Bool.not_false, Bool.false_eq_true, if_false, if_true]; exact h)); (try dsimp only [gName, tNext, List.set_cons_zero, List.set_cons_succ]))
    (refine evE ?P37 (fun Q h => ?h37) ?_; (case h37 => (simp only [tTest, tOp, tUn, tVar, tC, tCB, tCons, tNil, tAnd, tOr, tNot, tB, tTup, tLst, tIf, tAndV, tOrV, tNotV, tSl, tPart, tNoPart, tCall, iIx_ref, oGt_int, oMod_int, oFdiv_int, oAdd_int, oAdd_str, oSub_int, oMul_int, oLt_int, oGe_int, oLe_int, oPow_int, uNeg_int, oEq_int, oEq_str, oEq_bl, oNe_int, oNe_str, oNe_bl, cInt_int, cInt_bl, cAbs_int, cLen_ref, cList_ref, stL_ref, gName, gSub, gTup, gCons, gNil, rdSeq, List.getElem?_cons_zero, List.getElem?_cons_succ, List.set_cons_zero, List.set_cons_succ, List.cons_append, List.nil_append, Option.some.injEq, exists_eq_left', V.bl.injEq, V.int.injEq, V.ref.injEq, atI_0, atI_1, atI_2, setI_1, setI_2, Bool.not_true, Bool.not_false, Bool.false_eq_true, if_false, if_true]; exact h)); (try dsimp only [gName, tNext, List.set_cons_zero, List.set_cons_succ]))
    refine ⟨x, _, dx, _, rfl, hx, cl, na _ (by decide), by show 0 < 1000; decide, ?_⟩
    show t_Cut_init_1 K A _ _ (upd H x (.ins A.c_Cut dx [("number", v0)]))
    have kp1 : Keep x H (upd H x (.ins A.c_Cut dx [("number", v0)])) := fun b o hb e => by rw [upd_ne hb]; exact e
    have hx : upd H x (.ins A.c_Cut dx [("number", v0)]) x = some (.ins A.c_Cut dx [("number", v0)]) := upd_same
    generalize upd H x (.ins A.c_Cut dx [("number", v0)]) = H1 at *
    refine st_seq (st_fld ?_)
    (refine evE ?P38 (fun Q h => ?h38) ?_; (case h38 => (simp only [tTest, tOp, tUn, tVar, tC, tCB, tCons, tNil, tAnd, tOr, tNot, tB, tTup, tLst, tIf, tAndV, tOrV, tNotV, tSl, tPart, tNoPart, tCall, iIx_ref, oGt_int, oMod_int, oFdiv_int, oAdd_int, oAdd_str, oSub_int, oMul_int, oLt_int, oGe_int, oLe_int, oPow_int, uNeg_int, oEq_int, oEq_str, oEq_bl, oNe_int, oNe_str, oNe_bl, cInt_int, cInt_bl, cAbs_int, cLen_ref, cList_ref, stL_ref, gName, gSub, gTup, gCons, gNil, rdSeq, List.getElem?_cons_zero, List.getElem?_cons_succ, List.set_cons_zero, List.set_cons_succ, List.cons_append, List.nil_append, Option.some.injEq, exists_eq_left', V.bl.injEq, V.int.injEq, V.ref.injEq, atI_0, atI_1, atI_2, setI_1, setI_2, Bool.not_true, Bool.not_false, Bool.false_eq_true, if_false, if_true]; exact h)); (try dsimp only [gName, tNext, List.set_cons_zero, List.set_cons_succ]))
    (refine evE ?P39 (fun Q h => ?h39) ?_; (case h39 => (simp only [tTest, tOp, tUn, tVar, tC, tCB, tCons, tNil, tAnd, tOr, tNot, tB, tTup, tLst, tIf, tAndV, tOrV, tNotV, tSl, tPart, tNoPart, tCall, iIx_ref, oGt_int, oMod_int, oFdiv_int, oAdd_int, oAdd_str, oSub_int, oMul_int, oLt_int, oGe_int, oLe_int, oPow_int, uNeg_int, oEq_int, oEq_str, oEq_bl, oNe_int, oNe_str, oNe_bl, cInt_int, cInt_bl, cAbs_int, cLen_ref, cList_ref, stL_ref, gName, gSub, gTup, gCons, gNil, rdSeq, List.getElem?_cons_zero, List.getElem?_cons_succ, List.set_cons_zero, List.set_cons_succ, List.cons_append, List.nil_append, Option.some.injEq, exists_eq_left', V.bl.injEq, V.int.injEq, V.ref.injEq, atI_0, atI_1, atI_2, setI_1, setI_2, Bool.not_true, Bool.not_false, Bool.false_eq_true, if_false, if_true]; exact h)); (try dsimp only [gName, tNext, List.set_cons_zero, List.set_cons_succ]))
    refine ⟨x, _, dx, _, rfl, hx, cl, na _ (by decide), by show 1 < 1000; decide, ?_⟩
    show t_Cut_init_2 K A _ _ (upd H1 x (.ins A.c_Cut dx [("number", v0), ("heights", v1)]))
    have kp2 : Keep x H (upd H1 x (.ins A.c_Cut dx [("number", v0), ("heights", v1)])) := fun b o hb e => by rw [upd_ne hb]; exact kp1 b o hb e
    have hx : upd H1 x (.ins A.c_Cut dx [("number", v0), ("heights", v1)]) x = some (.ins A.c_Cut dx [("number", v0), ("heights", v1)]) := upd_same
    generalize upd H1 x (.ins A.c_Cut dx [("number", v0), ("heights", v1)]) = H2 at *
    refine st_seq (st_fld ?_)
    (refine evE ?P40 (fun Q h => ?h40) ?_; (case h40 => (simp only [tTest, tOp, tUn, tVar, tC, tCB, tCons, tNil, tAnd, tOr, tNot, tB, tTup, tLst, tIf, tAndV, tOrV, tNotV, tSl, tPart, tNoPart, tCall, iIx_ref, oGt_int, oMod_int, oFdiv_int, oAdd_int, oAdd_str, oSub_int, oMul_int, oLt_int, oGe_int, oLe_int, oPow_int, uNeg_int, oEq_int, oEq_str, oEq_bl, oNe_int, oNe_str, oNe_bl, cInt_int, cInt_bl, cAbs_int, cLen_ref, cList_ref, stL_ref, gName, gSub, gTup, gCons, gNil, rdSeq, List.getElem?_cons_zero, List.getElem?_cons_succ, List.set_cons_zero, List.set_cons_succ, List.cons_append, List.nil_append, Option.some.injEq, exists_eq_left', V.bl.injEq, V.int.injEq, V.ref.injEq, atI_0, atI_1, atI_2, setI_1, setI_2, Bool.not_true, Bool.not_false, Bool.false_eq_true, if_false, if_true]; exact h)); (try dsimp only [gName, tNext, List.set_cons_zero, List.set_cons_succ]))
    (refine evE ?P41 (fun Q h => ?h41) ?_; (case h41 => (simp only [tTest, tOp, tUn, tVar, tC, tCB, tCons, tNil, tAnd, tOr, tNot, tB, tTup, tLst, tIf, tAndV, tOrV, tNotV, tSl, tPart, tNoPart, tCall, iIx_ref, oGt_int, oMod_int, oFdiv_int, oAdd_int, oAdd_str, oSub_int, oMul_int, oLt_int, oGe_int, oLe_int, oPow_int, uNeg_int, oEq_int, oEq_str, oEq_bl, oNe_int, oNe_str, oNe_bl, cInt_int, cInt_bl, cAbs_int, cLen_ref, cList_ref, stL_ref, gName, gSub, gTup, gCons, gNil, rdSeq, List.getElem?_cons_zero, List.getElem?_cons_succ, List.set_cons_zero, List.set_cons_succ, List.cons_append, List.nil_append, Option.some.injEq, exists_eq_left', V.bl.injEq, V.int.injEq, V.ref.injEq, atI_0, atI_1, atI_2, setI_1, setI_2, Bool.not_true, Bool.not_false, Bool.false_eq_true, if_false, if_true]; exact h)); (try dsimp only [gName, tNext, List.set_cons_zero, List.set_cons_succ]))
    refine ⟨x, _, dx, _, rfl, hx, cl, na _ (by decide), by show 2 < 1000; decide, ?_⟩
    show t_Cut_init_3 K A _ _ (upd H2 x (.ins A.c_Cut dx [("number", v0), ("heights", v1), ("text", v2)]))
    have kp3 : Keep x H (upd H2 x (.ins A.c_Cut dx [("number", v0), ("heights", v1), ("text", v2)])) := fun b o hb e => by rw [upd_ne hb]; exact kp2 b o hb e
    have hx : upd H2 x (.ins A.c_Cut dx [("number", v0), ("heights", v1), ("text", v2)]) x = some (.ins A.c_Cut dx [("number", v0), ("heights", v1), ("text", v2)]) := upd_same
    generalize upd H2 x (.ins A.c_Cut dx [("number", v0), ("heights", v1), ("text", v2)]) = H3 at *
    refine st_fld ?_
    (refine evE ?P42 (fun Q h => ?h42) ?_; (case h42 => (simp only [tTest, tOp, tUn, tVar, tC, tCB, tCons, tNil, tAnd, tOr, tNot, tB, tTup, tLst, tIf, tAndV, tOrV, tNotV, tSl, tPart, tNoPart, tCall, iIx_ref, oGt_int, oMod_int, oFdiv_int, oAdd_int, oAdd_str, oSub_int, oMul_int, oLt_int, oGe_int, oLe_int, oPow_int, uNeg_int, oEq_int, oEq_str, oEq_bl, oNe_int, oNe_str, oNe_bl, cInt_int, cInt_bl, cAbs_int, cLen_ref, cList_ref, stL_ref, gName, gSub, gTup, gCons, gNil, rdSeq, List.getElem?_cons_zero, List.getElem?_cons_succ, List.set_cons_zero, List.set_cons_succ, List.cons_append, List.nil_append, Option.some.injEq, exists_eq_left', V.bl.injEq, V.int.injEq, V.ref.injEq, atI_0, atI_1, atI_2, setI_1, setI_2, Bool.not_true, Bool.not_false, Bool.false_eq_true, if_false, if_true]; exact h)); (try dsimp only [gName, tNext, List.set_cons_zero, List.set_cons_succ]))
    (refine evE ?P43 (fun Q h => ?h43) ?_; (case h43 => (simp only [tTest, tOp, tUn, tVar, tC, tCB, tCons, tNil, tAnd, tOr, tNot, tB, tTup, tLst, tIf, tAndV, tOrV, tNotV, tSl, tPart, tNoPart, tCall, iIx_ref, oGt_int, oMod_int, oFdiv_int, oAdd_int, oAdd_str, oSub_int, oMul_int, oLt_int, oGe_int, oLe_int, oPow_int, uNeg_int, oEq_int, oEq_str, oEq_bl, oNe_int, oNe_str, oNe_bl, cInt_int, cInt_bl, cAbs_int, cLen_ref, cList_ref, stL_ref, gName, gSub, gTup, gCons, gNil, rdSeq, List.getElem?_cons_zero, List.getElem?_cons_succ, List.set_cons_zero, List.set_cons_succ, List.cons_append, List.nil_append, Option.some.injEq, exists_eq_left', V.bl.injEq, V.int.injEq, V.ref.injEq, atI_0, atI_1, atI_2, setI_1, setI_2, Bool.not_true, Bool.not_false, Bool.false_eq_true, if_false, if_true]; exact h)); (try dsimp only [gName, tNext, List.set_cons_zero, List.set_cons_succ]))
    refine ⟨x, _, dx, _, rfl, hx, cl, na _ (by decide), by show 3 < 1000; decide, ?_⟩
    exact k _ (fun b o hb e => by rw [upd_ne hb]; exact kp3 b o hb e) upd_same
  · exact h.elim

def sp_Never_init (K : PySem.W.Frag) (A : Ad) : Sp := fun xs H Q _ => match xs with
  | [.ref x, v0, v1, v2] => ∃ dx, Cls K A.c_Never ∧ (∀ n ∈ P10.Never.names, NoAttr K A.c_Never n) ∧ H x = some (.ins A.c_Never dx []) ∧ ∀ H', Keep x H H' → H' x = some (.ins A.c_Never dx [("ahead", v0), ("ring", v1), ("behind", v2)]) → Q .non H'
  | _ => False
def t_Never_init_2 (K : PySem.W.Frag) (A : Ad) : TS := (sFld K (tVar 0) (tVar 3) "behind")
def t_Never_init_1 (K : PySem.W.Frag) (A : Ad) : TS := (tSeq (sFld K (tVar 0) (tVar 2) "ring") (t_Never_init_2 K A))
def t_Never_init_0 (K : PySem.W.Frag) (A : Ad) : TS := (tSeq (sFld K (tVar 0) (tVar 1) "ahead") (t_Never_init_1 K A))

theorem pure_Never_init {K : PySem.W.Frag} {A : Ad} {xs : List V} {H : Hp} {Q : VK} {E : XK} (h : sp_Never_init K A xs H Q E) : (t_Never_init_0 K A) { nx := fun _ H' => Q .non H', rt := Q } (start ["self", "ahead", "ring", "behind"] xs) H := by
  unfold sp_Never_init at h
  split at h
  · rename_i x v0 v1 v2
    obtain ⟨dx, cl, na, hx, k⟩ := h
    show (t_Never_init_0 K A) _ [some (.ref x), some (v0), some (v1), some (v2)] H
    refine st_seq (st_fld ?_)
    (refine evE ?P44 (fun Q h => ?h44) ?_; (case h44 => (simp only [tTest, tOp, tUn, tVar, tC, tCB, tCons, tNil, tAnd, tOr, tNot, tB, tTup, tLst, tIf, tAndV, tOrV, tNotV, tSl, tPart, tNoPart, tCall, iIx_ref, oGt_int, oMod_int, oFdiv_int, oAdd_int, oAdd_str, oSub_int, oMul_int, oLt_int, oGe_int, oLe_int, oPow_int, uNeg_int, oEq_int, oEq_str, oEq_bl, oNe_int, oNe_str, oNe_bl, cInt_int, cInt_bl, cAbs_int, cLen_ref, cList_ref, stL_ref, gName, gSub, gTup, gCons, gNil, rdSeq, List.getElem?_cons_zero, List.getElem?_cons_succ, List.set_cons_zero, List.set_cons_succ, List.cons_append, List.nil_append, Option.some.injEq, exists_eq_left', V.bl.injEq, V.int.injEq, V.ref.injEq, atI_0, atI_1, atI_2, setI_1, setI_2, Bool.not_true, Bool.not_false, Bool.false_eq_true, if_false, if_true]; exact h)); (try dsimp only [gName, tNext, List.set_cons_zero, List.set_cons_succ]))
    (refine evE ?P45 (fun Q h => ?h45) ?_; (case h45 => (simp only [tTest, tOp, tUn, tVar, tC, tCB, tCons, tNil, tAnd, tOr, tNot, tB, tTup, tLst, tIf, tAndV, tOrV, tNotV, tSl, tPart, tNoPart, tCall, iIx_ref, oGt_int, oMod_int, oFdiv_int, oAdd_int, oAdd_str, oSub_int, oMul_int, oLt_int, oGe_int, oLe_int, oPow_int, uNeg_int, oEq_int, oEq_str, oEq_bl, oNe_int, oNe_str, oNe_bl, cInt_int, cInt_bl, cAbs_int, cLen_ref, cList_ref, stL_ref, gName, gSub, gTup, gCons, gNil, rdSeq, List.getElem?_cons_zero, List.getElem?_cons_succ, List.set_cons_zero, List.set_cons_succ, List.cons_append, List.nil_append, Option.some.injEq, exists_eq_left', V.bl.injEq, V.int.injEq, V.ref.injEq, atI_0, atI_1, atI_2, setI_1, setI_2, Bool.not_true, Bool.not_false, Bool.false_eq_true, if_false, if_true]; exact h)); (try dsimp only [gName, tNext, List.set_cons_zero, List.set_cons_succ]))
    refine ⟨x, _, dx, _, rfl, hx, cl, na _ (by decide), by show 0 < 1000; decide, ?_⟩
    show t_Never_init_1 K A _ _ (upd H x (.ins A.c_Never dx [("ahead", v0)]))
    have kp1 : Keep x H (upd H x (.ins A.c_Never dx [("ahead", v0)])) := fun b o hb e => by rw [upd_ne hb]; exact e
    have hx : upd H x (.ins A.c_Never dx [("ahead", v0)]) x = some (.ins A.c_Never dx [("ahead", v0)]) := upd_same
    generalize upd H x (.ins A.c_Never dx [("ahead", v0)]) = H1 at *
    refine st_seq (st_fld ?_)
    (refine evE ?P46 (fun Q h => ?h46) ?_; (case h46 => (simp only [tTest, tOp, tUn, tVar, tC, tCB, tCons, tNil, tAnd, tOr, tNot, tB, tTup, tLst, tIf, tAndV, tOrV, tNotV, tSl, tPart, tNoPart, tCall, iIx_ref, oGt_int, oMod_int, oFdiv_int, oAdd_int, oAdd_str, oSub_int, oMul_int, oLt_int, oGe_int, oLe_int, oPow_int, uNeg_int, oEq_int, oEq_str, oEq_bl, oNe_int, oNe_str, oNe_bl, cInt_int, cInt_bl, cAbs_int, cLen_ref, cList_ref, stL_ref, gName, gSub, gTup, gCons, gNil, rdSeq, List.getElem?_cons_zero, List.getElem?_cons_succ, List.set_cons_zero, List.set_cons_succ, List.cons_append, List.nil_append, Option.some.injEq, exists_eq_left', V.bl.injEq, V.int.injEq, V.ref.injEq, atI_0, atI_1, atI_2, setI_1, setI_2, Bool.not_true, Bool.not_false, Bool.false_eq_true, if_false, if_true]; exact h)); (try dsimp only [gName, tNext, List.set_cons_zero, List.set_cons_succ]))
    (refine evE ?P47 (fun Q h => ?h47) ?_; (case h47 => (simp only [tTest, tOp, tUn, tVar, tC, tCB, tCons, tNil, tAnd, tOr, tNot, tB, tTup, tLst, tIf, tAndV, tOrV, tNotV, tSl, tPart, tNoPart, tCall, iIx_ref, oGt_int, oMod_int, oFdiv_int, oAdd_int, oAdd_str, oSub_int, oMul_int, oLt_int, oGe_int, oLe_int, oPow_int, uNeg_int, oEq_int, oEq_str, oEq_bl, oNe_int, oNe_str, oNe_bl, cInt_int, cInt_bl, cAbs_int, cLen_ref, cList_ref, stL_ref, gName, gSub, gTup, gCons, gNil, rdSeq, List.getElem?_cons_zero, List.getElem?_cons_succ, List.set_cons_zero, List.set_cons_succ, List.cons_append, List.nil_append, Option.some.injEq, exists_eq_left', V.bl.injEq, V.int.injEq, V.ref.injEq, atI_0, atI_1, atI_2, setI_1, setI_2, Bool.not_true, Bool.not_false, Bool.false_eq_true, if_false, if_true]; exact h)); (try dsimp only [gName, tNext, List.set_cons_zero, List.set_cons_succ]))
    refine ⟨x, _, dx, _, rfl, hx, cl, na _ (by decide), by show 1 < 1000; decide, ?_⟩
    show t_Never_init_2 K A _ _ (upd H1 x (.ins A.c_Never dx [("ahead", v0), ("ring", v1)]))
    have kp2 : Keep x H (upd H1 x (.ins A.c_Never dx [("ahead", v0), ("ring", v1)])) := fun b o hb e => by rw [upd_ne hb]; exact kp1 b o hb e
    have hx : upd H1 x (.ins A.c_Never dx [("ahead", v0), ("ring", v1)]) x = some (.ins A.c_Never dx [("ahead", v0), ("ring", v1)]) := upd_same
    generalize upd H1 x (.ins A.c_Never dx [("ahead", v0), ("ring", v1)]) = H2 at *
    refine st_fld ?_
    (refine evE ?P48 (fun Q h => ?h48) ?_; (case h48 => (simp only [tTest, tOp, tUn, tVar, tC, tCB, tCons, tNil, tAnd, tOr, tNot, tB, tTup, tLst, tIf, tAndV, tOrV, tNotV, tSl, tPart, tNoPart, tCall, iIx_ref, oGt_int, oMod_int, oFdiv_int, oAdd_int, oAdd_str, oSub_int, oMul_int, oLt_int, oGe_int, oLe_int, oPow_int, uNeg_int, oEq_int, oEq_str, oEq_bl, oNe_int, oNe_str, oNe_bl, cInt_int, cInt_bl, cAbs_int, cLen_ref, cList_ref, stL_ref, gName, gSub, gTup, gCons, gNil, rdSeq, List.getElem?_cons_zero, List.getElem?_cons_succ, List.set_cons_zero, List.set_cons_succ, List.cons_append, List.nil_append, Option.some.injEq, exists_eq_left', V.bl.injEq, V.int.injEq, V.ref.injEq, atI_0, atI_1, atI_2, setI_1, setI_2, Bool.not_true, Bool.not_false, Bool.false_eq_true, if_false, if_true]; exact h)); (try dsimp only [gName, tNext, List.set_cons_zero, List.set_cons_succ]))
    (refine evE ?P49 (fun Q h => ?h49) ?_; (case h49 => (simp only [tTest, tOp, tUn, tVar, tC, tCB, tCons, tNil, tAnd, tOr, tNot, tB, tTup, tLst, tIf, tAndV, tOrV, tNotV, tSl, tPart, tNoPart, tCall, iIx_ref, oGt_int, oMod_int, oFdiv_int, oAdd_int, oAdd_str, oSub_int, oMul_int, oLt_int, oGe_int, oLe_int, oPow_int, uNeg_int, oEq_int, oEq_str, oEq_bl, oNe_int, oNe_str, oNe_bl, cInt_int, cInt_bl, cAbs_int, cLen_ref, cList_ref, stL_ref, gName, gSub, gTup, gCons, gNil, rdSeq, List.getElem?_cons_zero, List.getElem?_cons_succ, List.set_cons_zero, List.set_cons_succ, List.cons_append, List.nil_append, Option.some.injEq, exists_eq_left', V.bl.injEq, V.int.injEq, V.ref.injEq, atI_0, atI_1, atI_2, setI_1, setI_2, Bool.not_true, Bool.not_false, Bool.false_eq_true, if_false, if_true]; exact h)); (try dsimp only [gName, tNext, List.set_cons_zero, List.set_cons_succ]))
    refine ⟨x, _, dx, _, rfl, hx, cl, na _ (by decide), by show 2 < 1000; decide, ?_⟩
    exact k _ (fun b o hb e => by rw [upd_ne hb]; exact kp2 b o hb e) upd_same
  · exact h.elim

def sp_Beyond_init (K : PySem.W.Frag) (A : Ad) : Sp := fun xs H Q _ => match xs with
  | [.ref x, v0, v1, v2, v3, v4] => ∃ dx, Cls K A.c_Beyond ∧ (∀ n ∈ P10.Beyond.names, NoAttr K A.c_Beyond n) ∧ H x = some (.ins A.c_Beyond dx []) ∧ ∀ H', Keep x H H' → H' x = some (.ins A.c_Beyond dx [("ahead", v0), ("rising", v1), ("between", v2), ("falling", v3), ("behind", v4)]) → Q .non H'
  | _ => False
def t_Beyond_init_4 (K : PySem.W.Frag) (A : Ad) : TS := (sFld K (tVar 0) (tVar 5) "behind")
def t_Beyond_init_3 (K : PySem.W.Frag) (A : Ad) : TS := (tSeq (sFld K (tVar 0) (tVar 4) "falling") (t_Beyond_init_4 K A))
def t_Beyond_init_2 (K : PySem.W.Frag) (A : Ad) : TS := (tSeq (sFld K (tVar 0) (tVar 3) "between") (t_Beyond_init_3 K A))
def t_Beyond_init_1 (K : PySem.W.Frag) (A : Ad) : TS := (tSeq (sFld K (tVar 0) (tVar 2) "rising") (t_Beyond_init_2 K A))
def t_Beyond_init_0 (K : PySem.W.Frag) (A : Ad) : TS := (tSeq (sFld K (tVar 0) (tVar 1) "ahead") (t_Beyond_init_1 K A))

theorem pure_Beyond_init {K : PySem.W.Frag} {A : Ad} {xs : List V} {H : Hp} {Q : VK} {E : XK} (h : sp_Beyond_init K A xs H Q E) : (t_Beyond_init_0 K A) { nx := fun _ H' => Q .non H', rt := Q } (start ["self", "ahead", "rising", "between", "falling", "behind"] xs) H := by
  unfold sp_Beyond_init at h
  split at h
  · rename_i x v0 v1 v2 v3 v4
    obtain ⟨dx, cl, na, hx, k⟩ := h
    show (t_Beyond_init_0 K A) _ [some (.ref x), some (v0), some (v1), some (v2), some (v3), some (v4)] H
    refine st_seq (st_fld ?_)
    (refine evE ?P50 (fun Q h => ?h50) ?_; (case h50 => (simp only [tTest, tOp, tUn, tVar, tC, tCB, tCons, tNil, tAnd, tOr, tNot, tB, tTup, tLst, tIf, tAndV, tOrV, tNotV, tSl, tPart, tNoPart, tCall, iIx_ref, oGt_int, oMod_int, oFdiv_int, oAdd_int, oAdd_str, oSub_int, oMul_int, oLt_int, oGe_int, oLe_int, oPow_int, uNeg_int, oEq_int, oEq_str, oEq_bl, oNe_int, oNe_str, oNe_bl, cInt_int, cInt_bl, cAbs_int, cLen_ref, cList_ref, stL_ref, gName, gSub, gTup, gCons, gNil, rdSeq, List.getElem?_cons_zero, List.getElem?_cons_succ, List.set_cons_zero, List.set_cons_succ, List.cons_append, List.nil_append, Option.some.injEq, exists_eq_left', V.bl.injEq, V.int.injEq, V.ref.injEq, atI_0, atI_1, atI_2, setI_1, setI_2, Bool.not_true, Bool.not_false, Bool.false_eq_true, if_false, if_true]; exact h)); (try dsimp only [gName, tNext, List.set_cons_zero, List.set_cons_succ]))
    (refine evE ?P51 (fun Q h => ?h51) ?_; (case h51 => (simp only [tTest, tOp, tUn, tVar, tC, tCB, tCons, tNil, tAnd, tOr, tNot, tB, tTup, tLst, tIf, tAndV, tOrV, tNotV, tSl, tPart, tNoPart, tCall, iIx_ref, oGt_int, oMod_int, oFdiv_int, oAdd_int, oAdd_str, oSub_int, oMul_int, oLt_int, oGe_int, oLe_int, oPow_int, uNeg_int, oEq_int, oEq_str, oEq_bl, oNe_int, oNe_str, oNe_bl, cInt_int, cInt_bl, cAbs_int, cLen_ref, cList_ref, stL_ref, gName, gSub, gTup, gCons, gNil, rdSeq, List.getElem?_cons_zero, List.getElem?_cons_succ, List.set_cons_zero, List.set_cons_succ, List.cons_append, List.nil_append, Option.some.injEq, exists_eq_left', V.bl.injEq, V.int.injEq, V.ref.injEq, atI_0, atI_1, atI_2, setI_1, setI_2, Bool.not_true, Bool.not_false, Bool.false_eq_true, if_false, if_true]; exact h)); (try dsimp only [gName, tNext, List.set_cons_zero, List.set_cons_succ]))
    refine ⟨x, _, dx, _, rfl, hx, cl, na _ (by decide), by show 0 < 1000; decide, ?_⟩
    show t_Beyond_init_1 K A _ _ (upd H x (.ins A.c_Beyond dx [("ahead", v0)]))
    have kp1 : Keep x H (upd H x (.ins A.c_Beyond dx [("ahead", v0)])) := fun b o hb e => by rw [upd_ne hb]; exact e
    have hx : upd H x (.ins A.c_Beyond dx [("ahead", v0)]) x = some (.ins A.c_Beyond dx [("ahead", v0)]) := upd_same
    generalize upd H x (.ins A.c_Beyond dx [("ahead", v0)]) = H1 at *
    refine st_seq (st_fld ?_)
    (refine evE ?P52 (fun Q h => ?h52) ?_; (case h52 => (simp only [tTest, tOp, tUn, tVar, tC, tCB, tCons, tNil, tAnd, tOr, tNot, tB, tTup, tLst, tIf, tAndV, tOrV, tNotV, tSl, tPart, tNoPart, tCall, iIx_ref, oGt_int, oMod_int, oFdiv_int, oAdd_int, oAdd_str, oSub_int, oMul_int, oLt_int, oGe_int, oLe_int, oPow_int, uNeg_int, oEq_int, oEq_str, oEq_bl, oNe_int, oNe_str, oNe_bl, cInt_int, cInt_bl, cAbs_int, cLen_ref, cList_ref, stL_ref, gName, gSub, gTup, gCons, gNil, rdSeq, List.getElem?_cons_zero, List.getElem?_cons_succ, List.set_cons_zero, List.set_cons_succ, List.cons_append, List.nil_append, Option.some.injEq, exists_eq_left', V.bl.injEq, V.int.injEq, V.ref.injEq, atI_0, atI_1, atI_2, setI_1, setI_2, Bool.not_true, Bool.not_false, Bool.false_eq_true, if_false, if_true]; exact h)); (try dsimp only [gName, tNext, List.set_cons_zero, List.set_cons_succ]))
    (refine evE ?P53 (fun Q h => ?h53) ?_; (case h53 => (simp only [tTest, tOp, tUn, tVar, tC, tCB, tCons, tNil, tAnd, tOr, tNot, tB, tTup, tLst, tIf, tAndV, tOrV, tNotV, tSl, tPart, tNoPart, tCall, iIx_ref, oGt_int, oMod_int, oFdiv_int, oAdd_int, oAdd_str, oSub_int, oMul_int, oLt_int, oGe_int, oLe_int, oPow_int, uNeg_int, oEq_int, oEq_str, oEq_bl, oNe_int, oNe_str, oNe_bl, cInt_int, cInt_bl, cAbs_int, cLen_ref, cList_ref, stL_ref, gName, gSub, gTup, gCons, gNil, rdSeq, List.getElem?_cons_zero, List.getElem?_cons_succ, List.set_cons_zero, List.set_cons_succ, List.cons_append, List.nil_append, Option.some.injEq, exists_eq_left', V.bl.injEq, V.int.injEq, V.ref.injEq, atI_0, atI_1, atI_2, setI_1, setI_2, Bool.not_true, Bool.not_false, Bool.false_eq_true, if_false, if_true]; exact h)); (try dsimp only [gName, tNext, List.set_cons_zero, List.set_cons_succ]))
    refine ⟨x, _, dx, _, rfl, hx, cl, na _ (by decide), by show 1 < 1000; decide, ?_⟩
    show t_Beyond_init_2 K A _ _ (upd H1 x (.ins A.c_Beyond dx [("ahead", v0), ("rising", v1)]))
    have kp2 : Keep x H (upd H1 x (.ins A.c_Beyond dx [("ahead", v0), ("rising", v1)])) := fun b o hb e => by rw [upd_ne hb]; exact kp1 b o hb e
    have hx : upd H1 x (.ins A.c_Beyond dx [("ahead", v0), ("rising", v1)]) x = some (.ins A.c_Beyond dx [("ahead", v0), ("rising", v1)]) := upd_same
    generalize upd H1 x (.ins A.c_Beyond dx [("ahead", v0), ("rising", v1)]) = H2 at *
    refine st_seq (st_fld ?_)
    (refine evE ?P54 (fun Q h => ?h54) ?_; (case h54 => (simp only [tTest, tOp, tUn, tVar, tC, tCB, tCons, tNil, tAnd, tOr, tNot, tB, tTup, tLst, tIf, tAndV, tOrV, tNotV, tSl, tPart, tNoPart, tCall, iIx_ref, oGt_int, oMod_int, oFdiv_int, oAdd_int, oAdd_str, oSub_int, oMul_int, oLt_int, oGe_int, oLe_int, oPow_int, uNeg_int, oEq_int, oEq_str, oEq_bl, oNe_int, oNe_str, oNe_bl, cInt_int, cInt_bl, cAbs_int, cLen_ref, cList_ref, stL_ref, gName, gSub, gTup, gCons, gNil, rdSeq, List.getElem?_cons_zero, List.getElem?_cons_succ, List.set_cons_zero, List.set_cons_succ, List.cons_append, List.nil_append, Option.some.injEq, exists_eq_left', V.bl.injEq, V.int.injEq, V.ref.injEq, atI_0, atI_1, atI_2, setI_1, setI_2, Bool.not_true, Bool.not_false, Bool.false_eq_true, if_false, if_true]; exact h)); (try dsimp only [gName, tNext, List.set_cons_zero, List.set_cons_succ]))
    (refine evE ?P55 (fun Q h => ?h55) ?_; (case h55 => (simp only [tTest, tOp, tUn, tVar, tC, tCB, tCons, tNil, tAnd, tOr, tNot, tB, tTup, tLst, tIf, tAndV, tOrV, tNotV, tSl, tPart, tNoPart, tCall, iIx_ref, oGt_int, oMod_int, oFdiv_int, oAdd_int, oAdd_str, oSub_int, oMul_int, oLt_int, oGe_int, oLe_int, oPow_int, uNeg_int, oEq_int, oEq_str, oEq_bl, oNe_int, oNe_str, oNe_bl, cInt_int, cInt_bl, cAbs_int, cLen_ref, cList_ref, stL_ref, gName, gSub, gTup, gCons, gNil, rdSeq, List.getElem?_cons_zero, List.getElem?_cons_succ, List.set_cons_zero, List.set_cons_succ, List.cons_append, List.nil_append, Option.some.injEq, exists_eq_left', V.bl.injEq, V.int.injEq, V.ref.injEq, atI_0, atI_1, atI_2, setI_1, setI_2, Bool.not_true, Bool.not_false, Bool.false_eq_true, if_false, if_true]; exact h)); (try dsimp only [gName, tNext, List.set_cons_zero, List.set_cons_succ]))
    refine ⟨x, _, dx, _, rfl, hx, cl, na _ (by decide), by show 2 < 1000; decide, ?_⟩
    show t_Beyond_init_3 K A _ _ (upd H2 x (.ins A.c_Beyond dx [("ahead", v0), ("rising", v1), ("between", v2)]))
    have kp3 : Keep x H (upd H2 x (.ins A.c_Beyond dx [("ahead", v0), ("rising", v1), ("between", v2)])) := fun b o hb e => by rw [upd_ne hb]; exact kp2 b o hb e
    have hx : upd H2 x (.ins A.c_Beyond dx [("ahead", v0), ("rising", v1), ("between", v2)]) x = some (.ins A.c_Beyond dx [("ahead", v0), ("rising", v1), ("between", v2)]) := upd_same
    generalize upd H2 x (.ins A.c_Beyond dx [("ahead", v0), ("rising", v1), ("between", v2)]) = H3 at *
    refine st_seq (st_fld ?_)
    (refine evE ?P56 (fun Q h => ?h56) ?_; (case h56 => (simp only [tTest, tOp, tUn, tVar, tC, tCB, tCons, tNil, tAnd, tOr, tNot, tB, tTup, tLst, tIf, tAndV, tOrV, tNotV, tSl, tPart, tNoPart, tCall, iIx_ref, oGt_int, oMod_int, oFdiv_int, oAdd_int, oAdd_str, oSub_int, oMul_int, oLt_int, oGe_int, oLe_int, oPow_int, uNeg_int, oEq_int, oEq_str, oEq_bl, oNe_int, oNe_str, oNe_bl, cInt_int, cInt_bl, cAbs_int, cLen_ref, cList_ref, stL_ref, gName, gSub, gTup, gCons, gNil, rdSeq, List.getElem?_cons_zero, List.getElem?_cons_succ, List.set_cons_zero, List.set_cons_succ, List.cons_append, List.nil_append, Option.some.injEq, exists_eq_left', V.bl.injEq, V.int.injEq, V.ref.injEq, atI_0, atI_1, atI_2, setI_1, setI_2, Bool.not_true, Bool.not_false, Bool.false_eq_true, if_false, if_true]; exact h)); (try dsimp only [gName, tNext, List.set_cons_zero, List.set_cons_succ]))
    (refine evE ?P57 (fun Q h => ?h57) ?_; (case h57 => (simp only [tTest, tOp, tUn, tVar, tC, tCB, tCons, tNil, tAnd, tOr, tNot, tB, tTup, tLst, tIf, tAndV, tOrV, tNotV, tSl, tPart, tNoPart, tCall, iIx_ref, oGt_int, oMod_int, oFdiv_int, oAdd_int, oAdd_str, oSub_int, oMul_int, oLt_int, oGe_int, oLe_int, oPow_int, uNeg_int, oEq_int, oEq_str, oEq_bl, oNe_int, oNe_str, oNe_bl, cInt_int, cInt_bl, cAbs_int, cLen_ref, cList_ref, stL_ref, gName, gSub, gTup, gCons, gNil, rdSeq, List.getElem?_cons_zero, List.getElem?_cons_succ, List.set_cons_zero, List.set_cons_succ, List.cons_append, List.nil_append, Option.some.injEq, exists_eq_left', V.bl.injEq, V.int.injEq, V.ref.injEq, atI_0, atI_1, atI_2, setI_1, setI_2, Bool.not_true, Bool.not_false, Bool.false_eq_true, if_false, if_true]; exact h)); (try dsimp only [gName, tNext, List.set_cons_zero, List.set_cons_succ]))
    refine ⟨x, _, dx, _, rfl, hx, cl, na _ (by decide), by show 3 < 1000; decide, ?_⟩
    show t_Beyond_init_4 K A _ _ (upd H3 x (.ins A.c_Beyond dx [("ahead", v0), ("rising", v1), ("between", v2), ("falling", v3)]))
    have kp4 : Keep x H (upd H3 x (.ins A.c_Beyond dx [("ahead", v0), ("rising", v1), ("between", v2), ("falling", v3)])) := fun b o hb e => by rw [upd_ne hb]; exact kp3 b o hb e
    have hx : upd H3 x (.ins A.c_Beyond dx [("ahead", v0), ("rising", v1), ("between", v2), ("falling", v3)]) x = some (.ins A.c_Beyond dx [("ahead", v0), ("rising", v1), ("between", v2), ("falling", v3)]) := upd_same
    generalize upd H3 x (.ins A.c_Beyond dx [("ahead", v0), ("rising", v1), ("between", v2), ("falling", v3)]) = H4 at *
    refine st_fld ?_
    (refine evE ?P58 (fun Q h => ?h58) ?_; (case h58 => (simp only [tTest, tOp, tUn, tVar, tC, tCB, tCons, tNil, tAnd, tOr, tNot, tB, tTup, tLst, tIf, tAndV, tOrV, tNotV, tSl, tPart, tNoPart, tCall, iIx_ref, oGt_int, oMod_int, oFdiv_int, oAdd_int, oAdd_str, oSub_int, oMul_int, oLt_int, oGe_int, oLe_int, oPow_int, uNeg_int, oEq_int, oEq_str, oEq_bl, oNe_int, oNe_str, oNe_bl, cInt_int, cInt_bl, cAbs_int, cLen_ref, cList_ref, stL_ref, gName, gSub, gTup, gCons, gNil, rdSeq, List.getElem?_cons_zero, List.getElem?_cons_succ, List.set_cons_zero, List.set_cons_succ, List.cons_append, List.nil_append, Option.some.injEq, exists_eq_left', V.bl.injEq, V.int.injEq, V.ref.injEq, atI_0, atI_1, atI_2, setI_1, setI_2, Bool.not_true, Bool.not_false, Bool.false_eq_true, if_false, if_true]; exact h)); (try dsimp only [gName, tNext, List.set_cons_zero, List.set_cons_succ]))
    (refine evE ?P59 (fun Q h => ?h59) ?_; (case h59 => (simp only [tTest, tOp, tUn, tVar, tC, tCB, tCons, tNil, tAnd, tOr, tNot, tB, tTup, tLst, tIf, tAndV, tOrV, tNotV, tSl, tPart, tNoPart, tCall, iIx_ref, oGt_int, oMod_int, oFdiv_int, oAdd_int, oAdd_str, oSub_int, oMul_int, oLt_int, oGe_int, oLe_int, oPow_int, uNeg_int, oEq_int, oEq_str, oEq_bl, oNe_int, oNe_str, oNe_bl, cInt_int, cInt_bl, cAbs_int, cLen_ref, cList_ref, stL_ref, gName, gSub, gTup, gCons, gNil, rdSeq, List.getElem?_cons_zero, List.getElem?_cons_succ, List.set_cons_zero, List.set_cons_succ, List.cons_append, List.nil_append, Option.some.injEq, exists_eq_left', V.bl.injEq, V.int.injEq, V.ref.injEq, atI_0, atI_1, atI_2, setI_1, setI_2, Bool.not_true, Bool.not_false, Bool.false_eq_true, if_false, if_true]; exact h)); (try dsimp only [gName, tNext, List.set_cons_zero, List.set_cons_succ]))
    refine ⟨x, _, dx, _, rfl, hx, cl, na _ (by decide), by show 4 < 1000; decide, ?_⟩
    exact k _ (fun b o hb e => by rw [upd_ne hb]; exact kp4 b o hb e) upd_same
  · exact h.elim

def sp_EndlessCut_init (K : PySem.W.Frag) (A : Ad) : Sp := fun xs H Q _ => match xs with
  | [.ref x, v0, v1, v2, v3] => ∃ dx, Cls K A.c_EndlessCut ∧ (∀ n ∈ P10.EndlessCut.names, NoAttr K A.c_EndlessCut n) ∧ H x = some (.ins A.c_EndlessCut dx []) ∧ ∀ H', Keep x H H' → H' x = some (.ins A.c_EndlessCut dx [("text", v0), ("at", v1), ("ring", v2), ("behind", v3)]) → Q .non H'
  | _ => False
def t_EndlessCut_init_3 (K : PySem.W.Frag) (A : Ad) : TS := (sFld K (tVar 0) (tVar 4) "behind")
def t_EndlessCut_init_2 (K : PySem.W.Frag) (A : Ad) : TS := (tSeq (sFld K (tVar 0) (tVar 3) "ring") (t_EndlessCut_init_3 K A))
def t_EndlessCut_init_1 (K : PySem.W.Frag) (A : Ad) : TS := (tSeq (sFld K (tVar 0) (tVar 2) "at") (t_EndlessCut_init_2 K A))
def t_EndlessCut_init_0 (K : PySem.W.Frag) (A : Ad) : TS := (tSeq (sFld K (tVar 0) (tVar 1) "text") (t_EndlessCut_init_1 K A))

theorem pure_EndlessCut_init {K : PySem.W.Frag} {A : Ad} {xs : List V} {H : Hp} {Q : VK} {E : XK} (h : sp_EndlessCut_init K A xs H Q E) : (t_EndlessCut_init_0 K A) { nx := fun _ H' => Q .non H', rt := Q } (start ["self", "text", "at", "ring", "behind"] xs) H := by
  unfold sp_EndlessCut_init at h
  split at h
  · rename_i x v0 v1 v2 v3
    obtain ⟨dx, cl, na, hx, k⟩ := h
    show (t_EndlessCut_init_0 K A) _ [some (.ref x), some (v0), some (v1), some (v2), some (v3)] H
    refine st_seq (st_fld ?_)
    (refine evE ?P60 (fun Q h => ?h60) ?_; (case h60 => (simp only [tTest, tOp, tUn, tVar, tC, tCB, tCons, tNil, tAnd, tOr, tNot, tB, tTup, tLst, tIf, tAndV, tOrV, tNotV, tSl, tPart, tNoPart, tCall, iIx_ref, oGt_int, oMod_int, oFdiv_int, oAdd_int, oAdd_str, oSub_int, oMul_int, oLt_int, oGe_int, oLe_int, oPow_int, uNeg_int, oEq_int, oEq_str, oEq_bl, oNe_int, oNe_str, oNe_bl, cInt_int, cInt_bl, cAbs_int, cLen_ref, cList_ref, stL_ref, gName, gSub, gTup, gCons, gNil, rdSeq, List.getElem?_cons_zero, List.getElem?_cons_succ, List.set_cons_zero, List.set_cons_succ, List.cons_append, List.nil_append, Option.some.injEq, exists_eq_left', V.bl.injEq, V.int.injEq, V.ref.injEq, atI_0, atI_1, atI_2, setI_1, setI_2, Bool.not_true, Bool.not_false, Bool.false_eq_true, if_false, if_true]; exact h)); (try dsimp only [gName, tNext, List.set_cons_zero, List.set_cons_succ]))
    (refine evE ?P61 (fun Q h => ?h61) ?_; (case h61 => (simp only [tTest, tOp, tUn, tVar, tC, tCB, tCons, tNil, tAnd, tOr, tNot, tB, tTup, tLst, tIf, tAndV, tOrV, tNotV, tSl, tPart, tNoPart, tCall, iIx_ref, oGt_int, oMod_int, oFdiv_int, oAdd_int, oAdd_str, oSub_int, oMul_int, oLt_int, oGe_int, oLe_int, oPow_int, uNeg_int, oEq_int, oEq_str, oEq_bl, oNe_int, oNe_str, oNe_bl, cInt_int, cInt_bl, cAbs_int, cLen_ref, cList_ref, stL_ref, gName, gSub, gTup, gCons, gNil, rdSeq, List.getElem?_cons_zero, List.getElem?_cons_succ, List.set_cons_zero, List.set_cons_succ, List.cons_append, List.nil_append, Option.some.injEq, exists_eq_left', V.bl.injEq, V.int.injEq, V.ref.injEq, atI_0, atI_1, atI_2, setI_1, setI_2, Bool.not_true, Bool.not_false, Bool.false_eq_true, if_false, if_true]; exact h)); (try dsimp only [gName, tNext, List.set_cons_zero, List.set_cons_succ]))
    refine ⟨x, _, dx, _, rfl, hx, cl, na _ (by decide), by show 0 < 1000; decide, ?_⟩
    show t_EndlessCut_init_1 K A _ _ (upd H x (.ins A.c_EndlessCut dx [("text", v0)]))
    have kp1 : Keep x H (upd H x (.ins A.c_EndlessCut dx [("text", v0)])) := fun b o hb e => by rw [upd_ne hb]; exact e
    have hx : upd H x (.ins A.c_EndlessCut dx [("text", v0)]) x = some (.ins A.c_EndlessCut dx [("text", v0)]) := upd_same
    generalize upd H x (.ins A.c_EndlessCut dx [("text", v0)]) = H1 at *
    refine st_seq (st_fld ?_)
    (refine evE ?P62 (fun Q h => ?h62) ?_; (case h62 => (simp only [tTest, tOp, tUn, tVar, tC, tCB, tCons, tNil, tAnd, tOr, tNot, tB, tTup, tLst, tIf, tAndV, tOrV, tNotV, tSl, tPart, tNoPart, tCall, iIx_ref, oGt_int, oMod_int, oFdiv_int, oAdd_int, oAdd_str, oSub_int, oMul_int, oLt_int, oGe_int, oLe_int, oPow_int, uNeg_int, oEq_int, oEq_str, oEq_bl, oNe_int, oNe_str, oNe_bl, cInt_int, cInt_bl, cAbs_int, cLen_ref, cList_ref, stL_ref, gName, gSub, gTup, gCons, gNil, rdSeq, List.getElem?_cons_zero, List.getElem?_cons_succ, List.set_cons_zero, List.set_cons_succ, List.cons_append, List.nil_append, Option.some.injEq, exists_eq_left', V.bl.injEq, V.int.injEq, V.ref.injEq, atI_0, atI_1, atI_2, setI_1, setI_2, Bool.not_true, Bool.not_false, Bool.false_eq_true, if_false, if_true]; exact h)); (try dsimp only [gName, tNext, List.set_cons_zero, List.set_cons_succ]))
    (refine evE ?P63 (fun Q h => ?h63) ?_; (case h63 => (simp only [tTest, tOp, tUn, tVar, tC, tCB, tCons, tNil, tAnd, tOr, tNot, tB, tTup, tLst, tIf, tAndV, tOrV, tNotV, tSl, tPart, tNoPart, tCall, iIx_ref, oGt_int, oMod_int, oFdiv_int, oAdd_int, oAdd_str, oSub_int, oMul_int, oLt_int, oGe_int, oLe_int, oPow_int, uNeg_int, oEq_int, oEq_str, oEq_bl, oNe_int, oNe_str, oNe_bl, cInt_int, cInt_bl, cAbs_int, cLen_ref, cList_ref, stL_ref, gName, gSub, gTup, gCons, gNil, rdSeq, List.getElem?_cons_zero, List.getElem?_cons_succ, List.set_cons_zero, List.set_cons_succ, List.cons_append, List.nil_append, Option.some.injEq, exists_eq_left', V.bl.injEq, V.int.injEq, V.ref.injEq, atI_0, atI_1, atI_2, setI_1, setI_2, Bool.not_true, Bool.not_false, Bool.false_eq_true, if_false, if_true]; exact h)); (try dsimp only [gName, tNext, List.set_cons_zero, List.set_cons_succ]))
    refine ⟨x, _, dx, _, rfl, hx, cl, na _ (by decide), by show 1 < 1000; decide, ?_⟩
    show t_EndlessCut_init_2 K A _ _ (upd H1 x (.ins A.c_EndlessCut dx [("text", v0), ("at", v1)]))
    have kp2 : Keep x H (upd H1 x (.ins A.c_EndlessCut dx [("text", v0), ("at", v1)])) := fun b o hb e => by rw [upd_ne hb]; exact kp1 b o hb e
    have hx : upd H1 x (.ins A.c_EndlessCut dx [("text", v0), ("at", v1)]) x = some (.ins A.c_EndlessCut dx [("text", v0), ("at", v1)]) := upd_same
    generalize upd H1 x (.ins A.c_EndlessCut dx [("text", v0), ("at", v1)]) = H2 at *
    refine st_seq (st_fld ?_)
    (refine evE ?P64 (fun Q h => ?h64) ?_; (case h64 => (simp only [tTest, tOp, tUn, tVar, tC, tCB, tCons, tNil, tAnd, tOr, tNot, tB, tTup, tLst, tIf, tAndV, tOrV, tNotV, tSl, tPart, tNoPart, tCall, iIx_ref, oGt_int, oMod_int, oFdiv_int, oAdd_int, oAdd_str, oSub_int, oMul_int, oLt_int, oGe_int, oLe_int, oPow_int, uNeg_int, oEq_int, oEq_str, oEq_bl, oNe_int, oNe_str, oNe_bl, cInt_int, cInt_bl, cAbs_int, cLen_ref, cList_ref, stL_ref, gName, gSub, gTup, gCons, gNil, rdSeq, List.getElem?_cons_zero, List.getElem?_cons_succ, List.set_cons_zero, List.set_cons_succ, List.cons_append, List.nil_append, Option.some.injEq, exists_eq_left', V.bl.injEq, V.int.injEq, V.ref.injEq, atI_0, atI_1, atI_2, setI_1, setI_2, Bool.not_true, Bool.not_false, Bool.false_eq_true, if_false, if_true]; exact h)); (try dsimp only [gName, tNext, List.set_cons_zero, List.set_cons_succ]))
    (refine evE ?P65 (fun Q h => ?h65) ?_; (case h65 => (simp only [tTest, tOp, tUn, tVar, tC, tCB, tCons, tNil, tAnd, tOr, tNot, tB, tTup, tLst, tIf, tAndV, tOrV, tNotV, tSl, tPart, tNoPart, tCall, iIx_ref, oGt_int, oMod_int, oFdiv_int, oAdd_int, oAdd_str, oSub_int, oMul_int, oLt_int, oGe_int, oLe_int, oPow_int, uNeg_int, oEq_int, oEq_str, oEq_bl, oNe_int, oNe_str, oNe_bl, cInt_int, cInt_bl, cAbs_int, cLen_ref, cList_ref, stL_ref, gName, gSub, gTup, gCons, gNil, rdSeq, List.getElem?_cons_zero, List.getElem?_cons_succ, List.set_cons_zero, List.set_cons_succ, List.cons_append, List.nil_append, Option.some.injEq, exists_eq_left', V.bl.injEq, V.int.injEq, V.ref.injEq, atI_0, atI_1, atI_2, setI_1, setI_2, Bool.not_true, Bool.not_false, Bool.false_eq_true, if_false, if_true]; exact h)); (try dsimp only [gName, tNext, List.set_cons_zero, List.set_cons_succ]))
    refine ⟨x, _, dx, _, rfl, hx, cl, na _ (by decide), by show 2 < 1000; decide, ?_⟩
    show t_EndlessCut_init_3 K A _ _ (upd H2 x (.ins A.c_EndlessCut dx [("text", v0), ("at", v1), ("ring", v2)]))
    have kp3 : Keep x H (upd H2 x (.ins A.c_EndlessCut dx [("text", v0), ("at", v1), ("ring", v2)])) := fun b o hb e => by rw [upd_ne hb]; exact kp2 b o hb e
    have hx : upd H2 x (.ins A.c_EndlessCut dx [("text", v0), ("at", v1), ("ring", v2)]) x = some (.ins A.c_EndlessCut dx [("text", v0), ("at", v1), ("ring", v2)]) := upd_same
    generalize upd H2 x (.ins A.c_EndlessCut dx [("text", v0), ("at", v1), ("ring", v2)]) = H3 at *
    refine st_fld ?_
    (refine evE ?P66 (fun Q h => ?h66) ?_; (case h66 => (simp only [tTest, tOp, tUn, tVar, tC, tCB, tCons, tNil, tAnd, tOr, tNot, tB, tTup, tLst, tIf, tAndV, tOrV, tNotV, tSl, tPart, tNoPart, tCall, iIx_ref, oGt_int, oMod_int, oFdiv_int, oAdd_int, oAdd_str, oSub_int, oMul_int, oLt_int, oGe_int, oLe_int, oPow_int, uNeg_int, oEq_int, oEq_str, oEq_bl, oNe_int, oNe_str, oNe_bl, cInt_int, cInt_bl, cAbs_int, cLen_ref, cList_ref, stL_ref, gName, gSub, gTup, gCons, gNil, rdSeq, List.getElem?_cons_zero, List.getElem?_cons_succ, List.set_cons_zero, List.set_cons_succ, List.cons_append, List.nil_append, Option.some.injEq, exists_eq_left', V.bl.injEq, V.int.injEq, V.ref.injEq, atI_0, atI_1, atI_2, setI_1, setI_2, Bool.not_true, Bool.not_false, Bool.false_eq_true, if_false, if_true]; exact h)); (try dsimp only [gName, tNext, List.set_cons_zero, List.set_cons_succ]))
    (refine evE ?P67 (fun Q h => ?h67) ?_; (case h67 => (simp only [tTest, tOp, tUn, tVar, tC, tCB, tCons, tNil, tAnd, tOr, tNot, tB, tTup, tLst, tIf, tAndV, tOrV, tNotV, tSl, tPart, tNoPart, tCall, iIx_ref, oGt_int, oMod_int, oFdiv_int, oAdd_int, oAdd_str, oSub_int, oMul_int, oLt_int, oGe_int, oLe_int, oPow_int, uNeg_int, oEq_int, oEq_str, oEq_bl, oNe_int, oNe_str, oNe_bl, cInt_int, cInt_bl, cAbs_int, cLen_ref, cList_ref, stL_ref, gName, gSub, gTup, gCons, gNil, rdSeq, List.getElem?_cons_zero, List.getElem?_cons_succ, List.set_cons_zero, List.set_cons_succ, List.cons_append, List.nil_append, Option.some.injEq, exists_eq_left', V.bl.injEq, V.int.injEq, V.ref.injEq, atI_0, atI_1, atI_2, setI_1, setI_2, Bool.not_true, Bool.not_false, Bool.false_eq_true, if_false, if_true]; exact h)); (try dsimp only [gName, tNext, List.set_cons_zero, List.set_cons_succ]))
    refine ⟨x, _, dx, _, rfl, hx, cl, na _ (by decide), by show 3 < 1000; decide, ?_⟩
    exact k _ (fun b o hb e => by rw [upd_ne hb]; exact kp3 b o hb e) upd_same
  · exact h.elim

def sp_Table_init (K : PySem.W.Frag) (A : Ad) : Sp := fun xs H Q _ => match xs with
  | [.ref x, v0] => ∃ dx, Cls K A.c_Table ∧ (∀ n ∈ P10.Table.names, NoAttr K A.c_Table n) ∧ H x = some (.ins A.c_Table dx []) ∧ ∀ H', Keep x H H' → H' x = some (.ins A.c_Table dx [("growths", v0)]) → Q .non H'
  | _ => False
def t_Table_init_0 (K : PySem.W.Frag) (A : Ad) : TS := (sFld K (tVar 0) (tVar 1) "growths")

theorem pure_Table_init {K : PySem.W.Frag} {A : Ad} {xs : List V} {H : Hp} {Q : VK} {E : XK} (h : sp_Table_init K A xs H Q E) : (t_Table_init_0 K A) { nx := fun _ H' => Q .non H', rt := Q } (start ["self", "growths"] xs) H := by
  unfold sp_Table_init at h
  split at h
  · rename_i x v0
    obtain ⟨dx, cl, na, hx, k⟩ := h
    show (t_Table_init_0 K A) _ [some (.ref x), some (v0)] H
    refine st_fld ?_
    (refine evE ?P68 (fun Q h => ?h68) ?_; (case h68 => (simp only [tTest, tOp, tUn, tVar, tC, tCB, tCons, tNil, tAnd, tOr, tNot, tB, tTup, tLst, tIf, tAndV, tOrV, tNotV, tSl, tPart, tNoPart, tCall, iIx_ref, oGt_int, oMod_int, oFdiv_int, oAdd_int, oAdd_str, oSub_int, oMul_int, oLt_int, oGe_int, oLe_int, oPow_int, uNeg_int, oEq_int, oEq_str, oEq_bl, oNe_int, oNe_str, oNe_bl, cInt_int, cInt_bl, cAbs_int, cLen_ref, cList_ref, stL_ref, gName, gSub, gTup, gCons, gNil, rdSeq, List.getElem?_cons_zero, List.getElem?_cons_succ, List.set_cons_zero, List.set_cons_succ, List.cons_append, List.nil_append, Option.some.injEq, exists_eq_left', V.bl.injEq, V.int.injEq, V.ref.injEq, atI_0, atI_1, atI_2, setI_1, setI_2, Bool.not_true, Bool.not_false, Bool.false_eq_true, if_false, if_true]; exact h)); (try dsimp only [gName, tNext, List.set_cons_zero, List.set_cons_succ]))
    (refine evE ?P69 (fun Q h => ?h69) ?_; (case h69 => (simp only [tTest, tOp, tUn, tVar, tC, tCB, tCons, tNil, tAnd, tOr, tNot, tB, tTup, tLst, tIf, tAndV, tOrV, tNotV, tSl, tPart, tNoPart, tCall, iIx_ref, oGt_int, oMod_int, oFdiv_int, oAdd_int, oAdd_str, oSub_int, oMul_int, oLt_int, oGe_int, oLe_int, oPow_int, uNeg_int, oEq_int, oEq_str, oEq_bl, oNe_int, oNe_str, oNe_bl, cInt_int, cInt_bl, cAbs_int, cLen_ref, cList_ref, stL_ref, gName, gSub, gTup, gCons, gNil, rdSeq, List.getElem?_cons_zero, List.getElem?_cons_succ, List.set_cons_zero, List.set_cons_succ, List.cons_append, List.nil_append, Option.some.injEq, exists_eq_left', V.bl.injEq, V.int.injEq, V.ref.injEq, atI_0, atI_1, atI_2, setI_1, setI_2, Bool.not_true, Bool.not_false, Bool.false_eq_true, if_false, if_true]; exact h)); (try dsimp only [gName, tNext, List.set_cons_zero, List.set_cons_succ]))
    refine ⟨x, _, dx, _, rfl, hx, cl, na _ (by decide), by show 0 < 1000; decide, ?_⟩
    exact k _ (fun b o hb e => by rw [upd_ne hb]; exact e) upd_same
  · exact h.elim

def sp_Ring_init (K : PySem.W.Frag) (A : Ad) : Sp := fun xs H Q _ => match xs with
  | [.ref x, v0, v1] => ∃ dx, Cls K A.c_Ring ∧ (∀ n ∈ P10.Ring.names, NoAttr K A.c_Ring n) ∧ H x = some (.ins A.c_Ring dx []) ∧ ∀ H', Keep x H H' → H' x = some (.ins A.c_Ring dx [("state", v0), ("text", v1)]) → Q .non H'
  | _ => False
def t_Ring_init_1 (K : PySem.W.Frag) (A : Ad) : TS := (sFld K (tVar 0) (tVar 2) "text")
def t_Ring_init_0 (K : PySem.W.Frag) (A : Ad) : TS := (tSeq (sFld K (tVar 0) (tVar 1) "state") (t_Ring_init_1 K A))

theorem pure_Ring_init {K : PySem.W.Frag} {A : Ad} {xs : List V} {H : Hp} {Q : VK} {E : XK} (h : sp_Ring_init K A xs H Q E) : (t_Ring_init_0 K A) { nx := fun _ H' => Q .non H', rt := Q } (start ["self", "state", "text"] xs) H := by
  unfold sp_Ring_init at h
  split at h
  · rename_i x v0 v1
    obtain ⟨dx, cl, na, hx, k⟩ := h
    show (t_Ring_init_0 K A) _ [some (.ref x), some (v0), some (v1)] H
    refine st_seq (st_fld ?_)
    (refine evE ?P70 (fun Q h => ?h70) ?_; (case h70 => (simp only [tTest, tOp, tUn, tVar, tC, tCB, tCons, tNil, tAnd, tOr, tNot, tB, tTup, tLst, tIf, tAndV, tOrV, tNotV, tSl, tPart, tNoPart, tCall, iIx_ref, oGt_int, oMod_int, oFdiv_int, oAdd_int, oAdd_str, oSub_int, oMul_int, oLt_int, oGe_int, oLe_int, oPow_int, uNeg_int, oEq_int, oEq_str, oEq_bl, oNe_int, oNe_str, oNe_bl, cInt_int, cInt_bl, cAbs_int, cLen_ref, cList_ref, stL_ref, gName, gSub, gTup, gCons, gNil, rdSeq, List.getElem?_cons_zero, List.getElem?_cons_succ, List.set_cons_zero, List.set_cons_succ, List.cons_append, List.nil_append, Option.some.injEq, exists_eq_left', V.bl.injEq, V.int.injEq, V.ref.injEq, atI_0, atI_1, atI_2, setI_1, setI_2, Bool.not_true, Bool.not_false, Bool.false_eq_true, if_false, if_true]; exact h)); (try dsimp only [gName, tNext, List.set_cons_zero, List.set_cons_succ]))
    (refine evE ?P71 (fun Q h => ?h71) ?_; (case h71 => (simp only [tTest, tOp, tUn, tVar, tC, tCB, tCons, tNil, tAnd, tOr, tNot, tB, tTup, tLst, tIf, tAndV, tOrV, tNotV, tSl, tPart, tNoPart, tCall, iIx_ref, oGt_int, oMod_int, oFdiv_int, oAdd_int, oAdd_str, oSub_int, oMul_int, oLt_int, oGe_int, oLe_int, oPow_int, uNeg_int, oEq_int, oEq_str, oEq_bl, oNe_int, oNe_str, oNe_bl, cInt_int, cInt_bl, cAbs_int, cLen_ref, cList_ref, stL_ref, gName, gSub, gTup, gCons, gNil, rdSeq, List.getElem?_cons_zero, List.getElem?_cons_succ, List.set_cons_zero, List.set_cons_succ, List.cons_append, List.nil_append, Option.some.injEq, exists_eq_left', V.bl.injEq, V.int.injEq, V.ref.injEq, atI_0, atI_1, atI_2, setI_1, setI_2, Bool.not_true, Bool.not_false, Bool.false_eq_true, if_false, if_true]; exact h)); (try dsimp only [gName, tNext, List.set_cons_zero, List.set_cons_succ]))
    refine ⟨x, _, dx, _, rfl, hx, cl, na _ (by decide), by show 0 < 1000; decide, ?_⟩
    show t_Ring_init_1 K A _ _ (upd H x (.ins A.c_Ring dx [("state", v0)]))
    have kp1 : Keep x H (upd H x (.ins A.c_Ring dx [("state", v0)])) := fun b o hb e => by rw [upd_ne hb]; exact e
    have hx : upd H x (.ins A.c_Ring dx [("state", v0)]) x = some (.ins A.c_Ring dx [("state", v0)]) := upd_same
    generalize upd H x (.ins A.c_Ring dx [("state", v0)]) = H1 at *
    refine st_fld ?_
    (refine evE ?P72 (fun Q h => ?h72) ?_; (case h72 => (simp only [tTest, tOp, tUn, tVar, tC, tCB, tCons, tNil, tAnd, tOr, tNot, tB, tTup, tLst, tIf, tAndV, tOrV, tNotV, tSl, tPart, tNoPart, tCall, iIx_ref, oGt_int, oMod_int, oFdiv_int, oAdd_int, oAdd_str, oSub_int, oMul_int, oLt_int, oGe_int, oLe_int, oPow_int, uNeg_int, oEq_int, oEq_str, oEq_bl, oNe_int, oNe_str, oNe_bl, cInt_int, cInt_bl, cAbs_int, cLen_ref, cList_ref, stL_ref, gName, gSub, gTup, gCons, gNil, rdSeq, List.getElem?_cons_zero, List.getElem?_cons_succ, List.set_cons_zero, List.set_cons_succ, List.cons_append, List.nil_append, Option.some.injEq, exists_eq_left', V.bl.injEq, V.int.injEq, V.ref.injEq, atI_0, atI_1, atI_2, setI_1, setI_2, Bool.not_true, Bool.not_false, Bool.false_eq_true, if_false, if_true]; exact h)); (try dsimp only [gName, tNext, List.set_cons_zero, List.set_cons_succ]))
    (refine evE ?P73 (fun Q h => ?h73) ?_; (case h73 => (simp only [tTest, tOp, tUn, tVar, tC, tCB, tCons, tNil, tAnd, tOr, tNot, tB, tTup, tLst, tIf, tAndV, tOrV, tNotV, tSl, tPart, tNoPart, tCall, iIx_ref, oGt_int, oMod_int, oFdiv_int, oAdd_int, oAdd_str, oSub_int, oMul_int, oLt_int, oGe_int, oLe_int, oPow_int, uNeg_int, oEq_int, oEq_str, oEq_bl, oNe_int, oNe_str, oNe_bl, cInt_int, cInt_bl, cAbs_int, cLen_ref, cList_ref, stL_ref, gName, gSub, gTup, gCons, gNil, rdSeq, List.getElem?_cons_zero, List.getElem?_cons_succ, List.set_cons_zero, List.set_cons_succ, List.cons_append, List.nil_append, Option.some.injEq, exists_eq_left', V.bl.injEq, V.int.injEq, V.ref.injEq, atI_0, atI_1, atI_2, setI_1, setI_2, Bool.not_true, Bool.not_false, Bool.false_eq_true, if_false, if_true]; exact h)); (try dsimp only [gName, tNext, List.set_cons_zero, List.set_cons_succ]))
    refine ⟨x, _, dx, _, rfl, hx, cl, na _ (by decide), by show 1 < 1000; decide, ?_⟩
    exact k _ (fun b o hb e => by rw [upd_ne hb]; exact kp1 b o hb e) upd_same
  · exact h.elim

def sp_Mean_init (K : PySem.W.Frag) (A : Ad) : Sp := fun xs H Q _ => match xs with
  | [.ref x, v0, v1, v2] => ∃ dx, Cls K A.c_Mean ∧ (∀ n ∈ P10.Mean.names, NoAttr K A.c_Mean n) ∧ H x = some (.ins A.c_Mean dx []) ∧ ∀ H', Keep x H H' → H' x = some (.ins A.c_Mean dx [("rate", v0), ("ring", v1), ("heights", v2)]) → Q .non H'
  | _ => False
def t_Mean_init_2 (K : PySem.W.Frag) (A : Ad) : TS := (sFld K (tVar 0) (tVar 3) "heights")
def t_Mean_init_1 (K : PySem.W.Frag) (A : Ad) : TS := (tSeq (sFld K (tVar 0) (tVar 2) "ring") (t_Mean_init_2 K A))
def t_Mean_init_0 (K : PySem.W.Frag) (A : Ad) : TS := (tSeq (sFld K (tVar 0) (tVar 1) "rate") (t_Mean_init_1 K A))

theorem pure_Mean_init {K : PySem.W.Frag} {A : Ad} {xs : List V} {H : Hp} {Q : VK} {E : XK} (h : sp_Mean_init K A xs H Q E) : (t_Mean_init_0 K A) { nx := fun _ H' => Q .non H', rt := Q } (start ["self", "rate", "ring", "heights"] xs) H := by
  unfold sp_Mean_init at h
  split at h
  · rename_i x v0 v1 v2
    obtain ⟨dx, cl, na, hx, k⟩ := h
    show (t_Mean_init_0 K A) _ [some (.ref x), some (v0), some (v1), some (v2)] H
    refine st_seq (st_fld ?_)
    (refine evE ?P74 (fun Q h => ?h74) ?_; (case h74 => (simp only [tTest, tOp, tUn, tVar, tC, tCB, tCons, tNil, tAnd, tOr, tNot, tB, tTup, tLst, tIf, tAndV, tOrV, tNotV, tSl, tPart, tNoPart, tCall, iIx_ref, oGt_int, oMod_int, oFdiv_int, oAdd_int, oAdd_str, oSub_int, oMul_int, oLt_int, oGe_int, oLe_int, oPow_int, uNeg_int, oEq_int, oEq_str, oEq_bl, oNe_int, oNe_str, oNe_bl, cInt_int, cInt_bl, cAbs_int, cLen_ref, cList_ref, stL_ref, gName, gSub, gTup, gCons, gNil, rdSeq, List.getElem?_cons_zero, List.getElem?_cons_succ, List.set_cons_zero, List.set_cons_succ, List.cons_append, List.nil_append, Option.some.injEq, exists_eq_left', V.bl.injEq, V.int.injEq, V.ref.injEq, atI_0, atI_1, atI_2, setI_1, setI_2, Bool.not_true, Bool.not_false, Bool.false_eq_true, if_false, if_true]; exact h)); (try dsimp only [gName, tNext, List.set_cons_zero, List.set_cons_succ]))
    (refine evE ?P75 (fun Q h => ?h75) ?_; (case h75 => (simp only [tTest, tOp, tUn, tVar, tC, tCB, tCons, tNil, tAnd, tOr, tNot, tB, tTup, tLst, tIf, tAndV, tOrV, tNotV, tSl, tPart, tNoPart, tCall, iIx_ref, oGt_int, oMod_int, oFdiv_int, oAdd_int, oAdd_str, oSub_int, oMul_int, oLt_int, oGe_int, oLe_int, oPow_int, uNeg_int, oEq_int, oEq_str, oEq_bl, oNe_int, oNe_str, oNe_bl, cInt_int, cInt_bl, cAbs_int, cLen_ref, cList_ref, stL_ref, gName, gSub, gTup, gCons, gNil, rdSeq, List.getElem?_cons_zero, List.getElem?_cons_succ, List.set_cons_zero, List.set_cons_succ, List.cons_append, List.nil_append, Option.some.injEq, exists_eq_left', V.bl.injEq, V.int.injEq, V.ref.injEq, atI_0, atI_1, atI_2, setI_1, setI_2, Bool.not_true, Bool.not_false, Bool.false_eq_true, if_false, if_true]; exact h)); (try dsimp only [gName, tNext, List.set_cons_zero, List.set_cons_succ]))
    refine ⟨x, _, dx, _, rfl, hx, cl, na _ (by decide), by show 0 < 1000; decide, ?_⟩
    show t_Mean_init_1 K A _ _ (upd H x (.ins A.c_Mean dx [("rate", v0)]))
    have kp1 : Keep x H (upd H x (.ins A.c_Mean dx [("rate", v0)])) := fun b o hb e => by rw [upd_ne hb]; exact e
    have hx : upd H x (.ins A.c_Mean dx [("rate", v0)]) x = some (.ins A.c_Mean dx [("rate", v0)]) := upd_same
    generalize upd H x (.ins A.c_Mean dx [("rate", v0)]) = H1 at *
    refine st_seq (st_fld ?_)
    (refine evE ?P76 (fun Q h => ?h76) ?_; (case h76 => (simp only [tTest, tOp, tUn, tVar, tC, tCB, tCons, tNil, tAnd, tOr, tNot, tB, tTup, tLst, tIf, tAndV, tOrV, tNotV, tSl, tPart, tNoPart, tCall, iIx_ref, oGt_int, oMod_int, oFdiv_int, oAdd_int, oAdd_str, oSub_int, oMul_int, oLt_int, oGe_int, oLe_int, oPow_int, uNeg_int, oEq_int, oEq_str, oEq_bl, oNe_int, oNe_str, oNe_bl, cInt_int, cInt_bl, cAbs_int, cLen_ref, cList_ref, stL_ref, gName, gSub, gTup, gCons, gNil, rdSeq, List.getElem?_cons_zero, List.getElem?_cons_succ, List.set_cons_zero, List.set_cons_succ, List.cons_append, List.nil_append, Option.some.injEq, exists_eq_left', V.bl.injEq, V.int.injEq, V.ref.injEq, atI_0, atI_1, atI_2, setI_1, setI_2, Bool.not_true, Bool.not_false, Bool.false_eq_true, if_false, if_true]; exact h)); (try dsimp only [gName, tNext, List.set_cons_zero, List.set_cons_succ]))
    (refine evE ?P77 (fun Q h => ?h77) ?_; (case h77 => (simp only [tTest, tOp, tUn, tVar, tC, tCB, tCons, tNil, tAnd, tOr, tNot, tB, tTup, tLst, tIf, tAndV, tOrV, tNotV, tSl, tPart, tNoPart, tCall, iIx_ref, oGt_int, oMod_int, oFdiv_int, oAdd_int, oAdd_str, oSub_int, oMul_int, oLt_int, oGe_int, oLe_int, oPow_int, uNeg_int, oEq_int, oEq_str, oEq_bl, oNe_int, oNe_str, oNe_bl, cInt_int, cInt_bl, cAbs_int, cLen_ref, cList_ref, stL_ref, gName, gSub, gTup, gCons, gNil, rdSeq, List.getElem?_cons_zero, List.getElem?_cons_succ, List.set_cons_zero, List.set_cons_succ, List.cons_append, List.nil_append, Option.some.injEq, exists_eq_left', V.bl.injEq, V.int.injEq, V.ref.injEq, atI_0, atI_1, atI_2, setI_1, setI_2, Bool.not_true, Bool.not_false, Bool.false_eq_true, if_false, if_true]; exact h)); (try dsimp only [gName, tNext, List.set_cons_zero, List.set_cons_succ]))
    refine ⟨x, _, dx, _, rfl, hx, cl, na _ (by decide), by show 1 < 1000; decide, ?_⟩
    show t_Mean_init_2 K A _ _ (upd H1 x (.ins A.c_Mean dx [("rate", v0), ("ring", v1)]))
    have kp2 : Keep x H (upd H1 x (.ins A.c_Mean dx [("rate", v0), ("ring", v1)])) := fun b o hb e => by rw [upd_ne hb]; exact kp1 b o hb e
    have hx : upd H1 x (.ins A.c_Mean dx [("rate", v0), ("ring", v1)]) x = some (.ins A.c_Mean dx [("rate", v0), ("ring", v1)]) := upd_same
    generalize upd H1 x (.ins A.c_Mean dx [("rate", v0), ("ring", v1)]) = H2 at *
    refine st_fld ?_
    (refine evE ?P78 (fun Q h => ?h78) ?_; (case h78 => (simp only [tTest, tOp, tUn, tVar, tC, tCB, tCons, tNil, tAnd, tOr, tNot, tB, tTup, tLst, tIf, tAndV, tOrV, tNotV, tSl, tPart, tNoPart, tCall, iIx_ref, oGt_int, oMod_int, oFdiv_int, oAdd_int, oAdd_str, oSub_int, oMul_int, oLt_int, oGe_int, oLe_int, oPow_int, uNeg_int, oEq_int, oEq_str, oEq_bl, oNe_int, oNe_str, oNe_bl, cInt_int, cInt_bl, cAbs_int, cLen_ref, cList_ref, stL_ref, gName, gSub, gTup, gCons, gNil, rdSeq, List.getElem?_cons_zero, List.getElem?_cons_succ, List.set_cons_zero, List.set_cons_succ, List.cons_append, List.nil_append, Option.some.injEq, exists_eq_left', V.bl.injEq, V.int.injEq, V.ref.injEq, atI_0, atI_1, atI_2, setI_1, setI_2, Bool.not_true, Bool.not_false, Bool.false_eq_true, if_false, if_true]; exact h)); (try dsimp only [gName, tNext, List.set_cons_zero, List.set_cons_succ]))
    (refine evE ?P79 (fun Q h => ?h79) ?_; (case h79 => (simp only [tTest, tOp, tUn, tVar, tC, tCB, tCons, tNil, tAnd, tOr, tNot, tB, tTup, tLst, tIf, tAndV, tOrV, tNotV, tSl, tPart, tNoPart, tCall, iIx_ref, oGt_int, oMod_int, oFdiv_int, oAdd_int, oAdd_str, oSub_int, oMul_int, oLt_int, oGe_int, oLe_int, oPow_int, uNeg_int, oEq_int, oEq_str, oEq_bl, oNe_int, oNe_str, oNe_bl, cInt_int, cInt_bl, cAbs_int, cLen_ref, cList_ref, stL_ref, gName, gSub, gTup, gCons, gNil, rdSeq, List.getElem?_cons_zero, List.getElem?_cons_succ, List.set_cons_zero, List.set_cons_succ, List.cons_append, List.nil_append, Option.some.injEq, exists_eq_left', V.bl.injEq, V.int.injEq, V.ref.injEq, atI_0, atI_1, atI_2, setI_1, setI_2, Bool.not_true, Bool.not_false, Bool.false_eq_true, if_false, if_true]; exact h)); (try dsimp only [gName, tNext, List.set_cons_zero, List.set_cons_succ]))
    refine ⟨x, _, dx, _, rfl, hx, cl, na _ (by decide), by show 2 < 1000; decide, ?_⟩
    exact k _ (fun b o hb e => by rw [upd_ne hb]; exact kp2 b o hb e) upd_same
  · exact h.elim

def sp_Lengths_init (K : PySem.W.Frag) (A : Ad) : Sp := fun xs H Q _ => match xs with
  | [.ref x, v0, v1, v2] => ∃ dx, Cls K A.c_Lengths ∧ (∀ n ∈ P10.Lengths.names, NoAttr K A.c_Lengths n) ∧ H x = some (.ins A.c_Lengths dx []) ∧ ∀ H', Keep x H H' → H' x = some (.ins A.c_Lengths dx [("first", v0), ("steps", v1), ("tails", v2)]) → Q .non H'
  | _ => False
def t_Lengths_init_2 (K : PySem.W.Frag) (A : Ad) : TS := (sFld K (tVar 0) (tVar 3) "tails")
def t_Lengths_init_1 (K : PySem.W.Frag) (A : Ad) : TS := (tSeq (sFld K (tVar 0) (tVar 2) "steps") (t_Lengths_init_2 K A))
def t_Lengths_init_0 (K : PySem.W.Frag) (A : Ad) : TS := (tSeq (sFld K (tVar 0) (tVar 1) "first") (t_Lengths_init_1 K A))

theorem pure_Lengths_init {K : PySem.W.Frag} {A : Ad} {xs : List V} {H : Hp} {Q : VK} {E : XK} (h : sp_Lengths_init K A xs H Q E) : (t_Lengths_init_0 K A) { nx := fun _ H' => Q .non H', rt := Q } (start ["self", "first", "steps", "tails"] xs) H := by
  unfold sp_Lengths_init at h
  split at h
  · rename_i x v0 v1 v2
    obtain ⟨dx, cl, na, hx, k⟩ := h
    show (t_Lengths_init_0 K A) _ [some (.ref x), some (v0), some (v1), some (v2)] H
    refine st_seq (st_fld ?_)
    (refine evE ?P80 (fun Q h => ?h80) ?_; (case h80 => (simp only [tTest, tOp, tUn, tVar, tC, tCB, tCons, tNil, tAnd, tOr, tNot, tB, tTup, tLst, tIf, tAndV, tOrV, tNotV, tSl, tPart, tNoPart, tCall, iIx_ref, oGt_int, oMod_int, oFdiv_int, oAdd_int, oAdd_str, oSub_int, oMul_int, oLt_int, oGe_int, oLe_int, oPow_int, uNeg_int, oEq_int, oEq_str, oEq_bl, oNe_int, oNe_str, oNe_bl, cInt_int, cInt_bl, cAbs_int, cLen_ref, cList_ref, stL_ref, gName, gSub, gTup, gCons, gNil, rdSeq, List.getElem?_cons_zero, List.getElem?_cons_succ, List.set_cons_zero, List.set_cons_succ, List.cons_append, List.nil_append, Option.some.injEq, exists_eq_left', V.bl.injEq, V.int.injEq, V.ref.injEq, atI_0, atI_1, atI_2, setI_1, setI_2, Bool.not_true, Bool.not_false, Bool.false_eq_true, if_false, if_true]; exact h)); (try dsimp only [gName, tNext, List.set_cons_zero, List.set_cons_succ]))
    (refine evE ?P81 (fun Q h => ?h81) ?_; (case h81 => (simp only [tTest, tOp, tUn, tVar, tC, tCB, tCons, tNil, tAnd, tOr, tNot, tB, tTup, tLst, tIf, tAndV, tOrV, tNotV, tSl, tPart, tNoPart, tCall, iIx_ref, oGt_int, oMod_int, oFdiv_int, oAdd_int, oAdd_str, oSub_int, oMul_int, oLt_int, oGe_int, oLe_int, oPow_int, uNeg_int, oEq_int, oEq_str, oEq_bl, oNe_int, oNe_str, oNe_bl, cInt_int, cInt_bl, cAbs_int, cLen_ref, cList_ref, stL_ref, gName, gSub, gTup, gCons, gNil, rdSeq, List.getElem?_cons_zero, List.getElem?_cons_succ, List.set_cons_zero, List.set_cons_succ, List.cons_append, List.nil_append, Option.some.injEq, exists_eq_left', V.bl.injEq, V.int.injEq, V.ref.injEq, atI_0, atI_1, atI_2, setI_1, setI_2, Bool.not_true, Bool.not_false, Bool.false_eq_true, if_false, if_true]; exact h)); (try dsimp only [gName, tNext, List.set_cons_zero, List.set_cons_succ]))
    refine ⟨x, _, dx, _, rfl, hx, cl, na _ (by decide), by show 0 < 1000; decide, ?_⟩
    show t_Lengths_init_1 K A _ _ (upd H x (.ins A.c_Lengths dx [("first", v0)]))
    have kp1 : Keep x H (upd H x (.ins A.c_Lengths dx [("first", v0)])) := fun b o hb e => by rw [upd_ne hb]; exact e
    have hx : upd H x (.ins A.c_Lengths dx [("first", v0)]) x = some (.ins A.c_Lengths dx [("first", v0)]) := upd_same
    generalize upd H x (.ins A.c_Lengths dx [("first", v0)]) = H1 at *
    refine st_seq (st_fld ?_)
    (refine evE ?P82 (fun Q h => ?h82) ?_; (case h82 => (simp only [tTest, tOp, tUn, tVar, tC, tCB, tCons, tNil, tAnd, tOr, tNot, tB, tTup, tLst, tIf, tAndV, tOrV, tNotV, tSl, tPart, tNoPart, tCall, iIx_ref, oGt_int, oMod_int, oFdiv_int, oAdd_int, oAdd_str, oSub_int, oMul_int, oLt_int, oGe_int, oLe_int, oPow_int, uNeg_int, oEq_int, oEq_str, oEq_bl, oNe_int, oNe_str, oNe_bl, cInt_int, cInt_bl, cAbs_int, cLen_ref, cList_ref, stL_ref, gName, gSub, gTup, gCons, gNil, rdSeq, List.getElem?_cons_zero, List.getElem?_cons_succ, List.set_cons_zero, List.set_cons_succ, List.cons_append, List.nil_append, Option.some.injEq, exists_eq_left', V.bl.injEq, V.int.injEq, V.ref.injEq, atI_0, atI_1, atI_2, setI_1, setI_2, Bool.not_true, Bool.not_false, Bool.false_eq_true, if_false, if_true]; exact h)); (try dsimp only [gName, tNext, List.set_cons_zero, List.set_cons_succ]))
    (refine evE ?P83 (fun Q h => ?h83) ?_; (case h83 => (simp only [tTest, tOp, tUn, tVar, tC, tCB, tCons, tNil, tAnd, tOr, tNot, tB, tTup, tLst, tIf, tAndV, tOrV, tNotV, tSl, tPart, tNoPart, tCall, iIx_ref, oGt_int, oMod_int, oFdiv_int, oAdd_int, oAdd_str, oSub_int, oMul_int, oLt_int, oGe_int, oLe_int, oPow_int, uNeg_int, oEq_int, oEq_str, oEq_bl, oNe_int, oNe_str, oNe_bl, cInt_int, cInt_bl, cAbs_int, cLen_ref, cList_ref, stL_ref, gName, gSub, gTup, gCons, gNil, rdSeq, List.getElem?_cons_zero, List.getElem?_cons_succ, List.set_cons_zero, List.set_cons_succ, List.cons_append, List.nil_append, Option.some.injEq, exists_eq_left', V.bl.injEq, V.int.injEq, V.ref.injEq, atI_0, atI_1, atI_2, setI_1, setI_2, Bool.not_true, Bool.not_false, Bool.false_eq_true, if_false, if_true]; exact h)); (try dsimp only [gName, tNext, List.set_cons_zero, List.set_cons_succ]))
    refine ⟨x, _, dx, _, rfl, hx, cl, na _ (by decide), by show 1 < 1000; decide, ?_⟩
    show t_Lengths_init_2 K A _ _ (upd H1 x (.ins A.c_Lengths dx [("first", v0), ("steps", v1)]))
    have kp2 : Keep x H (upd H1 x (.ins A.c_Lengths dx [("first", v0), ("steps", v1)])) := fun b o hb e => by rw [upd_ne hb]; exact kp1 b o hb e
    have hx : upd H1 x (.ins A.c_Lengths dx [("first", v0), ("steps", v1)]) x = some (.ins A.c_Lengths dx [("first", v0), ("steps", v1)]) := upd_same
    generalize upd H1 x (.ins A.c_Lengths dx [("first", v0), ("steps", v1)]) = H2 at *
    refine st_fld ?_
    (refine evE ?P84 (fun Q h => ?h84) ?_; (case h84 => (simp only [tTest, tOp, tUn, tVar, tC, tCB, tCons, tNil, tAnd, tOr, tNot, tB, tTup, tLst, tIf, tAndV, tOrV, tNotV, tSl, tPart, tNoPart, tCall, iIx_ref, oGt_int, oMod_int, oFdiv_int, oAdd_int, oAdd_str, oSub_int, oMul_int, oLt_int, oGe_int, oLe_int, oPow_int, uNeg_int, oEq_int, oEq_str, oEq_bl, oNe_int, oNe_str, oNe_bl, cInt_int, cInt_bl, cAbs_int, cLen_ref, cList_ref, stL_ref, gName, gSub, gTup, gCons, gNil, rdSeq, List.getElem?_cons_zero, List.getElem?_cons_succ, List.set_cons_zero, List.set_cons_succ, List.cons_append, List.nil_append, Option.some.injEq, exists_eq_left', V.bl.injEq, V.int.injEq, V.ref.injEq, atI_0, atI_1, atI_2, setI_1, setI_2, Bool.not_true, Bool.not_false, Bool.false_eq_true, if_false, if_true]; exact h)); (try dsimp only [gName, tNext, List.set_cons_zero, List.set_cons_succ]))
    (refine evE ?P85 (fun Q h => ?h85) ?_; (case h85 => (simp only [tTest, tOp, tUn, tVar, tC, tCB, tCons, tNil, tAnd, tOr, tNot, tB, tTup, tLst, tIf, tAndV, tOrV, tNotV, tSl, tPart, tNoPart, tCall, iIx_ref, oGt_int, oMod_int, oFdiv_int, oAdd_int, oAdd_str, oSub_int, oMul_int, oLt_int, oGe_int, oLe_int, oPow_int, uNeg_int, oEq_int, oEq_str, oEq_bl, oNe_int, oNe_str, oNe_bl, cInt_int, cInt_bl, cAbs_int, cLen_ref, cList_ref, stL_ref, gName, gSub, gTup, gCons, gNil, rdSeq, List.getElem?_cons_zero, List.getElem?_cons_succ, List.set_cons_zero, List.set_cons_succ, List.cons_append, List.nil_append, Option.some.injEq, exists_eq_left', V.bl.injEq, V.int.injEq, V.ref.injEq, atI_0, atI_1, atI_2, setI_1, setI_2, Bool.not_true, Bool.not_false, Bool.false_eq_true, if_false, if_true]; exact h)); (try dsimp only [gName, tNext, List.set_cons_zero, List.set_cons_succ]))
    refine ⟨x, _, dx, _, rfl, hx, cl, na _ (by decide), by show 2 < 1000; decide, ?_⟩
    exact k _ (fun b o hb e => by rw [upd_ne hb]; exact kp2 b o hb e) upd_same
  · exact h.elim

def sp_Enough_bool (K : PySem.W.Frag) (A : Ad) : Sp := spBoolP .Enough A
def t_Enough_bool_0 (K : PySem.W.Frag) (A : Ad) : TS := (tRet (tC (.bl true)))

theorem pure_Enough_bool {K : PySem.W.Frag} {A : Ad} {xs : List V} {H : Hp} {Q : VK} {E : XK} (h : sp_Enough_bool K A xs H Q E) : (t_Enough_bool_0 K A) { nx := fun _ H' => Q .non H', rt := Q } (start ["self"] xs) H := by
  unfold sp_Enough_bool spBoolP at h
  split at h
  · rename_i x
    show (t_Enough_bool_0 K A) _ [some (.ref x)] H
    refine st_ret ?_
    (refine evE ?P86 (fun Q h => ?h86) ?_; (case h86 => (simp only [tTest, tOp, tUn, tVar, tC, tCB, tCons, tNil, tAnd, tOr, tNot, tB, tTup, tLst, tIf, tAndV, tOrV, tNotV, tSl, tPart, tNoPart, tCall, iIx_ref, oGt_int, oMod_int, oFdiv_int, oAdd_int, oAdd_str, oSub_int, oMul_int, oLt_int, oGe_int, oLe_int, oPow_int, uNeg_int, oEq_int, oEq_str, oEq_bl, oNe_int, oNe_str, oNe_bl, cInt_int, cInt_bl, cAbs_int, cLen_ref, cList_ref, stL_ref, gName, gSub, gTup, gCons, gNil, rdSeq, List.getElem?_cons_zero, List.getElem?_cons_succ, List.set_cons_zero, List.set_cons_succ, List.cons_append, List.nil_append, Option.some.injEq, exists_eq_left', V.bl.injEq, V.int.injEq, V.ref.injEq, atI_0, atI_1, atI_2, setI_1, setI_2, Bool.not_true, Bool.not_false, Bool.false_eq_true, if_false, if_true]; exact h)); (try dsimp only [gName, tNext, List.set_cons_zero, List.set_cons_succ]))
    exact h.2
  · exact h.elim

def sp_Fits_bool (K : PySem.W.Frag) (A : Ad) : Sp := spBoolP .Fits A
def t_Fits_bool_0 (K : PySem.W.Frag) (A : Ad) : TS := (tRet (tC (.bl true)))

theorem pure_Fits_bool {K : PySem.W.Frag} {A : Ad} {xs : List V} {H : Hp} {Q : VK} {E : XK} (h : sp_Fits_bool K A xs H Q E) : (t_Fits_bool_0 K A) { nx := fun _ H' => Q .non H', rt := Q } (start ["self"] xs) H := by
  unfold sp_Fits_bool spBoolP at h
  split at h
  · rename_i x
    show (t_Fits_bool_0 K A) _ [some (.ref x)] H
    refine st_ret ?_
    (refine evE ?P87 (fun Q h => ?h87) ?_; (case h87 => (simp only [tTest, tOp, tUn, tVar, tC, tCB, tCons, tNil, tAnd, tOr, tNot, tB, tTup, tLst, tIf, tAndV, tOrV, tNotV, tSl, tPart, tNoPart, tCall, iIx_ref, oGt_int, oMod_int, oFdiv_int, oAdd_int, oAdd_str, oSub_int, oMul_int, oLt_int, oGe_int, oLe_int, oPow_int, uNeg_int, oEq_int, oEq_str, oEq_bl, oNe_int, oNe_str, oNe_bl, cInt_int, cInt_bl, cAbs_int, cLen_ref, cList_ref, stL_ref, gName, gSub, gTup, gCons, gNil, rdSeq, List.getElem?_cons_zero, List.getElem?_cons_succ, List.set_cons_zero, List.set_cons_succ, List.cons_append, List.nil_append, Option.some.injEq, exists_eq_left', V.bl.injEq, V.int.injEq, V.ref.injEq, atI_0, atI_1, atI_2, setI_1, setI_2, Bool.not_true, Bool.not_false, Bool.false_eq_true, if_false, if_true]; exact h)); (try dsimp only [gName, tNext, List.set_cons_zero, List.set_cons_succ]))
    exact h.2
  · exact h.elim

def sp_Cut_bool (K : PySem.W.Frag) (A : Ad) : Sp := spBoolP .Cut A
def t_Cut_bool_0 (K : PySem.W.Frag) (A : Ad) : TS := (tRet (tC (.bl true)))

theorem pure_Cut_bool {K : PySem.W.Frag} {A : Ad} {xs : List V} {H : Hp} {Q : VK} {E : XK} (h : sp_Cut_bool K A xs H Q E) : (t_Cut_bool_0 K A) { nx := fun _ H' => Q .non H', rt := Q } (start ["self"] xs) H := by
  unfold sp_Cut_bool spBoolP at h
  split at h
  · rename_i x
    show (t_Cut_bool_0 K A) _ [some (.ref x)] H
    refine st_ret ?_
    (refine evE ?P88 (fun Q h => ?h88) ?_; (case h88 => (simp only [tTest, tOp, tUn, tVar, tC, tCB, tCons, tNil, tAnd, tOr, tNot, tB, tTup, tLst, tIf, tAndV, tOrV, tNotV, tSl, tPart, tNoPart, tCall, iIx_ref, oGt_int, oMod_int, oFdiv_int, oAdd_int, oAdd_str, oSub_int, oMul_int, oLt_int, oGe_int, oLe_int, oPow_int, uNeg_int, oEq_int, oEq_str, oEq_bl, oNe_int, oNe_str, oNe_bl, cInt_int, cInt_bl, cAbs_int, cLen_ref, cList_ref, stL_ref, gName, gSub, gTup, gCons, gNil, rdSeq, List.getElem?_cons_zero, List.getElem?_cons_succ, List.set_cons_zero, List.set_cons_succ, List.cons_append, List.nil_append, Option.some.injEq, exists_eq_left', V.bl.injEq, V.int.injEq, V.ref.injEq, atI_0, atI_1, atI_2, setI_1, setI_2, Bool.not_true, Bool.not_false, Bool.false_eq_true, if_false, if_true]; exact h)); (try dsimp only [gName, tNext, List.set_cons_zero, List.set_cons_succ]))
    exact h.2
  · exact h.elim

def sp_Never_bool (K : PySem.W.Frag) (A : Ad) : Sp := spBoolP .Never A
def t_Never_bool_0 (K : PySem.W.Frag) (A : Ad) : TS := (tRet (tC (.bl false)))

theorem pure_Never_bool {K : PySem.W.Frag} {A : Ad} {xs : List V} {H : Hp} {Q : VK} {E : XK} (h : sp_Never_bool K A xs H Q E) : (t_Never_bool_0 K A) { nx := fun _ H' => Q .non H', rt := Q } (start ["self"] xs) H := by
  unfold sp_Never_bool spBoolP at h
  split at h
  · rename_i x
    show (t_Never_bool_0 K A) _ [some (.ref x)] H
    refine st_ret ?_
    (refine evE ?P89 (fun Q h => ?h89) ?_; (case h89 => (simp only [tTest, tOp, tUn, tVar, tC, tCB, tCons, tNil, tAnd, tOr, tNot, tB, tTup, tLst, tIf, tAndV, tOrV, tNotV, tSl, tPart, tNoPart, tCall, iIx_ref, oGt_int, oMod_int, oFdiv_int, oAdd_int, oAdd_str, oSub_int, oMul_int, oLt_int, oGe_int, oLe_int, oPow_int, uNeg_int, oEq_int, oEq_str, oEq_bl, oNe_int, oNe_str, oNe_bl, cInt_int, cInt_bl, cAbs_int, cLen_ref, cList_ref, stL_ref, gName, gSub, gTup, gCons, gNil, rdSeq, List.getElem?_cons_zero, List.getElem?_cons_succ, List.set_cons_zero, List.set_cons_succ, List.cons_append, List.nil_append, Option.some.injEq, exists_eq_left', V.bl.injEq, V.int.injEq, V.ref.injEq, atI_0, atI_1, atI_2, setI_1, setI_2, Bool.not_true, Bool.not_false, Bool.false_eq_true, if_false, if_true]; exact h)); (try dsimp only [gName, tNext, List.set_cons_zero, List.set_cons_succ]))
    exact h.2
  · exact h.elim

def sp_Beyond_bool (K : PySem.W.Frag) (A : Ad) : Sp := spBoolP .Beyond A
def t_Beyond_bool_0 (K : PySem.W.Frag) (A : Ad) : TS := (tRet (tC (.bl false)))

theorem pure_Beyond_bool {K : PySem.W.Frag} {A : Ad} {xs : List V} {H : Hp} {Q : VK} {E : XK} (h : sp_Beyond_bool K A xs H Q E) : (t_Beyond_bool_0 K A) { nx := fun _ H' => Q .non H', rt := Q } (start ["self"] xs) H := by
  unfold sp_Beyond_bool spBoolP at h
  split at h
  · rename_i x
    show (t_Beyond_bool_0 K A) _ [some (.ref x)] H
    refine st_ret ?_
    (refine evE ?P90 (fun Q h => ?h90) ?_; (case h90 => (simp only [tTest, tOp, tUn, tVar, tC, tCB, tCons, tNil, tAnd, tOr, tNot, tB, tTup, tLst, tIf, tAndV, tOrV, tNotV, tSl, tPart, tNoPart, tCall, iIx_ref, oGt_int, oMod_int, oFdiv_int, oAdd_int, oAdd_str, oSub_int, oMul_int, oLt_int, oGe_int, oLe_int, oPow_int, uNeg_int, oEq_int, oEq_str, oEq_bl, oNe_int, oNe_str, oNe_bl, cInt_int, cInt_bl, cAbs_int, cLen_ref, cList_ref, stL_ref, gName, gSub, gTup, gCons, gNil, rdSeq, List.getElem?_cons_zero, List.getElem?_cons_succ, List.set_cons_zero, List.set_cons_succ, List.cons_append, List.nil_append, Option.some.injEq, exists_eq_left', V.bl.injEq, V.int.injEq, V.ref.injEq, atI_0, atI_1, atI_2, setI_1, setI_2, Bool.not_true, Bool.not_false, Bool.false_eq_true, if_false, if_true]; exact h)); (try dsimp only [gName, tNext, List.set_cons_zero, List.set_cons_succ]))
    exact h.2
  · exact h.elim

def sp_EndlessCut_bool (K : PySem.W.Frag) (A : Ad) : Sp := spBoolP .EndlessCut A
def t_EndlessCut_bool_0 (K : PySem.W.Frag) (A : Ad) : TS := (tRet (tC (.bl false)))

theorem pure_EndlessCut_bool {K : PySem.W.Frag} {A : Ad} {xs : List V} {H : Hp} {Q : VK} {E : XK} (h : sp_EndlessCut_bool K A xs H Q E) : (t_EndlessCut_bool_0 K A) { nx := fun _ H' => Q .non H', rt := Q } (start ["self"] xs) H := by
  unfold sp_EndlessCut_bool spBoolP at h
  split at h
  · rename_i x
    show (t_EndlessCut_bool_0 K A) _ [some (.ref x)] H
    refine st_ret ?_
    (refine evE ?P91 (fun Q h => ?h91) ?_; (case h91 => (simp only [tTest, tOp, tUn, tVar, tC, tCB, tCons, tNil, tAnd, tOr, tNot, tB, tTup, tLst, tIf, tAndV, tOrV, tNotV, tSl, tPart, tNoPart, tCall, iIx_ref, oGt_int, oMod_int, oFdiv_int, oAdd_int, oAdd_str, oSub_int, oMul_int, oLt_int, oGe_int, oLe_int, oPow_int, uNeg_int, oEq_int, oEq_str, oEq_bl, oNe_int, oNe_str, oNe_bl, cInt_int, cInt_bl, cAbs_int, cLen_ref, cList_ref, stL_ref, gName, gSub, gTup, gCons, gNil, rdSeq, List.getElem?_cons_zero, List.getElem?_cons_succ, List.set_cons_zero, List.set_cons_succ, List.cons_append, List.nil_append, Option.some.injEq, exists_eq_left', V.bl.injEq, V.int.injEq, V.ref.injEq, atI_0, atI_1, atI_2, setI_1, setI_2, Bool.not_true, Bool.not_false, Bool.false_eq_true, if_false, if_true]; exact h)); (try dsimp only [gName, tNext, List.set_cons_zero, List.set_cons_succ]))
    exact h.2
  · exact h.elim

def sp_Enough_eq (K : PySem.W.Frag) (A : Ad) : Sp := spEqP .Enough K A
def t_Enough_eq_1 (K : PySem.W.Frag) (A : Ad) : TS := (tRet (tC (.bl false)))
def t_Enough_eq_2 (K : PySem.W.Frag) (A : Ad) : TS := (tRet (tAndV (tOp rEq9 (tFld K (tVar 0) "heights") (tFld K (tVar 1) "heights")) (tOp rEq9 (tFld K (tVar 0) "text") (tFld K (tVar 1) "text"))))
def t_Enough_eq_0 (K : PySem.W.Frag) (A : Ad) : TS := (tSeq (tIfS (tOr (tNot (tB (tCB (cIsi K) (tCons (tVar 1) (tCons (tC (.ref A.c_Enough)) tNil))))) (tTest (tOp rNe9 (tFld K (tVar 0) "number") (tFld K (tVar 1) "number")))) (t_Enough_eq_1 K A) tNext) (t_Enough_eq_2 K A))

theorem pure_Enough_eq {K : PySem.W.Frag} {A : Ad} {xs : List V} {H : Hp} {Q : VK} {E : XK} (F : KF K A) (h : sp_Enough_eq K A xs H Q E) : (t_Enough_eq_0 K A) { nx := fun _ H' => Q .non H', rt := Q } (start ["self", "other"] xs) H := by
  unfold sp_Enough_eq spEqP at h
  have cl : Cls K A.c_Enough := (F.ty .Enough).cl
  have na : ∀ n ∈ P10.Enough.names, NoAttr K A.c_Enough n := F.na .Enough
  split at h
  · rename_i a y
    obtain ⟨w, vs, S, P, h⟩ := h
    obtain ⟨hl, dx, ha⟩ := P
    obtain ⟨v0, v1, v2, rfl⟩ := len3 hl
    rcases h with ⟨b, us, rfl, Pb, k⟩ | ⟨⟨t, ht, hok, hk⟩, k⟩
    · have hty : tyF H (.ref b) = some (.ref A.c_Enough) := Pb.ty
      obtain ⟨hl2, dy, hb⟩ := Pb
      obtain ⟨u0, u1, u2, rfl⟩ := len3 hl2
      replace ha : H a = some (.ins A.c_Enough dx [("number", W9.v w v0), ("heights", W9.v w v1), ("text", W9.v w v2)]) := ha
      replace hb : H b = some (.ins A.c_Enough dy [("number", W9.v w u0), ("heights", W9.v w u1), ("text", W9.v w u2)]) := hb
      show (t_Enough_eq_0 K A) _ [some (.ref a), some (.ref b)] H
      refine st_seq (st_if ?_)
      (refine evT ?P92 (fun Q h => ?h92) ?_; (case h92 => (simp only [tTest, tOp, tUn, tVar, tC, tCB, tCons, tNil, tAnd, tOr, tNot, tB, tTup, tLst, tIf, tAndV, tOrV, tNotV, tSl, tPart, tNoPart, tCall, iIx_ref, oGt_int, oMod_int, oFdiv_int, oAdd_int, oAdd_str, oSub_int, oMul_int, oLt_int, oGe_int, oLe_int, oPow_int, uNeg_int, oEq_int, oEq_str, oEq_bl, oNe_int, oNe_str, oNe_bl, cInt_int, cInt_bl, cAbs_int, cLen_ref, cList_ref, stL_ref, gName, gSub, gTup, gCons, gNil, rdSeq, List.getElem?_cons_zero, List.getElem?_cons_succ, List.set_cons_zero, List.set_cons_succ, List.cons_append, List.nil_append, Option.some.injEq, exists_eq_left', V.bl.injEq, V.int.injEq, V.ref.injEq, atI_0, atI_1, atI_2, setI_1, setI_2, Bool.not_true, Bool.not_false, Bool.false_eq_true, if_false, if_true, cIsi, hty, kit_rr, tFld_eq]; exact h)); (try dsimp only [gName, tNext, List.set_cons_zero, List.set_cons_succ]))
      refine ⟨F.ty .Enough, ?_⟩
      refine fld_of cl (na _ (by decide)) ha rfl ?_
      refine fld_of cl (na _ (by decide)) hb rfl ?_
      refine ⟨w, v0, u0, S, rfl, rfl, ?_⟩
      by_cases e0 : v0 = u0
      case neg =>
        have hf : decide ([v0, v1, v2] = [u0, u1, u2]) = false := decide_eq_false fun z => e0 (by simp only [List.cons.injEq] at z; simp_all)
        rw [hf] at k
        rw [decide_eq_false e0]
        refine ⟨_, rfl, ?_⟩
        try simp only [Bool.not_false, Bool.not_true, if_true]
        refine st_ret ?_
        (refine evE ?P93 (fun Q h => ?h93) ?_; (case h93 => (simp only [tTest, tOp, tUn, tVar, tC, tCB, tCons, tNil, tAnd, tOr, tNot, tB, tTup, tLst, tIf, tAndV, tOrV, tNotV, tSl, tPart, tNoPart, tCall, iIx_ref, oGt_int, oMod_int, oFdiv_int, oAdd_int, oAdd_str, oSub_int, oMul_int, oLt_int, oGe_int, oLe_int, oPow_int, uNeg_int, oEq_int, oEq_str, oEq_bl, oNe_int, oNe_str, oNe_bl, cInt_int, cInt_bl, cAbs_int, cLen_ref, cList_ref, stL_ref, gName, gSub, gTup, gCons, gNil, rdSeq, List.getElem?_cons_zero, List.getElem?_cons_succ, List.set_cons_zero, List.set_cons_succ, List.cons_append, List.nil_append, Option.some.injEq, exists_eq_left', V.bl.injEq, V.int.injEq, V.ref.injEq, atI_0, atI_1, atI_2, setI_1, setI_2, Bool.not_true, Bool.not_false, Bool.false_eq_true, if_false, if_true]; exact h)); (try dsimp only [gName, tNext, List.set_cons_zero, List.set_cons_succ]))
        exact k _ .refl
      rw [decide_eq_true e0]
      refine ⟨_, rfl, ?_⟩
      refine if_no ?_
      show t_Enough_eq_2 K A _ _ _
      refine st_ret ?_
      (refine evE ?P94 (fun Q h => ?h94) ?_; (case h94 => (simp only [tTest, tOp, tUn, tVar, tC, tCB, tCons, tNil, tAnd, tOr, tNot, tB, tTup, tLst, tIf, tAndV, tOrV, tNotV, tSl, tPart, tNoPart, tCall, iIx_ref, oGt_int, oMod_int, oFdiv_int, oAdd_int, oAdd_str, oSub_int, oMul_int, oLt_int, oGe_int, oLe_int, oPow_int, uNeg_int, oEq_int, oEq_str, oEq_bl, oNe_int, oNe_str, oNe_bl, cInt_int, cInt_bl, cAbs_int, cLen_ref, cList_ref, stL_ref, gName, gSub, gTup, gCons, gNil, rdSeq, List.getElem?_cons_zero, List.getElem?_cons_succ, List.set_cons_zero, List.set_cons_succ, List.cons_append, List.nil_append, Option.some.injEq, exists_eq_left', V.bl.injEq, V.int.injEq, V.ref.injEq, atI_0, atI_1, atI_2, setI_1, setI_2, Bool.not_true, Bool.not_false, Bool.false_eq_true, if_false, if_true, tFld_eq]; exact h)); (try dsimp only [gName, tNext, List.set_cons_zero, List.set_cons_succ]))
      refine fld_of cl (na _ (by decide)) ha rfl ?_
      refine fld_of cl (na _ (by decide)) hb rfl ?_
      refine ⟨w, v1, u1, S, rfl, rfl, ?_⟩
      by_cases e1 : v1 = u1
      case neg =>
        have hf : decide ([v0, v1, v2] = [u0, u1, u2]) = false := decide_eq_false fun z => e1 (by simp only [List.cons.injEq] at z; simp_all)
        rw [hf] at k
        rw [decide_eq_false e1]
        refine ⟨_, rfl, ?_⟩
        refine if_no ?_
        exact k _ .refl
      rw [decide_eq_true e1]
      refine ⟨_, rfl, ?_⟩
      refine if_yes ?_
      refine fld_of cl (na _ (by decide)) ha rfl ?_
      refine fld_of cl (na _ (by decide)) hb rfl ?_
      refine ⟨w, v2, u2, S, rfl, rfl, ?_⟩
      have hf : decide ([v0, v1, v2] = [u0, u1, u2]) = decide (v2 = u2) := by
        refine decide_eq_decide.mpr ?_
        first
          | exact Iff.rfl
          | (simp only [List.cons.injEq]; constructor <;> intro z <;> (try simp_all))
      rw [← hf]
      exact k _ .refl
    · show (t_Enough_eq_0 K A) _ [some (.ref a), some (y)] H
      refine st_seq (st_if ?_)
      (refine evT ?P95 (fun Q h => ?h95) ?_; (case h95 => (simp only [tTest, tOp, tUn, tVar, tC, tCB, tCons, tNil, tAnd, tOr, tNot, tB, tTup, tLst, tIf, tAndV, tOrV, tNotV, tSl, tPart, tNoPart, tCall, iIx_ref, oGt_int, oMod_int, oFdiv_int, oAdd_int, oAdd_str, oSub_int, oMul_int, oLt_int, oGe_int, oLe_int, oPow_int, uNeg_int, oEq_int, oEq_str, oEq_bl, oNe_int, oNe_str, oNe_bl, cInt_int, cInt_bl, cAbs_int, cLen_ref, cList_ref, stL_ref, gName, gSub, gTup, gCons, gNil, rdSeq, List.getElem?_cons_zero, List.getElem?_cons_succ, List.set_cons_zero, List.set_cons_succ, List.cons_append, List.nil_append, Option.some.injEq, exists_eq_left', V.bl.injEq, V.int.injEq, V.ref.injEq, atI_0, atI_1, atI_2, setI_1, setI_2, Bool.not_true, Bool.not_false, Bool.false_eq_true, if_false, if_true, cIsi, ht]; exact h)); (try dsimp only [gName, tNext, List.set_cons_zero, List.set_cons_succ]))
      rw [show PySem.W.kitOne K t (.ref A.c_Enough) = some false from hk]
      refine ⟨hok, ?_⟩
      try simp only [Bool.not_false, Bool.not_true, if_true]
      refine st_ret ?_
      (refine evE ?P96 (fun Q h => ?h96) ?_; (case h96 => (simp only [tTest, tOp, tUn, tVar, tC, tCB, tCons, tNil, tAnd, tOr, tNot, tB, tTup, tLst, tIf, tAndV, tOrV, tNotV, tSl, tPart, tNoPart, tCall, iIx_ref, oGt_int, oMod_int, oFdiv_int, oAdd_int, oAdd_str, oSub_int, oMul_int, oLt_int, oGe_int, oLe_int, oPow_int, uNeg_int, oEq_int, oEq_str, oEq_bl, oNe_int, oNe_str, oNe_bl, cInt_int, cInt_bl, cAbs_int, cLen_ref, cList_ref, stL_ref, gName, gSub, gTup, gCons, gNil, rdSeq, List.getElem?_cons_zero, List.getElem?_cons_succ, List.set_cons_zero, List.set_cons_succ, List.cons_append, List.nil_append, Option.some.injEq, exists_eq_left', V.bl.injEq, V.int.injEq, V.ref.injEq, atI_0, atI_1, atI_2, setI_1, setI_2, Bool.not_true, Bool.not_false, Bool.false_eq_true, if_false, if_true]; exact h)); (try dsimp only [gName, tNext, List.set_cons_zero, List.set_cons_succ]))
      exact k
  · exact h.elim

def sp_Fits_eq (K : PySem.W.Frag) (A : Ad) : Sp := spEqP .Fits K A
def t_Fits_eq_1 (K : PySem.W.Frag) (A : Ad) : TS := (tRet (tC (.bl false)))
def t_Fits_eq_2 (K : PySem.W.Frag) (A : Ad) : TS := (tRet (tAndV (tOp rEq9 (tFld K (tVar 0) "rises") (tFld K (tVar 1) "rises")) (tOp rEq9 (tFld K (tVar 0) "losses") (tFld K (tVar 1) "losses"))))
def t_Fits_eq_0 (K : PySem.W.Frag) (A : Ad) : TS := (tSeq (tIfS (tOr (tNot (tB (tCB (cIsi K) (tCons (tVar 1) (tCons (tC (.ref A.c_Fits)) tNil))))) (tOr (tTest (tOp rNe9 (tFld K (tVar 0) "number") (tFld K (tVar 1) "number"))) (tTest (tOp rNe9 (tFld K (tVar 0) "text") (tFld K (tVar 1) "text"))))) (t_Fits_eq_1 K A) tNext) (t_Fits_eq_2 K A))

theorem pure_Fits_eq {K : PySem.W.Frag} {A : Ad} {xs : List V} {H : Hp} {Q : VK} {E : XK} (F : KF K A) (h : sp_Fits_eq K A xs H Q E) : (t_Fits_eq_0 K A) { nx := fun _ H' => Q .non H', rt := Q } (start ["self", "other"] xs) H := by
  unfold sp_Fits_eq spEqP at h
  have cl : Cls K A.c_Fits := (F.ty .Fits).cl
  have na : ∀ n ∈ P10.Fits.names, NoAttr K A.c_Fits n := F.na .Fits
  split at h
  · rename_i a y
    obtain ⟨w, vs, S, P, h⟩ := h
    obtain ⟨hl, dx, ha⟩ := P
    obtain ⟨v0, v1, v2, v3, rfl⟩ := len4 hl
    rcases h with ⟨b, us, rfl, Pb, k⟩ | ⟨⟨t, ht, hok, hk⟩, k⟩
    · have hty : tyF H (.ref b) = some (.ref A.c_Fits) := Pb.ty
      obtain ⟨hl2, dy, hb⟩ := Pb
      obtain ⟨u0, u1, u2, u3, rfl⟩ := len4 hl2
      replace ha : H a = some (.ins A.c_Fits dx [("number", W9.v w v0), ("rises", W9.v w v1), ("losses", W9.v w v2), ("text", W9.v w v3)]) := ha
      replace hb : H b = some (.ins A.c_Fits dy [("number", W9.v w u0), ("rises", W9.v w u1), ("losses", W9.v w u2), ("text", W9.v w u3)]) := hb
      show (t_Fits_eq_0 K A) _ [some (.ref a), some (.ref b)] H
      refine st_seq (st_if ?_)
      (refine evT ?P97 (fun Q h => ?h97) ?_; (case h97 => (simp only [tTest, tOp, tUn, tVar, tC, tCB, tCons, tNil, tAnd, tOr, tNot, tB, tTup, tLst, tIf, tAndV, tOrV, tNotV, tSl, tPart, tNoPart, tCall, iIx_ref, oGt_int, oMod_int, oFdiv_int, oAdd_int, oAdd_str, oSub_int, oMul_int, oLt_int, oGe_int, oLe_int, oPow_int, uNeg_int, oEq_int, oEq_str, oEq_bl, oNe_int, oNe_str, oNe_bl, cInt_int, cInt_bl, cAbs_int, cLen_ref, cList_ref, stL_ref, gName, gSub, gTup, gCons, gNil, rdSeq, List.getElem?_cons_zero, List.getElem?_cons_succ, List.set_cons_zero, List.set_cons_succ, List.cons_append, List.nil_append, Option.some.injEq, exists_eq_left', V.bl.injEq, V.int.injEq, V.ref.injEq, atI_0, atI_1, atI_2, setI_1, setI_2, Bool.not_true, Bool.not_false, Bool.false_eq_true, if_false, if_true, cIsi, hty, kit_rr, tFld_eq]; exact h)); (try dsimp only [gName, tNext, List.set_cons_zero, List.set_cons_succ]))
      refine ⟨F.ty .Fits, ?_⟩
      refine fld_of cl (na _ (by decide)) ha rfl ?_
      refine fld_of cl (na _ (by decide)) hb rfl ?_
      refine ⟨w, v0, u0, S, rfl, rfl, ?_⟩
      by_cases e0 : v0 = u0
      case neg =>
        have hf : decide ([v0, v1, v2, v3] = [u0, u1, u2, u3]) = false := decide_eq_false fun z => e0 (by simp only [List.cons.injEq] at z; simp_all)
        rw [hf] at k
        rw [decide_eq_false e0]
        refine ⟨_, rfl, ?_⟩
        try simp only [Bool.not_false, Bool.not_true, if_true]
        refine st_ret ?_
        (refine evE ?P98 (fun Q h => ?h98) ?_; (case h98 => (simp only [tTest, tOp, tUn, tVar, tC, tCB, tCons, tNil, tAnd, tOr, tNot, tB, tTup, tLst, tIf, tAndV, tOrV, tNotV, tSl, tPart, tNoPart, tCall, iIx_ref, oGt_int, oMod_int, oFdiv_int, oAdd_int, oAdd_str, oSub_int, oMul_int, oLt_int, oGe_int, oLe_int, oPow_int, uNeg_int, oEq_int, oEq_str, oEq_bl, oNe_int, oNe_str, oNe_bl, cInt_int, cInt_bl, cAbs_int, cLen_ref, cList_ref, stL_ref, gName, gSub, gTup, gCons, gNil, rdSeq, List.getElem?_cons_zero, List.getElem?_cons_succ, List.set_cons_zero, List.set_cons_succ, List.cons_append, List.nil_append, Option.some.injEq, exists_eq_left', V.bl.injEq, V.int.injEq, V.ref.injEq, atI_0, atI_1, atI_2, setI_1, setI_2, Bool.not_true, Bool.not_false, Bool.false_eq_true, if_false, if_true]; exact h)); (try dsimp only [gName, tNext, List.set_cons_zero, List.set_cons_succ]))
        exact k _ .refl
      rw [decide_eq_true e0]
      refine ⟨_, rfl, ?_⟩
      refine if_no ?_
      refine fld_of cl (na _ (by decide)) ha rfl ?_
      refine fld_of cl (na _ (by decide)) hb rfl ?_
      refine ⟨w, v3, u3, S, rfl, rfl, ?_⟩
      by_cases e3 : v3 = u3
      case neg =>
        have hf : decide ([v0, v1, v2, v3] = [u0, u1, u2, u3]) = false := decide_eq_false fun z => e3 (by simp only [List.cons.injEq] at z; simp_all)
        rw [hf] at k
        rw [decide_eq_false e3]
        refine ⟨_, rfl, ?_⟩
        try simp only [Bool.not_false, Bool.not_true, if_true]
        refine st_ret ?_
        (refine evE ?P99 (fun Q h => ?h99) ?_; (case h99 => (simp only [tTest, tOp, tUn, tVar, tC, tCB, tCons, tNil, tAnd, tOr, tNot, tB, tTup, tLst, tIf, tAndV, tOrV, tNotV, tSl, tPart, tNoPart, tCall, iIx_ref, oGt_int, oMod_int, oFdiv_int, oAdd_int, oAdd_str, oSub_int, oMul_int, oLt_int, oGe_int, oLe_int, oPow_int, uNeg_int, oEq_int, oEq_str, oEq_bl, oNe_int, oNe_str, oNe_bl, cInt_int, cInt_bl, cAbs_int, cLen_ref, cList_ref, stL_ref, gName, gSub, gTup, gCons, gNil, rdSeq, List.getElem?_cons_zero, List.getElem?_cons_succ, List.set_cons_zero, List.set_cons_succ, List.cons_append, List.nil_append, Option.some.injEq, exists_eq_left', V.bl.injEq, V.int.injEq, V.ref.injEq, atI_0, atI_1, atI_2, setI_1, setI_2, Bool.not_true, Bool.not_false, Bool.false_eq_true, if_false, if_true]; exact h)); (try dsimp only [gName, tNext, List.set_cons_zero, List.set_cons_succ]))
        exact k _ .refl
      rw [decide_eq_true e3]
      refine ⟨_, rfl, ?_⟩
      refine if_no ?_
      show t_Fits_eq_2 K A _ _ _
      refine st_ret ?_
      (refine evE ?P100 (fun Q h => ?h100) ?_; (case h100 => (simp only [tTest, tOp, tUn, tVar, tC, tCB, tCons, tNil, tAnd, tOr, tNot, tB, tTup, tLst, tIf, tAndV, tOrV, tNotV, tSl, tPart, tNoPart, tCall, iIx_ref, oGt_int, oMod_int, oFdiv_int, oAdd_int, oAdd_str, oSub_int, oMul_int, oLt_int, oGe_int, oLe_int, oPow_int, uNeg_int, oEq_int, oEq_str, oEq_bl, oNe_int, oNe_str, oNe_bl, cInt_int, cInt_bl, cAbs_int, cLen_ref, cList_ref, stL_ref, gName, gSub, gTup, gCons, gNil, rdSeq, List.getElem?_cons_zero, List.getElem?_cons_succ, List.set_cons_zero, List.set_cons_succ, List.cons_append, List.nil_append, Option.some.injEq, exists_eq_left', V.bl.injEq, V.int.injEq, V.ref.injEq, atI_0, atI_1, atI_2, setI_1, setI_2, Bool.not_true, Bool.not_false, Bool.false_eq_true, if_false, if_true, tFld_eq]; exact h)); (try dsimp only [gName, tNext, List.set_cons_zero, List.set_cons_succ]))
      refine fld_of cl (na _ (by decide)) ha rfl ?_
      refine fld_of cl (na _ (by decide)) hb rfl ?_
      refine ⟨w, v1, u1, S, rfl, rfl, ?_⟩
      by_cases e1 : v1 = u1
      case neg =>
        have hf : decide ([v0, v1, v2, v3] = [u0, u1, u2, u3]) = false := decide_eq_false fun z => e1 (by simp only [List.cons.injEq] at z; simp_all)
        rw [hf] at k
        rw [decide_eq_false e1]
        refine ⟨_, rfl, ?_⟩
        refine if_no ?_
        exact k _ .refl
      rw [decide_eq_true e1]
      refine ⟨_, rfl, ?_⟩
      refine if_yes ?_
      refine fld_of cl (na _ (by decide)) ha rfl ?_
      refine fld_of cl (na _ (by decide)) hb rfl ?_
      refine ⟨w, v2, u2, S, rfl, rfl, ?_⟩
      have hf : decide ([v0, v1, v2, v3] = [u0, u1, u2, u3]) = decide (v2 = u2) := by
        refine decide_eq_decide.mpr ?_
        first
          | exact Iff.rfl
          | (simp only [List.cons.injEq]; constructor <;> intro z <;> (try simp_all))
      rw [← hf]
      exact k _ .refl
    · show (t_Fits_eq_0 K A) _ [some (.ref a), some (y)] H
      refine st_seq (st_if ?_)
      (refine evT ?P101 (fun Q h => ?h101) ?_; (case h101 => (simp only [tTest, tOp, tUn, tVar, tC, tCB, tCons, tNil, tAnd, tOr, tNot, tB, tTup, tLst, tIf, tAndV, tOrV, tNotV, tSl, tPart, tNoPart, tCall, iIx_ref, oGt_int, oMod_int, oFdiv_int, oAdd_int, oAdd_str, oSub_int, oMul_int, oLt_int, oGe_int, oLe_int, oPow_int, uNeg_int, oEq_int, oEq_str, oEq_bl, oNe_int, oNe_str, oNe_bl, cInt_int, cInt_bl, cAbs_int, cLen_ref, cList_ref, stL_ref, gName, gSub, gTup, gCons, gNil, rdSeq, List.getElem?_cons_zero, List.getElem?_cons_succ, List.set_cons_zero, List.set_cons_succ, List.cons_append, List.nil_append, Option.some.injEq, exists_eq_left', V.bl.injEq, V.int.injEq, V.ref.injEq, atI_0, atI_1, atI_2, setI_1, setI_2, Bool.not_true, Bool.not_false, Bool.false_eq_true, if_false, if_true, cIsi, ht]; exact h)); (try dsimp only [gName, tNext, List.set_cons_zero, List.set_cons_succ]))
      rw [show PySem.W.kitOne K t (.ref A.c_Fits) = some false from hk]
      refine ⟨hok, ?_⟩
      try simp only [Bool.not_false, Bool.not_true, if_true]
      refine st_ret ?_
      (refine evE ?P102 (fun Q h => ?h102) ?_; (case h102 => (simp only [tTest, tOp, tUn, tVar, tC, tCB, tCons, tNil, tAnd, tOr, tNot, tB, tTup, tLst, tIf, tAndV, tOrV, tNotV, tSl, tPart, tNoPart, tCall, iIx_ref, oGt_int, oMod_int, oFdiv_int, oAdd_int, oAdd_str, oSub_int, oMul_int, oLt_int, oGe_int, oLe_int, oPow_int, uNeg_int, oEq_int, oEq_str, oEq_bl, oNe_int, oNe_str, oNe_bl, cInt_int, cInt_bl, cAbs_int, cLen_ref, cList_ref, stL_ref, gName, gSub, gTup, gCons, gNil, rdSeq, List.getElem?_cons_zero, List.getElem?_cons_succ, List.set_cons_zero, List.set_cons_succ, List.cons_append, List.nil_append, Option.some.injEq, exists_eq_left', V.bl.injEq, V.int.injEq, V.ref.injEq, atI_0, atI_1, atI_2, setI_1, setI_2, Bool.not_true, Bool.not_false, Bool.false_eq_true, if_false, if_true]; exact h)); (try dsimp only [gName, tNext, List.set_cons_zero, List.set_cons_succ]))
      exact k
  · exact h.elim

def sp_Cut_eq (K : PySem.W.Frag) (A : Ad) : Sp := spEqP .Cut K A
def t_Cut_eq_1 (K : PySem.W.Frag) (A : Ad) : TS := (tRet (tC (.bl false)))
def t_Cut_eq_2 (K : PySem.W.Frag) (A : Ad) : TS := (tRet (tOp rEqT9 (tTup (tCons (tFld K (tVar 0) "number") (tCons (tFld K (tVar 0) "heights") (tCons (tFld K (tVar 0) "text") (tCons (tFld K (tVar 0) "at") tNil))))) (tTup (tCons (tFld K (tVar 1) "number") (tCons (tFld K (tVar 1) "heights") (tCons (tFld K (tVar 1) "text") (tCons (tFld K (tVar 1) "at") tNil)))))))
def t_Cut_eq_0 (K : PySem.W.Frag) (A : Ad) : TS := (tSeq (tIfS (tNot (tB (tCB (cIsi K) (tCons (tVar 1) (tCons (tC (.ref A.c_Cut)) tNil))))) (t_Cut_eq_1 K A) tNext) (t_Cut_eq_2 K A))

theorem pure_Cut_eq {K : PySem.W.Frag} {A : Ad} {xs : List V} {H : Hp} {Q : VK} {E : XK} (F : KF K A) (h : sp_Cut_eq K A xs H Q E) : (t_Cut_eq_0 K A) { nx := fun _ H' => Q .non H', rt := Q } (start ["self", "other"] xs) H := by
  unfold sp_Cut_eq spEqP at h
  have cl : Cls K A.c_Cut := (F.ty .Cut).cl
  have na : ∀ n ∈ P10.Cut.names, NoAttr K A.c_Cut n := F.na .Cut
  split at h
  · rename_i a y
    obtain ⟨w, vs, S, P, h⟩ := h
    obtain ⟨hl, dx, ha⟩ := P
    obtain ⟨v0, v1, v2, v3, rfl⟩ := len4 hl
    rcases h with ⟨b, us, rfl, Pb, k⟩ | ⟨⟨t, ht, hok, hk⟩, k⟩
    · have hty : tyF H (.ref b) = some (.ref A.c_Cut) := Pb.ty
      obtain ⟨hl2, dy, hb⟩ := Pb
      obtain ⟨u0, u1, u2, u3, rfl⟩ := len4 hl2
      replace ha : H a = some (.ins A.c_Cut dx [("number", W9.v w v0), ("heights", W9.v w v1), ("text", W9.v w v2), ("at", W9.v w v3)]) := ha
      replace hb : H b = some (.ins A.c_Cut dy [("number", W9.v w u0), ("heights", W9.v w u1), ("text", W9.v w u2), ("at", W9.v w u3)]) := hb
      show (t_Cut_eq_0 K A) _ [some (.ref a), some (.ref b)] H
      refine st_seq (st_if ?_)
      (refine evT ?P103 (fun Q h => ?h103) ?_; (case h103 => (simp only [tTest, tOp, tUn, tVar, tC, tCB, tCons, tNil, tAnd, tOr, tNot, tB, tTup, tLst, tIf, tAndV, tOrV, tNotV, tSl, tPart, tNoPart, tCall, iIx_ref, oGt_int, oMod_int, oFdiv_int, oAdd_int, oAdd_str, oSub_int, oMul_int, oLt_int, oGe_int, oLe_int, oPow_int, uNeg_int, oEq_int, oEq_str, oEq_bl, oNe_int, oNe_str, oNe_bl, cInt_int, cInt_bl, cAbs_int, cLen_ref, cList_ref, stL_ref, gName, gSub, gTup, gCons, gNil, rdSeq, List.getElem?_cons_zero, List.getElem?_cons_succ, List.set_cons_zero, List.set_cons_succ, List.cons_append, List.nil_append, Option.some.injEq, exists_eq_left', V.bl.injEq, V.int.injEq, V.ref.injEq, atI_0, atI_1, atI_2, setI_1, setI_2, Bool.not_true, Bool.not_false, Bool.false_eq_true, if_false, if_true, cIsi, hty, kit_rr, tFld_eq]; exact h)); (try dsimp only [gName, tNext, List.set_cons_zero, List.set_cons_succ]))
      refine ⟨F.ty .Cut, ?_⟩
      refine if_no ?_
      show t_Cut_eq_2 K A _ _ _
      refine st_ret ?_
      (refine evE ?P133 (fun Q h => ?h133) ?_; (case h133 => (simp only [tTest, tOp, tUn, tVar, tC, tCB, tCons, tNil, tAnd, tOr, tNot, tB, tTup, tLst, tIf, tAndV, tOrV, tNotV, tSl, tPart, tNoPart, tCall, iIx_ref, oGt_int, oMod_int, oFdiv_int, oAdd_int, oAdd_str, oSub_int, oMul_int, oLt_int, oGe_int, oLe_int, oPow_int, uNeg_int, oEq_int, oEq_str, oEq_bl, oNe_int, oNe_str, oNe_bl, cInt_int, cInt_bl, cAbs_int, cLen_ref, cList_ref, stL_ref, gName, gSub, gTup, gCons, gNil, rdSeq, List.getElem?_cons_zero, List.getElem?_cons_succ, List.set_cons_zero, List.set_cons_succ, List.cons_append, List.nil_append, Option.some.injEq, exists_eq_left', V.bl.injEq, V.int.injEq, V.ref.injEq, atI_0, atI_1, atI_2, setI_1, setI_2, Bool.not_true, Bool.not_false, Bool.false_eq_true, if_false, if_true, tFld_eq]; exact h)))
      refine fld_of cl (na _ (by decide)) ha rfl ?_
      refine fld_of cl (na _ (by decide)) ha rfl ?_
      refine fld_of cl (na _ (by decide)) ha rfl ?_
      refine fld_of cl (na _ (by decide)) ha rfl ?_
      refine ⟨by show 4 ≤ sizeLine; decide, fun p hp => ?_⟩
      have gp := Grow.new (o := .tup [W9.v w v0, W9.v w v1, W9.v w v2, W9.v w v3]) hp
      have ep : upd H p (.tup [W9.v w v0, W9.v w v1, W9.v w v2, W9.v w v3]) p = some (.tup [W9.v w v0, W9.v w v1, W9.v w v2, W9.v w v3]) := upd_same
      replace hb := gp _ _ hb
      replace S := S.grow gp
      generalize upd H p (.tup [W9.v w v0, W9.v w v1, W9.v w v2, W9.v w v3]) = H1 at *
      refine fld_of cl (na _ (by decide)) hb rfl ?_
      refine fld_of cl (na _ (by decide)) hb rfl ?_
      refine fld_of cl (na _ (by decide)) hb rfl ?_
      refine fld_of cl (na _ (by decide)) hb rfl ?_
      refine ⟨by show 4 ≤ sizeLine; decide, fun p2 hp2 => ?_⟩
      have gp2 := Grow.new (o := .tup [W9.v w u0, W9.v w u1, W9.v w u2, W9.v w u3]) hp2
      have ep2 : upd H1 p2 (.tup [W9.v w u0, W9.v w u1, W9.v w u2, W9.v w u3]) p2 = some (.tup [W9.v w u0, W9.v w u1, W9.v w u2, W9.v w u3]) := upd_same
      replace ep := gp2 _ _ ep
      replace S := S.grow gp2
      refine ⟨w, [v0, v1, v2, v3], [u0, u1, u2, u3], p, p2, S, rfl, rfl, rfl, ep, ep2, ?_⟩
      have hf : decide ([v0, v1, v2, v3] = [u0, u1, u2, u3]) = decide ([v0, v1, v2, v3] = [u0, u1, u2, u3]) := by
        refine decide_eq_decide.mpr ?_
        first
          | exact Iff.rfl
          | (simp only [List.cons.injEq]; constructor <;> intro z <;> (try simp_all))
      rw [hf]
      exact k _ (gp.trans gp2)
    · show (t_Cut_eq_0 K A) _ [some (.ref a), some (y)] H
      refine st_seq (st_if ?_)
      (refine evT ?P104 (fun Q h => ?h104) ?_; (case h104 => (simp only [tTest, tOp, tUn, tVar, tC, tCB, tCons, tNil, tAnd, tOr, tNot, tB, tTup, tLst, tIf, tAndV, tOrV, tNotV, tSl, tPart, tNoPart, tCall, iIx_ref, oGt_int, oMod_int, oFdiv_int, oAdd_int, oAdd_str, oSub_int, oMul_int, oLt_int, oGe_int, oLe_int, oPow_int, uNeg_int, oEq_int, oEq_str, oEq_bl, oNe_int, oNe_str, oNe_bl, cInt_int, cInt_bl, cAbs_int, cLen_ref, cList_ref, stL_ref, gName, gSub, gTup, gCons, gNil, rdSeq, List.getElem?_cons_zero, List.getElem?_cons_succ, List.set_cons_zero, List.set_cons_succ, List.cons_append, List.nil_append, Option.some.injEq, exists_eq_left', V.bl.injEq, V.int.injEq, V.ref.injEq, atI_0, atI_1, atI_2, setI_1, setI_2, Bool.not_true, Bool.not_false, Bool.false_eq_true, if_false, if_true, cIsi, ht]; exact h)); (try dsimp only [gName, tNext, List.set_cons_zero, List.set_cons_succ]))
      rw [show PySem.W.kitOne K t (.ref A.c_Cut) = some false from hk]
      refine ⟨hok, ?_⟩
      try simp only [Bool.not_false, Bool.not_true, if_true]
      refine st_ret ?_
      (refine evE ?P105 (fun Q h => ?h105) ?_; (case h105 => (simp only [tTest, tOp, tUn, tVar, tC, tCB, tCons, tNil, tAnd, tOr, tNot, tB, tTup, tLst, tIf, tAndV, tOrV, tNotV, tSl, tPart, tNoPart, tCall, iIx_ref, oGt_int, oMod_int, oFdiv_int, oAdd_int, oAdd_str, oSub_int, oMul_int, oLt_int, oGe_int, oLe_int, oPow_int, uNeg_int, oEq_int, oEq_str, oEq_bl, oNe_int, oNe_str, oNe_bl, cInt_int, cInt_bl, cAbs_int, cLen_ref, cList_ref, stL_ref, gName, gSub, gTup, gCons, gNil, rdSeq, List.getElem?_cons_zero, List.getElem?_cons_succ, List.set_cons_zero, List.set_cons_succ, List.cons_append, List.nil_append, Option.some.injEq, exists_eq_left', V.bl.injEq, V.int.injEq, V.ref.injEq, atI_0, atI_1, atI_2, setI_1, setI_2, Bool.not_true, Bool.not_false, Bool.false_eq_true, if_false, if_true]; exact h)); (try dsimp only [gName, tNext, List.set_cons_zero, List.set_cons_succ]))
      exact k
  · exact h.elim

def sp_Never_eq (K : PySem.W.Frag) (A : Ad) : Sp := spEqP .Never K A
def t_Never_eq_1 (K : PySem.W.Frag) (A : Ad) : TS := (tRet (tC (.bl false)))
def t_Never_eq_2 (K : PySem.W.Frag) (A : Ad) : TS := (tRet (tAndV (tOp rEq9 (tFld K (tVar 0) "ring") (tFld K (tVar 1) "ring")) (tOp rEq9 (tFld K (tVar 0) "behind") (tFld K (tVar 1) "behind"))))
def t_Never_eq_0 (K : PySem.W.Frag) (A : Ad) : TS := (tSeq (tIfS (tOr (tNot (tB (tCB (cIsi K) (tCons (tVar 1) (tCons (tC (.ref A.c_Never)) tNil))))) (tTest (tOp rNe9 (tFld K (tVar 0) "ahead") (tFld K (tVar 1) "ahead")))) (t_Never_eq_1 K A) tNext) (t_Never_eq_2 K A))

theorem pure_Never_eq {K : PySem.W.Frag} {A : Ad} {xs : List V} {H : Hp} {Q : VK} {E : XK} (F : KF K A) (h : sp_Never_eq K A xs H Q E) : (t_Never_eq_0 K A) { nx := fun _ H' => Q .non H', rt := Q } (start ["self", "other"] xs) H := by
  unfold sp_Never_eq spEqP at h
  have cl : Cls K A.c_Never := (F.ty .Never).cl
  have na : ∀ n ∈ P10.Never.names, NoAttr K A.c_Never n := F.na .Never
  split at h
  · rename_i a y
    obtain ⟨w, vs, S, P, h⟩ := h
    obtain ⟨hl, dx, ha⟩ := P
    obtain ⟨v0, v1, v2, rfl⟩ := len3 hl
    rcases h with ⟨b, us, rfl, Pb, k⟩ | ⟨⟨t, ht, hok, hk⟩, k⟩
    · have hty : tyF H (.ref b) = some (.ref A.c_Never) := Pb.ty
      obtain ⟨hl2, dy, hb⟩ := Pb
      obtain ⟨u0, u1, u2, rfl⟩ := len3 hl2
      replace ha : H a = some (.ins A.c_Never dx [("ahead", W9.v w v0), ("ring", W9.v w v1), ("behind", W9.v w v2)]) := ha
      replace hb : H b = some (.ins A.c_Never dy [("ahead", W9.v w u0), ("ring", W9.v w u1), ("behind", W9.v w u2)]) := hb
      show (t_Never_eq_0 K A) _ [some (.ref a), some (.ref b)] H
      refine st_seq (st_if ?_)
      (refine evT ?P106 (fun Q h => ?h106) ?_; (case h106 => (simp only [tTest, tOp, tUn, tVar, tC, tCB, tCons, tNil, tAnd, tOr, tNot, tB, tTup, tLst, tIf, tAndV, tOrV, tNotV, tSl, tPart, tNoPart, tCall, iIx_ref, oGt_int, oMod_int, oFdiv_int, oAdd_int, oAdd_str, oSub_int, oMul_int, oLt_int, oGe_int, oLe_int, oPow_int, uNeg_int, oEq_int, oEq_str, oEq_bl, oNe_int, oNe_str, oNe_bl, cInt_int, cInt_bl, cAbs_int, cLen_ref, cList_ref, stL_ref, gName, gSub, gTup, gCons, gNil, rdSeq, List.getElem?_cons_zero, List.getElem?_cons_succ, List.set_cons_zero, List.set_cons_succ, List.cons_append, List.nil_append, Option.some.injEq, exists_eq_left', V.bl.injEq, V.int.injEq, V.ref.injEq, atI_0, atI_1, atI_2, setI_1, setI_2, Bool.not_true, Bool.not_false, Bool.false_eq_true, if_false, if_true, cIsi, hty, kit_rr, tFld_eq]; exact h)); (try dsimp only [gName, tNext, List.set_cons_zero, List.set_cons_succ]))
      refine ⟨F.ty .Never, ?_⟩
      refine fld_of cl (na _ (by decide)) ha rfl ?_
      refine fld_of cl (na _ (by decide)) hb rfl ?_
      refine ⟨w, v0, u0, S, rfl, rfl, ?_⟩
      by_cases e0 : v0 = u0
      case neg =>
        have hf : decide ([v0, v1, v2] = [u0, u1, u2]) = false := decide_eq_false fun z => e0 (by simp only [List.cons.injEq] at z; simp_all)
        rw [hf] at k
        rw [decide_eq_false e0]
        refine ⟨_, rfl, ?_⟩
        try simp only [Bool.not_false, Bool.not_true, if_true]
        refine st_ret ?_
        (refine evE ?P107 (fun Q h => ?h107) ?_; (case h107 => (simp only [tTest, tOp, tUn, tVar, tC, tCB, tCons, tNil, tAnd, tOr, tNot, tB, tTup, tLst, tIf, tAndV, tOrV, tNotV, tSl, tPart, tNoPart, tCall, iIx_ref, oGt_int, oMod_int, oFdiv_int, oAdd_int, oAdd_str, oSub_int, oMul_int, oLt_int, oGe_int, oLe_int, oPow_int, uNeg_int, oEq_int, oEq_str, oEq_bl, oNe_int, oNe_str, oNe_bl, cInt_int, cInt_bl, cAbs_int, cLen_ref, cList_ref, stL_ref, gName, gSub, gTup, gCons, gNil, rdSeq, List.getElem?_cons_zero, List.getElem?_cons_succ, List.set_cons_zero, List.set_cons_succ, List.cons_append, List.nil_append, Option.some.injEq, exists_eq_left', V.bl.injEq, V.int.injEq, V.ref.injEq, atI_0, atI_1, atI_2, setI_1, setI_2, Bool.not_true, Bool.not_false, Bool.false_eq_true, if_false, if_true]; exact h)); (try dsimp only [gName, tNext, List.set_cons_zero, List.set_cons_succ]))
        exact k _ .refl
      rw [decide_eq_true e0]
      refine ⟨_, rfl, ?_⟩
      refine if_no ?_
      show t_Never_eq_2 K A _ _ _
      refine st_ret ?_
      (refine evE ?P108 (fun Q h => ?h108) ?_; (case h108 => (simp only [tTest, tOp, tUn, tVar, tC, tCB, tCons, tNil, tAnd, tOr, tNot, tB, tTup, tLst, tIf, tAndV, tOrV, tNotV, tSl, tPart, tNoPart, tCall, iIx_ref, oGt_int, oMod_int, oFdiv_int, oAdd_int, oAdd_str, oSub_int, oMul_int, oLt_int, oGe_int, oLe_int, oPow_int, uNeg_int, oEq_int, oEq_str, oEq_bl, oNe_int, oNe_str, oNe_bl, cInt_int, cInt_bl, cAbs_int, cLen_ref, cList_ref, stL_ref, gName, gSub, gTup, gCons, gNil, rdSeq, List.getElem?_cons_zero, List.getElem?_cons_succ, List.set_cons_zero, List.set_cons_succ, List.cons_append, List.nil_append, Option.some.injEq, exists_eq_left', V.bl.injEq, V.int.injEq, V.ref.injEq, atI_0, atI_1, atI_2, setI_1, setI_2, Bool.not_true, Bool.not_false, Bool.false_eq_true, if_false, if_true, tFld_eq]; exact h)); (try dsimp only [gName, tNext, List.set_cons_zero, List.set_cons_succ]))
      refine fld_of cl (na _ (by decide)) ha rfl ?_
      refine fld_of cl (na _ (by decide)) hb rfl ?_
      refine ⟨w, v1, u1, S, rfl, rfl, ?_⟩
      by_cases e1 : v1 = u1
      case neg =>
        have hf : decide ([v0, v1, v2] = [u0, u1, u2]) = false := decide_eq_false fun z => e1 (by simp only [List.cons.injEq] at z; simp_all)
        rw [hf] at k
        rw [decide_eq_false e1]
        refine ⟨_, rfl, ?_⟩
        refine if_no ?_
        exact k _ .refl
      rw [decide_eq_true e1]
      refine ⟨_, rfl, ?_⟩
      refine if_yes ?_
      refine fld_of cl (na _ (by decide)) ha rfl ?_
      refine fld_of cl (na _ (by decide)) hb rfl ?_
      refine ⟨w, v2, u2, S, rfl, rfl, ?_⟩
      have hf : decide ([v0, v1, v2] = [u0, u1, u2]) = decide (v2 = u2) := by
        refine decide_eq_decide.mpr ?_
        first
          | exact Iff.rfl
          | (simp only [List.cons.injEq]; constructor <;> intro z <;> (try simp_all))
      rw [← hf]
      exact k _ .refl
    · show (t_Never_eq_0 K A) _ [some (.ref a), some (y)] H
      refine st_seq (st_if ?_)
      (refine evT ?P109 (fun Q h => ?h109) ?_; (case h109 => (simp only [tTest, tOp, tUn, tVar, tC, tCB, tCons, tNil, tAnd, tOr, tNot, tB, tTup, tLst, tIf, tAndV, tOrV, tNotV, tSl, tPart, tNoPart, tCall, iIx_ref, oGt_int, oMod_int, oFdiv_int, oAdd_int, oAdd_str, oSub_int, oMul_int, oLt_int, oGe_int, oLe_int, oPow_int, uNeg_int, oEq_int, oEq_str, oEq_bl, oNe_int, oNe_str, oNe_bl, cInt_int, cInt_bl, cAbs_int, cLen_ref, cList_ref, stL_ref, gName, gSub, gTup, gCons, gNil, rdSeq, List.getElem?_cons_zero, List.getElem?_cons_succ, List.set_cons_zero, List.set_cons_succ, List.cons_append, List.nil_append, Option.some.injEq, exists_eq_left', V.bl.injEq, V.int.injEq, V.ref.injEq, atI_0, atI_1, atI_2, setI_1, setI_2, Bool.not_true, Bool.not_false, Bool.false_eq_true, if_false, if_true, cIsi, ht]; exact h)); (try dsimp only [gName, tNext, List.set_cons_zero, List.set_cons_succ]))
      rw [show PySem.W.kitOne K t (.ref A.c_Never) = some false from hk]
      refine ⟨hok, ?_⟩
      try simp only [Bool.not_false, Bool.not_true, if_true]
      refine st_ret ?_
      (refine evE ?P110 (fun Q h => ?h110) ?_; (case h110 => (simp only [tTest, tOp, tUn, tVar, tC, tCB, tCons, tNil, tAnd, tOr, tNot, tB, tTup, tLst, tIf, tAndV, tOrV, tNotV, tSl, tPart, tNoPart, tCall, iIx_ref, oGt_int, oMod_int, oFdiv_int, oAdd_int, oAdd_str, oSub_int, oMul_int, oLt_int, oGe_int, oLe_int, oPow_int, uNeg_int, oEq_int, oEq_str, oEq_bl, oNe_int, oNe_str, oNe_bl, cInt_int, cInt_bl, cAbs_int, cLen_ref, cList_ref, stL_ref, gName, gSub, gTup, gCons, gNil, rdSeq, List.getElem?_cons_zero, List.getElem?_cons_succ, List.set_cons_zero, List.set_cons_succ, List.cons_append, List.nil_append, Option.some.injEq, exists_eq_left', V.bl.injEq, V.int.injEq, V.ref.injEq, atI_0, atI_1, atI_2, setI_1, setI_2, Bool.not_true, Bool.not_false, Bool.false_eq_true, if_false, if_true]; exact h)); (try dsimp only [gName, tNext, List.set_cons_zero, List.set_cons_succ]))
      exact k
  · exact h.elim

def sp_Beyond_eq (K : PySem.W.Frag) (A : Ad) : Sp := spEqP .Beyond K A
def t_Beyond_eq_1 (K : PySem.W.Frag) (A : Ad) : TS := (tRet (tC (.bl false)))
def t_Beyond_eq_2 (K : PySem.W.Frag) (A : Ad) : TS := (tRet (tOp rEqT9 (tTup (tCons (tFld K (tVar 0) "between") (tCons (tFld K (tVar 0) "falling") (tCons (tFld K (tVar 0) "behind") tNil)))) (tTup (tCons (tFld K (tVar 1) "between") (tCons (tFld K (tVar 1) "falling") (tCons (tFld K (tVar 1) "behind") tNil))))))
def t_Beyond_eq_0 (K : PySem.W.Frag) (A : Ad) : TS := (tSeq (tIfS (tOr (tNot (tB (tCB (cIsi K) (tCons (tVar 1) (tCons (tC (.ref A.c_Beyond)) tNil))))) (tOr (tTest (tOp rNe9 (tFld K (tVar 0) "ahead") (tFld K (tVar 1) "ahead"))) (tTest (tOp rNe9 (tFld K (tVar 0) "rising") (tFld K (tVar 1) "rising"))))) (t_Beyond_eq_1 K A) tNext) (t_Beyond_eq_2 K A))

theorem pure_Beyond_eq {K : PySem.W.Frag} {A : Ad} {xs : List V} {H : Hp} {Q : VK} {E : XK} (F : KF K A) (h : sp_Beyond_eq K A xs H Q E) : (t_Beyond_eq_0 K A) { nx := fun _ H' => Q .non H', rt := Q } (start ["self", "other"] xs) H := by
  unfold sp_Beyond_eq spEqP at h
  have cl : Cls K A.c_Beyond := (F.ty .Beyond).cl
  have na : ∀ n ∈ P10.Beyond.names, NoAttr K A.c_Beyond n := F.na .Beyond
  split at h
  · rename_i a y
    obtain ⟨w, vs, S, P, h⟩ := h
    obtain ⟨hl, dx, ha⟩ := P
    obtain ⟨v0, v1, v2, v3, v4, rfl⟩ := len5 hl
    rcases h with ⟨b, us, rfl, Pb, k⟩ | ⟨⟨t, ht, hok, hk⟩, k⟩
    · have hty : tyF H (.ref b) = some (.ref A.c_Beyond) := Pb.ty
      obtain ⟨hl2, dy, hb⟩ := Pb
      obtain ⟨u0, u1, u2, u3, u4, rfl⟩ := len5 hl2
      replace ha : H a = some (.ins A.c_Beyond dx [("ahead", W9.v w v0), ("rising", W9.v w v1), ("between", W9.v w v2), ("falling", W9.v w v3), ("behind", W9.v w v4)]) := ha
      replace hb : H b = some (.ins A.c_Beyond dy [("ahead", W9.v w u0), ("rising", W9.v w u1), ("between", W9.v w u2), ("falling", W9.v w u3), ("behind", W9.v w u4)]) := hb
      show (t_Beyond_eq_0 K A) _ [some (.ref a), some (.ref b)] H
      refine st_seq (st_if ?_)
      (refine evT ?P111 (fun Q h => ?h111) ?_; (case h111 => (simp only [tTest, tOp, tUn, tVar, tC, tCB, tCons, tNil, tAnd, tOr, tNot, tB, tTup, tLst, tIf, tAndV, tOrV, tNotV, tSl, tPart, tNoPart, tCall, iIx_ref, oGt_int, oMod_int, oFdiv_int, oAdd_int, oAdd_str, oSub_int, oMul_int, oLt_int, oGe_int, oLe_int, oPow_int, uNeg_int, oEq_int, oEq_str, oEq_bl, oNe_int, oNe_str, oNe_bl, cInt_int, cInt_bl, cAbs_int, cLen_ref, cList_ref, stL_ref, gName, gSub, gTup, gCons, gNil, rdSeq, List.getElem?_cons_zero, List.getElem?_cons_succ, List.set_cons_zero, List.set_cons_succ, List.cons_append, List.nil_append, Option.some.injEq, exists_eq_left', V.bl.injEq, V.int.injEq, V.ref.injEq, atI_0, atI_1, atI_2, setI_1, setI_2, Bool.not_true, Bool.not_false, Bool.false_eq_true, if_false, if_true, cIsi, hty, kit_rr, tFld_eq]; exact h)); (try dsimp only [gName, tNext, List.set_cons_zero, List.set_cons_succ]))
      refine ⟨F.ty .Beyond, ?_⟩
      refine fld_of cl (na _ (by decide)) ha rfl ?_
      refine fld_of cl (na _ (by decide)) hb rfl ?_
      refine ⟨w, v0, u0, S, rfl, rfl, ?_⟩
      by_cases e0 : v0 = u0
      case neg =>
        have hf : decide ([v0, v1, v2, v3, v4] = [u0, u1, u2, u3, u4]) = false := decide_eq_false fun z => e0 (by simp only [List.cons.injEq] at z; simp_all)
        rw [hf] at k
        rw [decide_eq_false e0]
        refine ⟨_, rfl, ?_⟩
        try simp only [Bool.not_false, Bool.not_true, if_true]
        refine st_ret ?_
        (refine evE ?P112 (fun Q h => ?h112) ?_; (case h112 => (simp only [tTest, tOp, tUn, tVar, tC, tCB, tCons, tNil, tAnd, tOr, tNot, tB, tTup, tLst, tIf, tAndV, tOrV, tNotV, tSl, tPart, tNoPart, tCall, iIx_ref, oGt_int, oMod_int, oFdiv_int, oAdd_int, oAdd_str, oSub_int, oMul_int, oLt_int, oGe_int, oLe_int, oPow_int, uNeg_int, oEq_int, oEq_str, oEq_bl, oNe_int, oNe_str, oNe_bl, cInt_int, cInt_bl, cAbs_int, cLen_ref, cList_ref, stL_ref, gName, gSub, gTup, gCons, gNil, rdSeq, List.getElem?_cons_zero, List.getElem?_cons_succ, List.set_cons_zero, List.set_cons_succ, List.cons_append, List.nil_append, Option.some.injEq, exists_eq_left', V.bl.injEq, V.int.injEq, V.ref.injEq, atI_0, atI_1, atI_2, setI_1, setI_2, Bool.not_true, Bool.not_false, Bool.false_eq_true, if_false, if_true]; exact h)); (try dsimp only [gName, tNext, List.set_cons_zero, List.set_cons_succ]))
        exact k _ .refl
      rw [decide_eq_true e0]
      refine ⟨_, rfl, ?_⟩
      refine if_no ?_
      refine fld_of cl (na _ (by decide)) ha rfl ?_
      refine fld_of cl (na _ (by decide)) hb rfl ?_
      refine ⟨w, v1, u1, S, rfl, rfl, ?_⟩
      by_cases e1 : v1 = u1
      case neg =>
        have hf : decide ([v0, v1, v2, v3, v4] = [u0, u1, u2, u3, u4]) = false := decide_eq_false fun z => e1 (by simp only [List.cons.injEq] at z; simp_all)
        rw [hf] at k
        rw [decide_eq_false e1]
        refine ⟨_, rfl, ?_⟩
        try simp only [Bool.not_false, Bool.not_true, if_true]
        refine st_ret ?_
        (refine evE ?P113 (fun Q h => ?h113) ?_; (case h113 => (simp only [tTest, tOp, tUn, tVar, tC, tCB, tCons, tNil, tAnd, tOr, tNot, tB, tTup, tLst, tIf, tAndV, tOrV, tNotV, tSl, tPart, tNoPart, tCall, iIx_ref, oGt_int, oMod_int, oFdiv_int, oAdd_int, oAdd_str, oSub_int, oMul_int, oLt_int, oGe_int, oLe_int, oPow_int, uNeg_int, oEq_int, oEq_str, oEq_bl, oNe_int, oNe_str, oNe_bl, cInt_int, cInt_bl, cAbs_int, cLen_ref, cList_ref, stL_ref, gName, gSub, gTup, gCons, gNil, rdSeq, List.getElem?_cons_zero, List.getElem?_cons_succ, List.set_cons_zero, List.set_cons_succ, List.cons_append, List.nil_append, Option.some.injEq, exists_eq_left', V.bl.injEq, V.int.injEq, V.ref.injEq, atI_0, atI_1, atI_2, setI_1, setI_2, Bool.not_true, Bool.not_false, Bool.false_eq_true, if_false, if_true]; exact h)); (try dsimp only [gName, tNext, List.set_cons_zero, List.set_cons_succ]))
        exact k _ .refl
      rw [decide_eq_true e1]
      refine ⟨_, rfl, ?_⟩
      refine if_no ?_
      show t_Beyond_eq_2 K A _ _ _
      refine st_ret ?_
      (refine evE ?P134 (fun Q h => ?h134) ?_; (case h134 => (simp only [tTest, tOp, tUn, tVar, tC, tCB, tCons, tNil, tAnd, tOr, tNot, tB, tTup, tLst, tIf, tAndV, tOrV, tNotV, tSl, tPart, tNoPart, tCall, iIx_ref, oGt_int, oMod_int, oFdiv_int, oAdd_int, oAdd_str, oSub_int, oMul_int, oLt_int, oGe_int, oLe_int, oPow_int, uNeg_int, oEq_int, oEq_str, oEq_bl, oNe_int, oNe_str, oNe_bl, cInt_int, cInt_bl, cAbs_int, cLen_ref, cList_ref, stL_ref, gName, gSub, gTup, gCons, gNil, rdSeq, List.getElem?_cons_zero, List.getElem?_cons_succ, List.set_cons_zero, List.set_cons_succ, List.cons_append, List.nil_append, Option.some.injEq, exists_eq_left', V.bl.injEq, V.int.injEq, V.ref.injEq, atI_0, atI_1, atI_2, setI_1, setI_2, Bool.not_true, Bool.not_false, Bool.false_eq_true, if_false, if_true, tFld_eq]; exact h)))
      refine fld_of cl (na _ (by decide)) ha rfl ?_
      refine fld_of cl (na _ (by decide)) ha rfl ?_
      refine fld_of cl (na _ (by decide)) ha rfl ?_
      refine ⟨by show 3 ≤ sizeLine; decide, fun p hp => ?_⟩
      have gp := Grow.new (o := .tup [W9.v w v2, W9.v w v3, W9.v w v4]) hp
      have ep : upd H p (.tup [W9.v w v2, W9.v w v3, W9.v w v4]) p = some (.tup [W9.v w v2, W9.v w v3, W9.v w v4]) := upd_same
      replace hb := gp _ _ hb
      replace S := S.grow gp
      generalize upd H p (.tup [W9.v w v2, W9.v w v3, W9.v w v4]) = H1 at *
      refine fld_of cl (na _ (by decide)) hb rfl ?_
      refine fld_of cl (na _ (by decide)) hb rfl ?_
      refine fld_of cl (na _ (by decide)) hb rfl ?_
      refine ⟨by show 3 ≤ sizeLine; decide, fun p2 hp2 => ?_⟩
      have gp2 := Grow.new (o := .tup [W9.v w u2, W9.v w u3, W9.v w u4]) hp2
      have ep2 : upd H1 p2 (.tup [W9.v w u2, W9.v w u3, W9.v w u4]) p2 = some (.tup [W9.v w u2, W9.v w u3, W9.v w u4]) := upd_same
      replace ep := gp2 _ _ ep
      replace S := S.grow gp2
      refine ⟨w, [v2, v3, v4], [u2, u3, u4], p, p2, S, rfl, rfl, rfl, ep, ep2, ?_⟩
      have hf : decide ([v2, v3, v4] = [u2, u3, u4]) = decide ([v0, v1, v2, v3, v4] = [u0, u1, u2, u3, u4]) := by
        refine decide_eq_decide.mpr ?_
        first
          | exact Iff.rfl
          | (simp only [List.cons.injEq]; constructor <;> intro z <;> (try simp_all))
      rw [hf]
      exact k _ (gp.trans gp2)
    · show (t_Beyond_eq_0 K A) _ [some (.ref a), some (y)] H
      refine st_seq (st_if ?_)
      (refine evT ?P114 (fun Q h => ?h114) ?_; (case h114 => (simp only [tTest, tOp, tUn, tVar, tC, tCB, tCons, tNil, tAnd, tOr, tNot, tB, tTup, tLst, tIf, tAndV, tOrV, tNotV, tSl, tPart, tNoPart, tCall, iIx_ref, oGt_int, oMod_int, oFdiv_int, oAdd_int, oAdd_str, oSub_int, oMul_int, oLt_int, oGe_int, oLe_int, oPow_int, uNeg_int, oEq_int, oEq_str, oEq_bl, oNe_int, oNe_str, oNe_bl, cInt_int, cInt_bl, cAbs_int, cLen_ref, cList_ref, stL_ref, gName, gSub, gTup, gCons, gNil, rdSeq, List.getElem?_cons_zero, List.getElem?_cons_succ, List.set_cons_zero, List.set_cons_succ, List.cons_append, List.nil_append, Option.some.injEq, exists_eq_left', V.bl.injEq, V.int.injEq, V.ref.injEq, atI_0, atI_1, atI_2, setI_1, setI_2, Bool.not_true, Bool.not_false, Bool.false_eq_true, if_false, if_true, cIsi, ht]; exact h)); (try dsimp only [gName, tNext, List.set_cons_zero, List.set_cons_succ]))
      rw [show PySem.W.kitOne K t (.ref A.c_Beyond) = some false from hk]
      refine ⟨hok, ?_⟩
      try simp only [Bool.not_false, Bool.not_true, if_true]
      refine st_ret ?_
      (refine evE ?P115 (fun Q h => ?h115) ?_; (case h115 => (simp only [tTest, tOp, tUn, tVar, tC, tCB, tCons, tNil, tAnd, tOr, tNot, tB, tTup, tLst, tIf, tAndV, tOrV, tNotV, tSl, tPart, tNoPart, tCall, iIx_ref, oGt_int, oMod_int, oFdiv_int, oAdd_int, oAdd_str, oSub_int, oMul_int, oLt_int, oGe_int, oLe_int, oPow_int, uNeg_int, oEq_int, oEq_str, oEq_bl, oNe_int, oNe_str, oNe_bl, cInt_int, cInt_bl, cAbs_int, cLen_ref, cList_ref, stL_ref, gName, gSub, gTup, gCons, gNil, rdSeq, List.getElem?_cons_zero, List.getElem?_cons_succ, List.set_cons_zero, List.set_cons_succ, List.cons_append, List.nil_append, Option.some.injEq, exists_eq_left', V.bl.injEq, V.int.injEq, V.ref.injEq, atI_0, atI_1, atI_2, setI_1, setI_2, Bool.not_true, Bool.not_false, Bool.false_eq_true, if_false, if_true]; exact h)); (try dsimp only [gName, tNext, List.set_cons_zero, List.set_cons_succ]))
      exact k
  · exact h.elim

def sp_EndlessCut_eq (K : PySem.W.Frag) (A : Ad) : Sp := spEqP .EndlessCut K A
def t_EndlessCut_eq_1 (K : PySem.W.Frag) (A : Ad) : TS := (tRet (tC (.bl false)))
def t_EndlessCut_eq_2 (K : PySem.W.Frag) (A : Ad) : TS := (tRet (tOp rEqT9 (tTup (tCons (tFld K (tVar 0) "text") (tCons (tFld K (tVar 0) "at") (tCons (tFld K (tVar 0) "ring") (tCons (tFld K (tVar 0) "behind") tNil))))) (tTup (tCons (tFld K (tVar 1) "text") (tCons (tFld K (tVar 1) "at") (tCons (tFld K (tVar 1) "ring") (tCons (tFld K (tVar 1) "behind") tNil)))))))
def t_EndlessCut_eq_0 (K : PySem.W.Frag) (A : Ad) : TS := (tSeq (tIfS (tNot (tB (tCB (cIsi K) (tCons (tVar 1) (tCons (tC (.ref A.c_EndlessCut)) tNil))))) (t_EndlessCut_eq_1 K A) tNext) (t_EndlessCut_eq_2 K A))

theorem pure_EndlessCut_eq {K : PySem.W.Frag} {A : Ad} {xs : List V} {H : Hp} {Q : VK} {E : XK} (F : KF K A) (h : sp_EndlessCut_eq K A xs H Q E) : (t_EndlessCut_eq_0 K A) { nx := fun _ H' => Q .non H', rt := Q } (start ["self", "other"] xs) H := by
  unfold sp_EndlessCut_eq spEqP at h
  have cl : Cls K A.c_EndlessCut := (F.ty .EndlessCut).cl
  have na : ∀ n ∈ P10.EndlessCut.names, NoAttr K A.c_EndlessCut n := F.na .EndlessCut
  split at h
  · rename_i a y
    obtain ⟨w, vs, S, P, h⟩ := h
    obtain ⟨hl, dx, ha⟩ := P
    obtain ⟨v0, v1, v2, v3, rfl⟩ := len4 hl
    rcases h with ⟨b, us, rfl, Pb, k⟩ | ⟨⟨t, ht, hok, hk⟩, k⟩
    · have hty : tyF H (.ref b) = some (.ref A.c_EndlessCut) := Pb.ty
      obtain ⟨hl2, dy, hb⟩ := Pb
      obtain ⟨u0, u1, u2, u3, rfl⟩ := len4 hl2
      replace ha : H a = some (.ins A.c_EndlessCut dx [("text", W9.v w v0), ("at", W9.v w v1), ("ring", W9.v w v2), ("behind", W9.v w v3)]) := ha
      replace hb : H b = some (.ins A.c_EndlessCut dy [("text", W9.v w u0), ("at", W9.v w u1), ("ring", W9.v w u2), ("behind", W9.v w u3)]) := hb
      show (t_EndlessCut_eq_0 K A) _ [some (.ref a), some (.ref b)] H
      refine st_seq (st_if ?_)
      (refine evT ?P116 (fun Q h => ?h116) ?_; (case h116 => (simp only [tTest, tOp, tUn, tVar, tC, tCB, tCons, tNil, tAnd, tOr, tNot, tB, tTup, tLst, tIf, tAndV, tOrV, tNotV, tSl, tPart, tNoPart, tCall, iIx_ref, oGt_int, oMod_int, oFdiv_int, oAdd_int, oAdd_str, oSub_int, oMul_int, oLt_int, oGe_int, oLe_int, oPow_int, uNeg_int, oEq_int, oEq_str, oEq_bl, oNe_int, oNe_str, oNe_bl, cInt_int, cInt_bl, cAbs_int, cLen_ref, cList_ref, stL_ref, gName, gSub, gTup, gCons, gNil, rdSeq, List.getElem?_cons_zero, List.getElem?_cons_succ, List.set_cons_zero, List.set_cons_succ, List.cons_append, List.nil_append, Option.some.injEq, exists_eq_left', V.bl.injEq, V.int.injEq, V.ref.injEq, atI_0, atI_1, atI_2, setI_1, setI_2, Bool.not_true, Bool.not_false, Bool.false_eq_true, if_false, if_true, cIsi, hty, kit_rr, tFld_eq]; exact h)); (try dsimp only [gName, tNext, List.set_cons_zero, List.set_cons_succ]))
      refine ⟨F.ty .EndlessCut, ?_⟩
      refine if_no ?_
      show t_EndlessCut_eq_2 K A _ _ _
      refine st_ret ?_
      (refine evE ?P135 (fun Q h => ?h135) ?_; (case h135 => (simp only [tTest, tOp, tUn, tVar, tC, tCB, tCons, tNil, tAnd, tOr, tNot, tB, tTup, tLst, tIf, tAndV, tOrV, tNotV, tSl, tPart, tNoPart, tCall, iIx_ref, oGt_int, oMod_int, oFdiv_int, oAdd_int, oAdd_str, oSub_int, oMul_int, oLt_int, oGe_int, oLe_int, oPow_int, uNeg_int, oEq_int, oEq_str, oEq_bl, oNe_int, oNe_str, oNe_bl, cInt_int, cInt_bl, cAbs_int, cLen_ref, cList_ref, stL_ref, gName, gSub, gTup, gCons, gNil, rdSeq, List.getElem?_cons_zero, List.getElem?_cons_succ, List.set_cons_zero, List.set_cons_succ, List.cons_append, List.nil_append, Option.some.injEq, exists_eq_left', V.bl.injEq, V.int.injEq, V.ref.injEq, atI_0, atI_1, atI_2, setI_1, setI_2, Bool.not_true, Bool.not_false, Bool.false_eq_true, if_false, if_true, tFld_eq]; exact h)))
      refine fld_of cl (na _ (by decide)) ha rfl ?_
      refine fld_of cl (na _ (by decide)) ha rfl ?_
      refine fld_of cl (na _ (by decide)) ha rfl ?_
      refine fld_of cl (na _ (by decide)) ha rfl ?_
      refine ⟨by show 4 ≤ sizeLine; decide, fun p hp => ?_⟩
      have gp := Grow.new (o := .tup [W9.v w v0, W9.v w v1, W9.v w v2, W9.v w v3]) hp
      have ep : upd H p (.tup [W9.v w v0, W9.v w v1, W9.v w v2, W9.v w v3]) p = some (.tup [W9.v w v0, W9.v w v1, W9.v w v2, W9.v w v3]) := upd_same
      replace hb := gp _ _ hb
      replace S := S.grow gp
      generalize upd H p (.tup [W9.v w v0, W9.v w v1, W9.v w v2, W9.v w v3]) = H1 at *
      refine fld_of cl (na _ (by decide)) hb rfl ?_
      refine fld_of cl (na _ (by decide)) hb rfl ?_
      refine fld_of cl (na _ (by decide)) hb rfl ?_
      refine fld_of cl (na _ (by decide)) hb rfl ?_
      refine ⟨by show 4 ≤ sizeLine; decide, fun p2 hp2 => ?_⟩
      have gp2 := Grow.new (o := .tup [W9.v w u0, W9.v w u1, W9.v w u2, W9.v w u3]) hp2
      have ep2 : upd H1 p2 (.tup [W9.v w u0, W9.v w u1, W9.v w u2, W9.v w u3]) p2 = some (.tup [W9.v w u0, W9.v w u1, W9.v w u2, W9.v w u3]) := upd_same
      replace ep := gp2 _ _ ep
      replace S := S.grow gp2
      refine ⟨w, [v0, v1, v2, v3], [u0, u1, u2, u3], p, p2, S, rfl, rfl, rfl, ep, ep2, ?_⟩
      have hf : decide ([v0, v1, v2, v3] = [u0, u1, u2, u3]) = decide ([v0, v1, v2, v3] = [u0, u1, u2, u3]) := by
        refine decide_eq_decide.mpr ?_
        first
          | exact Iff.rfl
          | (simp only [List.cons.injEq]; constructor <;> intro z <;> (try simp_all))
      rw [hf]
      exact k _ (gp.trans gp2)
    · show (t_EndlessCut_eq_0 K A) _ [some (.ref a), some (y)] H
      refine st_seq (st_if ?_)
      (refine evT ?P117 (fun Q h => ?h117) ?_; (case h117 => (simp only [tTest, tOp, tUn, tVar, tC, tCB, tCons, tNil, tAnd, tOr, tNot, tB, tTup, tLst, tIf, tAndV, tOrV, tNotV, tSl, tPart, tNoPart, tCall, iIx_ref, oGt_int, oMod_int, oFdiv_int, oAdd_int, oAdd_str, oSub_int, oMul_int, oLt_int, oGe_int, oLe_int, oPow_int, uNeg_int, oEq_int, oEq_str, oEq_bl, oNe_int, oNe_str, oNe_bl, cInt_int, cInt_bl, cAbs_int, cLen_ref, cList_ref, stL_ref, gName, gSub, gTup, gCons, gNil, rdSeq, List.getElem?_cons_zero, List.getElem?_cons_succ, List.set_cons_zero, List.set_cons_succ, List.cons_append, List.nil_append, Option.some.injEq, exists_eq_left', V.bl.injEq, V.int.injEq, V.ref.injEq, atI_0, atI_1, atI_2, setI_1, setI_2, Bool.not_true, Bool.not_false, Bool.false_eq_true, if_false, if_true, cIsi, ht]; exact h)); (try dsimp only [gName, tNext, List.set_cons_zero, List.set_cons_succ]))
      rw [show PySem.W.kitOne K t (.ref A.c_EndlessCut) = some false from hk]
      refine ⟨hok, ?_⟩
      try simp only [Bool.not_false, Bool.not_true, if_true]
      refine st_ret ?_
      (refine evE ?P118 (fun Q h => ?h118) ?_; (case h118 => (simp only [tTest, tOp, tUn, tVar, tC, tCB, tCons, tNil, tAnd, tOr, tNot, tB, tTup, tLst, tIf, tAndV, tOrV, tNotV, tSl, tPart, tNoPart, tCall, iIx_ref, oGt_int, oMod_int, oFdiv_int, oAdd_int, oAdd_str, oSub_int, oMul_int, oLt_int, oGe_int, oLe_int, oPow_int, uNeg_int, oEq_int, oEq_str, oEq_bl, oNe_int, oNe_str, oNe_bl, cInt_int, cInt_bl, cAbs_int, cLen_ref, cList_ref, stL_ref, gName, gSub, gTup, gCons, gNil, rdSeq, List.getElem?_cons_zero, List.getElem?_cons_succ, List.set_cons_zero, List.set_cons_succ, List.cons_append, List.nil_append, Option.some.injEq, exists_eq_left', V.bl.injEq, V.int.injEq, V.ref.injEq, atI_0, atI_1, atI_2, setI_1, setI_2, Bool.not_true, Bool.not_false, Bool.false_eq_true, if_false, if_true]; exact h)); (try dsimp only [gName, tNext, List.set_cons_zero, List.set_cons_succ]))
      exact k
  · exact h.elim

def sp_Table_eq (K : PySem.W.Frag) (A : Ad) : Sp := spEqP .Table K A
def t_Table_eq_0 (K : PySem.W.Frag) (A : Ad) : TS := (tRet (tAndV (tCB (cIsi K) (tCons (tVar 1) (tCons (tC (.ref A.c_Table)) tNil))) (tOp rEq9 (tFld K (tVar 0) "growths") (tFld K (tVar 1) "growths"))))

theorem pure_Table_eq {K : PySem.W.Frag} {A : Ad} {xs : List V} {H : Hp} {Q : VK} {E : XK} (F : KF K A) (h : sp_Table_eq K A xs H Q E) : (t_Table_eq_0 K A) { nx := fun _ H' => Q .non H', rt := Q } (start ["self", "other"] xs) H := by
  unfold sp_Table_eq spEqP at h
  have cl : Cls K A.c_Table := (F.ty .Table).cl
  have na : ∀ n ∈ P10.Table.names, NoAttr K A.c_Table n := F.na .Table
  split at h
  · rename_i a y
    obtain ⟨w, vs, S, P, h⟩ := h
    obtain ⟨hl, dx, ha⟩ := P
    obtain ⟨v0, rfl⟩ := len1 hl
    rcases h with ⟨b, us, rfl, Pb, k⟩ | ⟨⟨t, ht, hok, hk⟩, k⟩
    · have hty : tyF H (.ref b) = some (.ref A.c_Table) := Pb.ty
      obtain ⟨hl2, dy, hb⟩ := Pb
      obtain ⟨u0, rfl⟩ := len1 hl2
      replace ha : H a = some (.ins A.c_Table dx [("growths", W9.v w v0)]) := ha
      replace hb : H b = some (.ins A.c_Table dy [("growths", W9.v w u0)]) := hb
      show (t_Table_eq_0 K A) _ [some (.ref a), some (.ref b)] H
      refine st_ret ?_
      (refine evE ?P119 (fun Q h => ?h119) ?_; (case h119 => (simp only [tTest, tOp, tUn, tVar, tC, tCB, tCons, tNil, tAnd, tOr, tNot, tB, tTup, tLst, tIf, tAndV, tOrV, tNotV, tSl, tPart, tNoPart, tCall, iIx_ref, oGt_int, oMod_int, oFdiv_int, oAdd_int, oAdd_str, oSub_int, oMul_int, oLt_int, oGe_int, oLe_int, oPow_int, uNeg_int, oEq_int, oEq_str, oEq_bl, oNe_int, oNe_str, oNe_bl, cInt_int, cInt_bl, cAbs_int, cLen_ref, cList_ref, stL_ref, gName, gSub, gTup, gCons, gNil, rdSeq, List.getElem?_cons_zero, List.getElem?_cons_succ, List.set_cons_zero, List.set_cons_succ, List.cons_append, List.nil_append, Option.some.injEq, exists_eq_left', V.bl.injEq, V.int.injEq, V.ref.injEq, atI_0, atI_1, atI_2, setI_1, setI_2, Bool.not_true, Bool.not_false, Bool.false_eq_true, if_false, if_true, cIsi, hty, kit_rr, tFld_eq]; exact h)); (try dsimp only [gName, tNext, List.set_cons_zero, List.set_cons_succ]))
      refine ⟨F.ty .Table, ?_⟩
      refine fld_of cl (na _ (by decide)) ha rfl ?_
      refine fld_of cl (na _ (by decide)) hb rfl ?_
      refine ⟨w, v0, u0, S, rfl, rfl, ?_⟩
      have hf : decide ([v0] = [u0]) = decide (v0 = u0) := by
        refine decide_eq_decide.mpr ?_
        first
          | exact Iff.rfl
          | (simp only [List.cons.injEq]; constructor <;> intro z <;> (try simp_all))
      rw [← hf]
      exact k _ .refl
    · show (t_Table_eq_0 K A) _ [some (.ref a), some (y)] H
      refine st_ret ?_
      (refine evE ?P120 (fun Q h => ?h120) ?_; (case h120 => (simp only [tTest, tOp, tUn, tVar, tC, tCB, tCons, tNil, tAnd, tOr, tNot, tB, tTup, tLst, tIf, tAndV, tOrV, tNotV, tSl, tPart, tNoPart, tCall, iIx_ref, oGt_int, oMod_int, oFdiv_int, oAdd_int, oAdd_str, oSub_int, oMul_int, oLt_int, oGe_int, oLe_int, oPow_int, uNeg_int, oEq_int, oEq_str, oEq_bl, oNe_int, oNe_str, oNe_bl, cInt_int, cInt_bl, cAbs_int, cLen_ref, cList_ref, stL_ref, gName, gSub, gTup, gCons, gNil, rdSeq, List.getElem?_cons_zero, List.getElem?_cons_succ, List.set_cons_zero, List.set_cons_succ, List.cons_append, List.nil_append, Option.some.injEq, exists_eq_left', V.bl.injEq, V.int.injEq, V.ref.injEq, atI_0, atI_1, atI_2, setI_1, setI_2, Bool.not_true, Bool.not_false, Bool.false_eq_true, if_false, if_true, cIsi, ht]; exact h)); (try dsimp only [gName, tNext, List.set_cons_zero, List.set_cons_succ]))
      rw [show PySem.W.kitOne K t (.ref A.c_Table) = some false from hk]
      refine ⟨hok, ?_⟩
      exact k
  · exact h.elim

def sp_Ring_eq (K : PySem.W.Frag) (A : Ad) : Sp := spEqP .Ring K A
def t_Ring_eq_0 (K : PySem.W.Frag) (A : Ad) : TS := (tRet (tAndV (tCB (cIsi K) (tCons (tVar 1) (tCons (tC (.ref A.c_Ring)) tNil))) (tAndV (tOp rEq9 (tFld K (tVar 0) "state") (tFld K (tVar 1) "state")) (tOp rEq9 (tFld K (tVar 0) "text") (tFld K (tVar 1) "text")))))

theorem pure_Ring_eq {K : PySem.W.Frag} {A : Ad} {xs : List V} {H : Hp} {Q : VK} {E : XK} (F : KF K A) (h : sp_Ring_eq K A xs H Q E) : (t_Ring_eq_0 K A) { nx := fun _ H' => Q .non H', rt := Q } (start ["self", "other"] xs) H := by
  unfold sp_Ring_eq spEqP at h
  have cl : Cls K A.c_Ring := (F.ty .Ring).cl
  have na : ∀ n ∈ P10.Ring.names, NoAttr K A.c_Ring n := F.na .Ring
  split at h
  · rename_i a y
    obtain ⟨w, vs, S, P, h⟩ := h
    obtain ⟨hl, dx, ha⟩ := P
    obtain ⟨v0, v1, rfl⟩ := len2 hl
    rcases h with ⟨b, us, rfl, Pb, k⟩ | ⟨⟨t, ht, hok, hk⟩, k⟩
    · have hty : tyF H (.ref b) = some (.ref A.c_Ring) := Pb.ty
      obtain ⟨hl2, dy, hb⟩ := Pb
      obtain ⟨u0, u1, rfl⟩ := len2 hl2
      replace ha : H a = some (.ins A.c_Ring dx [("state", W9.v w v0), ("text", W9.v w v1)]) := ha
      replace hb : H b = some (.ins A.c_Ring dy [("state", W9.v w u0), ("text", W9.v w u1)]) := hb
      show (t_Ring_eq_0 K A) _ [some (.ref a), some (.ref b)] H
      refine st_ret ?_
      (refine evE ?P121 (fun Q h => ?h121) ?_; (case h121 => (simp only [tTest, tOp, tUn, tVar, tC, tCB, tCons, tNil, tAnd, tOr, tNot, tB, tTup, tLst, tIf, tAndV, tOrV, tNotV, tSl, tPart, tNoPart, tCall, iIx_ref, oGt_int, oMod_int, oFdiv_int, oAdd_int, oAdd_str, oSub_int, oMul_int, oLt_int, oGe_int, oLe_int, oPow_int, uNeg_int, oEq_int, oEq_str, oEq_bl, oNe_int, oNe_str, oNe_bl, cInt_int, cInt_bl, cAbs_int, cLen_ref, cList_ref, stL_ref, gName, gSub, gTup, gCons, gNil, rdSeq, List.getElem?_cons_zero, List.getElem?_cons_succ, List.set_cons_zero, List.set_cons_succ, List.cons_append, List.nil_append, Option.some.injEq, exists_eq_left', V.bl.injEq, V.int.injEq, V.ref.injEq, atI_0, atI_1, atI_2, setI_1, setI_2, Bool.not_true, Bool.not_false, Bool.false_eq_true, if_false, if_true, cIsi, hty, kit_rr, tFld_eq]; exact h)); (try dsimp only [gName, tNext, List.set_cons_zero, List.set_cons_succ]))
      refine ⟨F.ty .Ring, ?_⟩
      refine fld_of cl (na _ (by decide)) ha rfl ?_
      refine fld_of cl (na _ (by decide)) hb rfl ?_
      refine ⟨w, v0, u0, S, rfl, rfl, ?_⟩
      by_cases e0 : v0 = u0
      case neg =>
        have hf : decide ([v0, v1] = [u0, u1]) = false := decide_eq_false fun z => e0 (by simp only [List.cons.injEq] at z; simp_all)
        rw [hf] at k
        rw [decide_eq_false e0]
        refine ⟨_, rfl, ?_⟩
        refine if_no ?_
        exact k _ .refl
      rw [decide_eq_true e0]
      refine ⟨_, rfl, ?_⟩
      refine if_yes ?_
      refine fld_of cl (na _ (by decide)) ha rfl ?_
      refine fld_of cl (na _ (by decide)) hb rfl ?_
      refine ⟨w, v1, u1, S, rfl, rfl, ?_⟩
      have hf : decide ([v0, v1] = [u0, u1]) = decide (v1 = u1) := by
        refine decide_eq_decide.mpr ?_
        first
          | exact Iff.rfl
          | (simp only [List.cons.injEq]; constructor <;> intro z <;> (try simp_all))
      rw [← hf]
      exact k _ .refl
    · show (t_Ring_eq_0 K A) _ [some (.ref a), some (y)] H
      refine st_ret ?_
      (refine evE ?P122 (fun Q h => ?h122) ?_; (case h122 => (simp only [tTest, tOp, tUn, tVar, tC, tCB, tCons, tNil, tAnd, tOr, tNot, tB, tTup, tLst, tIf, tAndV, tOrV, tNotV, tSl, tPart, tNoPart, tCall, iIx_ref, oGt_int, oMod_int, oFdiv_int, oAdd_int, oAdd_str, oSub_int, oMul_int, oLt_int, oGe_int, oLe_int, oPow_int, uNeg_int, oEq_int, oEq_str, oEq_bl, oNe_int, oNe_str, oNe_bl, cInt_int, cInt_bl, cAbs_int, cLen_ref, cList_ref, stL_ref, gName, gSub, gTup, gCons, gNil, rdSeq, List.getElem?_cons_zero, List.getElem?_cons_succ, List.set_cons_zero, List.set_cons_succ, List.cons_append, List.nil_append, Option.some.injEq, exists_eq_left', V.bl.injEq, V.int.injEq, V.ref.injEq, atI_0, atI_1, atI_2, setI_1, setI_2, Bool.not_true, Bool.not_false, Bool.false_eq_true, if_false, if_true, cIsi, ht]; exact h)); (try dsimp only [gName, tNext, List.set_cons_zero, List.set_cons_succ]))
      rw [show PySem.W.kitOne K t (.ref A.c_Ring) = some false from hk]
      refine ⟨hok, ?_⟩
      exact k
  · exact h.elim

def sp_Mean_eq (K : PySem.W.Frag) (A : Ad) : Sp := spEqP .Mean K A
def t_Mean_eq_1 (K : PySem.W.Frag) (A : Ad) : TS := (tRet (tC (.bl false)))
def t_Mean_eq_2 (K : PySem.W.Frag) (A : Ad) : TS := (tRet (tAndV (tOp rEq9 (tFld K (tVar 0) "ring") (tFld K (tVar 1) "ring")) (tOp rEq9 (tFld K (tVar 0) "heights") (tFld K (tVar 1) "heights"))))
def t_Mean_eq_0 (K : PySem.W.Frag) (A : Ad) : TS := (tSeq (tIfS (tOr (tNot (tB (tCB (cIsi K) (tCons (tVar 1) (tCons (tC (.ref A.c_Mean)) tNil))))) (tTest (tOp rNe9 (tFld K (tVar 0) "rate") (tFld K (tVar 1) "rate")))) (t_Mean_eq_1 K A) tNext) (t_Mean_eq_2 K A))

theorem pure_Mean_eq {K : PySem.W.Frag} {A : Ad} {xs : List V} {H : Hp} {Q : VK} {E : XK} (F : KF K A) (h : sp_Mean_eq K A xs H Q E) : (t_Mean_eq_0 K A) { nx := fun _ H' => Q .non H', rt := Q } (start ["self", "other"] xs) H := by
  unfold sp_Mean_eq spEqP at h
  have cl : Cls K A.c_Mean := (F.ty .Mean).cl
  have na : ∀ n ∈ P10.Mean.names, NoAttr K A.c_Mean n := F.na .Mean
  split at h
  · rename_i a y
    obtain ⟨w, vs, S, P, h⟩ := h
    obtain ⟨hl, dx, ha⟩ := P
    obtain ⟨v0, v1, v2, rfl⟩ := len3 hl
    rcases h with ⟨b, us, rfl, Pb, k⟩ | ⟨⟨t, ht, hok, hk⟩, k⟩
    · have hty : tyF H (.ref b) = some (.ref A.c_Mean) := Pb.ty
      obtain ⟨hl2, dy, hb⟩ := Pb
      obtain ⟨u0, u1, u2, rfl⟩ := len3 hl2
      replace ha : H a = some (.ins A.c_Mean dx [("rate", W9.v w v0), ("ring", W9.v w v1), ("heights", W9.v w v2)]) := ha
      replace hb : H b = some (.ins A.c_Mean dy [("rate", W9.v w u0), ("ring", W9.v w u1), ("heights", W9.v w u2)]) := hb
      show (t_Mean_eq_0 K A) _ [some (.ref a), some (.ref b)] H
      refine st_seq (st_if ?_)
      (refine evT ?P123 (fun Q h => ?h123) ?_; (case h123 => (simp only [tTest, tOp, tUn, tVar, tC, tCB, tCons, tNil, tAnd, tOr, tNot, tB, tTup, tLst, tIf, tAndV, tOrV, tNotV, tSl, tPart, tNoPart, tCall, iIx_ref, oGt_int, oMod_int, oFdiv_int, oAdd_int, oAdd_str, oSub_int, oMul_int, oLt_int, oGe_int, oLe_int, oPow_int, uNeg_int, oEq_int, oEq_str, oEq_bl, oNe_int, oNe_str, oNe_bl, cInt_int, cInt_bl, cAbs_int, cLen_ref, cList_ref, stL_ref, gName, gSub, gTup, gCons, gNil, rdSeq, List.getElem?_cons_zero, List.getElem?_cons_succ, List.set_cons_zero, List.set_cons_succ, List.cons_append, List.nil_append, Option.some.injEq, exists_eq_left', V.bl.injEq, V.int.injEq, V.ref.injEq, atI_0, atI_1, atI_2, setI_1, setI_2, Bool.not_true, Bool.not_false, Bool.false_eq_true, if_false, if_true, cIsi, hty, kit_rr, tFld_eq]; exact h)); (try dsimp only [gName, tNext, List.set_cons_zero, List.set_cons_succ]))
      refine ⟨F.ty .Mean, ?_⟩
      refine fld_of cl (na _ (by decide)) ha rfl ?_
      refine fld_of cl (na _ (by decide)) hb rfl ?_
      refine ⟨w, v0, u0, S, rfl, rfl, ?_⟩
      by_cases e0 : v0 = u0
      case neg =>
        have hf : decide ([v0, v1, v2] = [u0, u1, u2]) = false := decide_eq_false fun z => e0 (by simp only [List.cons.injEq] at z; simp_all)
        rw [hf] at k
        rw [decide_eq_false e0]
        refine ⟨_, rfl, ?_⟩
        try simp only [Bool.not_false, Bool.not_true, if_true]
        refine st_ret ?_
        (refine evE ?P124 (fun Q h => ?h124) ?_; (case h124 => (simp only [tTest, tOp, tUn, tVar, tC, tCB, tCons, tNil, tAnd, tOr, tNot, tB, tTup, tLst, tIf, tAndV, tOrV, tNotV, tSl, tPart, tNoPart, tCall, iIx_ref, oGt_int, oMod_int, oFdiv_int, oAdd_int, oAdd_str, oSub_int, oMul_int, oLt_int, oGe_int, oLe_int, oPow_int, uNeg_int, oEq_int, oEq_str, oEq_bl, oNe_int, oNe_str, oNe_bl, cInt_int, cInt_bl, cAbs_int, cLen_ref, cList_ref, stL_ref, gName, gSub, gTup, gCons, gNil, rdSeq, List.getElem?_cons_zero, List.getElem?_cons_succ, List.set_cons_zero, List.set_cons_succ, List.cons_append, List.nil_append, Option.some.injEq, exists_eq_left', V.bl.injEq, V.int.injEq, V.ref.injEq, atI_0, atI_1, atI_2, setI_1, setI_2, Bool.not_true, Bool.not_false, Bool.false_eq_true, if_false, if_true]; exact h)); (try dsimp only [gName, tNext, List.set_cons_zero, List.set_cons_succ]))
        exact k _ .refl
      rw [decide_eq_true e0]
      refine ⟨_, rfl, ?_⟩
      refine if_no ?_
      show t_Mean_eq_2 K A _ _ _
      refine st_ret ?_
      (refine evE ?P125 (fun Q h => ?h125) ?_; (case h125 => (simp only [tTest, tOp, tUn, tVar, tC, tCB, tCons, tNil, tAnd, tOr, tNot, tB, tTup, tLst, tIf, tAndV, tOrV, tNotV, tSl, tPart, tNoPart, tCall, iIx_ref, oGt_int, oMod_int, oFdiv_int, oAdd_int, oAdd_str, oSub_int, oMul_int, oLt_int, oGe_int, oLe_int, oPow_int, uNeg_int, oEq_int, oEq_str, oEq_bl, oNe_int, oNe_str, oNe_bl, cInt_int, cInt_bl, cAbs_int, cLen_ref, cList_ref, stL_ref, gName, gSub, gTup, gCons, gNil, rdSeq, List.getElem?_cons_zero, List.getElem?_cons_succ, List.set_cons_zero, List.set_cons_succ, List.cons_append, List.nil_append, Option.some.injEq, exists_eq_left', V.bl.injEq, V.int.injEq, V.ref.injEq, atI_0, atI_1, atI_2, setI_1, setI_2, Bool.not_true, Bool.not_false, Bool.false_eq_true, if_false, if_true, tFld_eq]; exact h)); (try dsimp only [gName, tNext, List.set_cons_zero, List.set_cons_succ]))
      refine fld_of cl (na _ (by decide)) ha rfl ?_
      refine fld_of cl (na _ (by decide)) hb rfl ?_
      refine ⟨w, v1, u1, S, rfl, rfl, ?_⟩
      by_cases e1 : v1 = u1
      case neg =>
        have hf : decide ([v0, v1, v2] = [u0, u1, u2]) = false := decide_eq_false fun z => e1 (by simp only [List.cons.injEq] at z; simp_all)
        rw [hf] at k
        rw [decide_eq_false e1]
        refine ⟨_, rfl, ?_⟩
        refine if_no ?_
        exact k _ .refl
      rw [decide_eq_true e1]
      refine ⟨_, rfl, ?_⟩
      refine if_yes ?_
      refine fld_of cl (na _ (by decide)) ha rfl ?_
      refine fld_of cl (na _ (by decide)) hb rfl ?_
      refine ⟨w, v2, u2, S, rfl, rfl, ?_⟩
      have hf : decide ([v0, v1, v2] = [u0, u1, u2]) = decide (v2 = u2) := by
        refine decide_eq_decide.mpr ?_
        first
          | exact Iff.rfl
          | (simp only [List.cons.injEq]; constructor <;> intro z <;> (try simp_all))
      rw [← hf]
      exact k _ .refl
    · show (t_Mean_eq_0 K A) _ [some (.ref a), some (y)] H
      refine st_seq (st_if ?_)
      (refine evT ?P126 (fun Q h => ?h126) ?_; (case h126 => (simp only [tTest, tOp, tUn, tVar, tC, tCB, tCons, tNil, tAnd, tOr, tNot, tB, tTup, tLst, tIf, tAndV, tOrV, tNotV, tSl, tPart, tNoPart, tCall, iIx_ref, oGt_int, oMod_int, oFdiv_int, oAdd_int, oAdd_str, oSub_int, oMul_int, oLt_int, oGe_int, oLe_int, oPow_int, uNeg_int, oEq_int, oEq_str, oEq_bl, oNe_int, oNe_str, oNe_bl, cInt_int, cInt_bl, cAbs_int, cLen_ref, cList_ref, stL_ref, gName, gSub, gTup, gCons, gNil, rdSeq, List.getElem?_cons_zero, List.getElem?_cons_succ, List.set_cons_zero, List.set_cons_succ, List.cons_append, List.nil_append, Option.some.injEq, exists_eq_left', V.bl.injEq, V.int.injEq, V.ref.injEq, atI_0, atI_1, atI_2, setI_1, setI_2, Bool.not_true, Bool.not_false, Bool.false_eq_true, if_false, if_true, cIsi, ht]; exact h)); (try dsimp only [gName, tNext, List.set_cons_zero, List.set_cons_succ]))
      rw [show PySem.W.kitOne K t (.ref A.c_Mean) = some false from hk]
      refine ⟨hok, ?_⟩
      try simp only [Bool.not_false, Bool.not_true, if_true]
      refine st_ret ?_
      (refine evE ?P127 (fun Q h => ?h127) ?_; (case h127 => (simp only [tTest, tOp, tUn, tVar, tC, tCB, tCons, tNil, tAnd, tOr, tNot, tB, tTup, tLst, tIf, tAndV, tOrV, tNotV, tSl, tPart, tNoPart, tCall, iIx_ref, oGt_int, oMod_int, oFdiv_int, oAdd_int, oAdd_str, oSub_int, oMul_int, oLt_int, oGe_int, oLe_int, oPow_int, uNeg_int, oEq_int, oEq_str, oEq_bl, oNe_int, oNe_str, oNe_bl, cInt_int, cInt_bl, cAbs_int, cLen_ref, cList_ref, stL_ref, gName, gSub, gTup, gCons, gNil, rdSeq, List.getElem?_cons_zero, List.getElem?_cons_succ, List.set_cons_zero, List.set_cons_succ, List.cons_append, List.nil_append, Option.some.injEq, exists_eq_left', V.bl.injEq, V.int.injEq, V.ref.injEq, atI_0, atI_1, atI_2, setI_1, setI_2, Bool.not_true, Bool.not_false, Bool.false_eq_true, if_false, if_true]; exact h)); (try dsimp only [gName, tNext, List.set_cons_zero, List.set_cons_succ]))
      exact k
  · exact h.elim

def sp_Lengths_eq (K : PySem.W.Frag) (A : Ad) : Sp := spEqP .Lengths K A
def t_Lengths_eq_1 (K : PySem.W.Frag) (A : Ad) : TS := (tRet (tC (.bl false)))
def t_Lengths_eq_2 (K : PySem.W.Frag) (A : Ad) : TS := (tRet (tAndV (tOp rEq9 (tFld K (tVar 0) "steps") (tFld K (tVar 1) "steps")) (tOp rEq9 (tFld K (tVar 0) "tails") (tFld K (tVar 1) "tails"))))
def t_Lengths_eq_0 (K : PySem.W.Frag) (A : Ad) : TS := (tSeq (tIfS (tOr (tNot (tB (tCB (cIsi K) (tCons (tVar 1) (tCons (tC (.ref A.c_Lengths)) tNil))))) (tTest (tOp rNe9 (tFld K (tVar 0) "first") (tFld K (tVar 1) "first")))) (t_Lengths_eq_1 K A) tNext) (t_Lengths_eq_2 K A))

theorem pure_Lengths_eq {K : PySem.W.Frag} {A : Ad} {xs : List V} {H : Hp} {Q : VK} {E : XK} (F : KF K A) (h : sp_Lengths_eq K A xs H Q E) : (t_Lengths_eq_0 K A) { nx := fun _ H' => Q .non H', rt := Q } (start ["self", "other"] xs) H := by
  unfold sp_Lengths_eq spEqP at h
  have cl : Cls K A.c_Lengths := (F.ty .Lengths).cl
  have na : ∀ n ∈ P10.Lengths.names, NoAttr K A.c_Lengths n := F.na .Lengths
  split at h
  · rename_i a y
    obtain ⟨w, vs, S, P, h⟩ := h
    obtain ⟨hl, dx, ha⟩ := P
    obtain ⟨v0, v1, v2, rfl⟩ := len3 hl
    rcases h with ⟨b, us, rfl, Pb, k⟩ | ⟨⟨t, ht, hok, hk⟩, k⟩
    · have hty : tyF H (.ref b) = some (.ref A.c_Lengths) := Pb.ty
      obtain ⟨hl2, dy, hb⟩ := Pb
      obtain ⟨u0, u1, u2, rfl⟩ := len3 hl2
      replace ha : H a = some (.ins A.c_Lengths dx [("first", W9.v w v0), ("steps", W9.v w v1), ("tails", W9.v w v2)]) := ha
      replace hb : H b = some (.ins A.c_Lengths dy [("first", W9.v w u0), ("steps", W9.v w u1), ("tails", W9.v w u2)]) := hb
      show (t_Lengths_eq_0 K A) _ [some (.ref a), some (.ref b)] H
      refine st_seq (st_if ?_)
      (refine evT ?P128 (fun Q h => ?h128) ?_; (case h128 => (simp only [tTest, tOp, tUn, tVar, tC, tCB, tCons, tNil, tAnd, tOr, tNot, tB, tTup, tLst, tIf, tAndV, tOrV, tNotV, tSl, tPart, tNoPart, tCall, iIx_ref, oGt_int, oMod_int, oFdiv_int, oAdd_int, oAdd_str, oSub_int, oMul_int, oLt_int, oGe_int, oLe_int, oPow_int, uNeg_int, oEq_int, oEq_str, oEq_bl, oNe_int, oNe_str, oNe_bl, cInt_int, cInt_bl, cAbs_int, cLen_ref, cList_ref, stL_ref, gName, gSub, gTup, gCons, gNil, rdSeq, List.getElem?_cons_zero, List.getElem?_cons_succ, List.set_cons_zero, List.set_cons_succ, List.cons_append, List.nil_append, Option.some.injEq, exists_eq_left', V.bl.injEq, V.int.injEq, V.ref.injEq, atI_0, atI_1, atI_2, setI_1, setI_2, Bool.not_true, Bool.not_false, Bool.false_eq_true, if_false, if_true, cIsi, hty, kit_rr, tFld_eq]; exact h)); (try dsimp only [gName, tNext, List.set_cons_zero, List.set_cons_succ]))
      refine ⟨F.ty .Lengths, ?_⟩
      refine fld_of cl (na _ (by decide)) ha rfl ?_
      refine fld_of cl (na _ (by decide)) hb rfl ?_
      refine ⟨w, v0, u0, S, rfl, rfl, ?_⟩
      by_cases e0 : v0 = u0
      case neg =>
        have hf : decide ([v0, v1, v2] = [u0, u1, u2]) = false := decide_eq_false fun z => e0 (by simp only [List.cons.injEq] at z; simp_all)
        rw [hf] at k
        rw [decide_eq_false e0]
        refine ⟨_, rfl, ?_⟩
        try simp only [Bool.not_false, Bool.not_true, if_true]
        refine st_ret ?_
        (refine evE ?P129 (fun Q h => ?h129) ?_; (case h129 => (simp only [tTest, tOp, tUn, tVar, tC, tCB, tCons, tNil, tAnd, tOr, tNot, tB, tTup, tLst, tIf, tAndV, tOrV, tNotV, tSl, tPart, tNoPart, tCall, iIx_ref, oGt_int, oMod_int, oFdiv_int, oAdd_int, oAdd_str, oSub_int, oMul_int, oLt_int, oGe_int, oLe_int, oPow_int, uNeg_int, oEq_int, oEq_str, oEq_bl, oNe_int, oNe_str, oNe_bl, cInt_int, cInt_bl, cAbs_int, cLen_ref, cList_ref, stL_ref, gName, gSub, gTup, gCons, gNil, rdSeq, List.getElem?_cons_zero, List.getElem?_cons_succ, List.set_cons_zero, List.set_cons_succ, List.cons_append, List.nil_append, Option.some.injEq, exists_eq_left', V.bl.injEq, V.int.injEq, V.ref.injEq, atI_0, atI_1, atI_2, setI_1, setI_2, Bool.not_true, Bool.not_false, Bool.false_eq_true, if_false, if_true]; exact h)); (try dsimp only [gName, tNext, List.set_cons_zero, List.set_cons_succ]))
        exact k _ .refl
      rw [decide_eq_true e0]
      refine ⟨_, rfl, ?_⟩
      refine if_no ?_
      show t_Lengths_eq_2 K A _ _ _
      refine st_ret ?_
      (refine evE ?P130 (fun Q h => ?h130) ?_; (case h130 => (simp only [tTest, tOp, tUn, tVar, tC, tCB, tCons, tNil, tAnd, tOr, tNot, tB, tTup, tLst, tIf, tAndV, tOrV, tNotV, tSl, tPart, tNoPart, tCall, iIx_ref, oGt_int, oMod_int, oFdiv_int, oAdd_int, oAdd_str, oSub_int, oMul_int, oLt_int, oGe_int, oLe_int, oPow_int, uNeg_int, oEq_int, oEq_str, oEq_bl, oNe_int, oNe_str, oNe_bl, cInt_int, cInt_bl, cAbs_int, cLen_ref, cList_ref, stL_ref, gName, gSub, gTup, gCons, gNil, rdSeq, List.getElem?_cons_zero, List.getElem?_cons_succ, List.set_cons_zero, List.set_cons_succ, List.cons_append, List.nil_append, Option.some.injEq, exists_eq_left', V.bl.injEq, V.int.injEq, V.ref.injEq, atI_0, atI_1, atI_2, setI_1, setI_2, Bool.not_true, Bool.not_false, Bool.false_eq_true, if_false, if_true, tFld_eq]; exact h)); (try dsimp only [gName, tNext, List.set_cons_zero, List.set_cons_succ]))
      refine fld_of cl (na _ (by decide)) ha rfl ?_
      refine fld_of cl (na _ (by decide)) hb rfl ?_
      refine ⟨w, v1, u1, S, rfl, rfl, ?_⟩
      by_cases e1 : v1 = u1
      case neg =>
        have hf : decide ([v0, v1, v2] = [u0, u1, u2]) = false := decide_eq_false fun z => e1 (by simp only [List.cons.injEq] at z; simp_all)
        rw [hf] at k
        rw [decide_eq_false e1]
        refine ⟨_, rfl, ?_⟩
        refine if_no ?_
        exact k _ .refl
      rw [decide_eq_true e1]
      refine ⟨_, rfl, ?_⟩
      refine if_yes ?_
      refine fld_of cl (na _ (by decide)) ha rfl ?_
      refine fld_of cl (na _ (by decide)) hb rfl ?_
      refine ⟨w, v2, u2, S, rfl, rfl, ?_⟩
      have hf : decide ([v0, v1, v2] = [u0, u1, u2]) = decide (v2 = u2) := by
        refine decide_eq_decide.mpr ?_
        first
          | exact Iff.rfl
          | (simp only [List.cons.injEq]; constructor <;> intro z <;> (try simp_all))
      rw [← hf]
      exact k _ .refl
    · show (t_Lengths_eq_0 K A) _ [some (.ref a), some (y)] H
      refine st_seq (st_if ?_)
      (refine evT ?P131 (fun Q h => ?h131) ?_; (case h131 => (simp only [tTest, tOp, tUn, tVar, tC, tCB, tCons, tNil, tAnd, tOr, tNot, tB, tTup, tLst, tIf, tAndV, tOrV, tNotV, tSl, tPart, tNoPart, tCall, iIx_ref, oGt_int, oMod_int, oFdiv_int, oAdd_int, oAdd_str, oSub_int, oMul_int, oLt_int, oGe_int, oLe_int, oPow_int, uNeg_int, oEq_int, oEq_str, oEq_bl, oNe_int, oNe_str, oNe_bl, cInt_int, cInt_bl, cAbs_int, cLen_ref, cList_ref, stL_ref, gName, gSub, gTup, gCons, gNil, rdSeq, List.getElem?_cons_zero, List.getElem?_cons_succ, List.set_cons_zero, List.set_cons_succ, List.cons_append, List.nil_append, Option.some.injEq, exists_eq_left', V.bl.injEq, V.int.injEq, V.ref.injEq, atI_0, atI_1, atI_2, setI_1, setI_2, Bool.not_true, Bool.not_false, Bool.false_eq_true, if_false, if_true, cIsi, ht]; exact h)); (try dsimp only [gName, tNext, List.set_cons_zero, List.set_cons_succ]))
      rw [show PySem.W.kitOne K t (.ref A.c_Lengths) = some false from hk]
      refine ⟨hok, ?_⟩
      try simp only [Bool.not_false, Bool.not_true, if_true]
      refine st_ret ?_
      (refine evE ?P132 (fun Q h => ?h132) ?_; (case h132 => (simp only [tTest, tOp, tUn, tVar, tC, tCB, tCons, tNil, tAnd, tOr, tNot, tB, tTup, tLst, tIf, tAndV, tOrV, tNotV, tSl, tPart, tNoPart, tCall, iIx_ref, oGt_int, oMod_int, oFdiv_int, oAdd_int, oAdd_str, oSub_int, oMul_int, oLt_int, oGe_int, oLe_int, oPow_int, uNeg_int, oEq_int, oEq_str, oEq_bl, oNe_int, oNe_str, oNe_bl, cInt_int, cInt_bl, cAbs_int, cLen_ref, cList_ref, stL_ref, gName, gSub, gTup, gCons, gNil, rdSeq, List.getElem?_cons_zero, List.getElem?_cons_succ, List.set_cons_zero, List.set_cons_succ, List.cons_append, List.nil_append, Option.some.injEq, exists_eq_left', V.bl.injEq, V.int.injEq, V.ref.injEq, atI_0, atI_1, atI_2, setI_1, setI_2, Bool.not_true, Bool.not_false, Bool.false_eq_true, if_false, if_true]; exact h)); (try dsimp only [gName, tNext, List.set_cons_zero, List.set_cons_succ]))
      exact k
  · exact h.elim

end HG

namespace HG
open PySem L2
structure R5 where
  t : Addr
  one : Addr
  oth : Addr
  told : Addr
  due : Addr
/-- (one, other, told, due) of a paper of class i with these values -/
structure RowAt (A : Ad) (H : Hp) (w : Thr) (i : P10) (vs : List W9) (r : R5) : Prop where
  ht : H r.t = some (.tup [.ref r.one, .ref r.oth, .ref r.told, .ref r.due])
  p1 : Pap A H w i vs r.one
  p2 : Pap A H w i vs r.oth
  h1 : H r.told = some (.lst (vs.map (W9.v w)))
  h2 : H r.due = some (.lst (vs.map (W9.v w)))
  n1 : r.told ≠ sysModules
  n2 : r.due ≠ sysModules
theorem RowAt.grow {A : Ad} {H H' : Hp} {w : Thr} {i : P10} {vs : List W9} {r : R5} (p : RowAt A H w i vs r) (g : Grow H H') : RowAt A H' w i vs r :=
  ⟨g _ _ p.ht, p.p1.grow g, p.p2.grow g, g _ _ p.h1, g _ _ p.h2, p.n1, p.n2⟩
theorem paired_imp {α β : Type} {F G : α → β → Prop} : ∀ {l : List α} {m : List β}, Paired F l m → (∀ a b, F a b → G a b) → Paired G l m
  | _, _, .nil, _ => .nil
  | _, _, .cons a b, h => .cons (h _ _ a) (paired_imp b h)
theorem paired_snoc {α β : Type} {F : α → β → Prop} {a : α} {b : β} : ∀ {l : List α} {m : List β}, Paired F l m → F a b → Paired F (l ++ [a]) (m ++ [b])
  | _, _, .nil, h => .cons h .nil
  | _, _, .cons x y, h => .cons x (paired_snoc y h)
theorem paired_app {α β : Type} {F : α → β → Prop} {l2 : List α} {m2 : List β} : ∀ {l : List α} {m : List β}, Paired F l m → Paired F l2 m2 → Paired F (l ++ l2) (m ++ m2)
  | _, _, .nil, h => h
  | _, _, .cons x y, h => .cons x (paired_app y h)
def RowsAt (A : Ad) (H : Hp) (w : Thr) (ps : List (P10 × List W9)) (rs : List R5) : Prop := Paired (fun p r => RowAt A H w p.1 p.2 r) ps rs
theorem RowsAt.grow {A : Ad} {H H' : Hp} {w : Thr} {ps : List (P10 × List W9)} {rs : List R5} (p : RowsAt A H w ps rs) (g : Grow H H') : RowsAt A H' w ps rs := paired_imp p fun _ _ h => h.grow g
structure Bag (A : Ad) (H0 H : Hp) (w : Thr) (L : Addr) (ps : List (P10 × List W9)) (rs : List R5) : Prop where
  g : Grow H0 H
  n : H0 L = none
  hL : H L = some (.lst (rs.map fun r => V.ref r.t))
  S0 : Sts H0 w
  S : Sts H w
  R : Paired (fun p r => RowAt A H w p.1 p.2 r ∧ r.told ≠ L ∧ r.due ≠ L) ps rs
theorem Bag.grow {A : Ad} {H0 H H' : Hp} {w : Thr} {L : Addr} {ps : List (P10 × List W9)} {rs : List R5} (b : Bag A H0 H w L ps rs) (g : Grow H H') : Bag A H0 H' w L ps rs :=
  ⟨b.g.trans g, b.n, g _ _ b.hL, b.S0, b.S.grow g, paired_imp b.R fun _ _ h => ⟨h.1.grow g, h.2⟩⟩
theorem Bag.push {A : Ad} {H0 H : Hp} {w : Thr} {L : Addr} {ps : List (P10 × List W9)} {rs : List R5} {i : P10} {vs : List W9} {r : R5} (b : Bag A H0 H w L ps rs) (h : RowAt A H w i vs r) (n1 : r.told ≠ L) (n2 : r.due ≠ L) :
    Bag A H0 (upd H L (.lst ((rs.map fun r => V.ref r.t) ++ [.ref r.t]))) w L (ps ++ [(i, vs)]) (rs ++ [r]) := by
  have kp : ∀ a o, a ≠ L → H a = some o → upd H L (.lst ((rs.map fun r => V.ref r.t) ++ [.ref r.t])) a = some o := fun a o ha e => by rw [upd_ne ha]; exact e
  have hL := b.hL
  have mv : ∀ {i : P10} {vs : List W9} {r' : R5}, RowAt A H w i vs r' → r'.told ≠ L → r'.due ≠ L → RowAt A (upd H L (.lst ((rs.map fun r => V.ref r.t) ++ [.ref r.t]))) w i vs r' := by
    intro i vs r' p m1 m2
    obtain ⟨l1, d1, e1⟩ := p.p1
    obtain ⟨l2, d2, e2⟩ := p.p2
    refine ⟨kp _ _ (fun z => ?_) p.ht, ⟨l1, d1, kp _ _ (fun z => ?_) e1⟩, ⟨l2, d2, kp _ _ (fun z => ?_) e2⟩, kp _ _ m1 p.h1, kp _ _ m2 p.h2, p.n1, p.n2⟩
    · have := p.ht; rw [z, hL] at this; cases this
    · rw [z, hL] at e1; cases e1
    · rw [z, hL] at e2; cases e2
  refine ⟨fun a o e => kp a o (fun z => by rw [z, b.n] at e; cases e) (b.g a o e), b.n, by rw [upd_same, List.map_append]; rfl, b.S0, ?_, ?_⟩
  · have nl : ∀ a o, H0 a = some o → a ≠ L := fun a o e z => by rw [z, b.n] at e; cases e
    exact ⟨kp _ _ (nl _ _ b.S0.ht) b.S.ht, kp _ _ (nl _ _ b.S0.hl) b.S.hl, kp _ _ (nl _ _ b.S0.hd) b.S.hd⟩
  · refine paired_snoc (paired_imp b.R fun p r' h => ⟨mv h.1 h.2.1 h.2.2, h.2⟩) ⟨mv h n1 n2, n1, n2⟩
theorem row_new {A : Ad} {H : Hp} {w : Thr} {i : P10} {vs : List W9} {one oth told due t : Addr} (P1 : Pap A H w i vs one) (P2 : Pap A H w i vs oth) (h1 : H told = none) (n1 : told ≠ sysModules)
    (h2 : upd H told (.lst (vs.map (W9.v w))) due = none) (n2 : due ≠ sysModules) (h3 : upd (upd H told (.lst (vs.map (W9.v w)))) due (.lst (vs.map (W9.v w))) t = none) :
    Grow H (upd (upd (upd H told (.lst (vs.map (W9.v w)))) due (.lst (vs.map (W9.v w)))) t (.tup [.ref one, .ref oth, .ref told, .ref due])) ∧
      RowAt A (upd (upd (upd H told (.lst (vs.map (W9.v w)))) due (.lst (vs.map (W9.v w)))) t (.tup [.ref one, .ref oth, .ref told, .ref due])) w i vs ⟨t, one, oth, told, due⟩ := by
  have g1 := Grow.new (o := .lst (vs.map (W9.v w))) h1
  have g2 := Grow.new (o := .lst (vs.map (W9.v w))) h2
  have g3 := Grow.new (o := .tup [.ref one, .ref oth, .ref told, .ref due]) h3
  have g := g1.trans (g2.trans g3)
  exact ⟨g, upd_same, P1.grow g, P2.grow g, g3 _ _ (g2 _ _ upd_same), g3 _ _ upd_same, n1, n2⟩
/-- the papers of some classes of three values -/
def spRowsP (is : List P10) (K : PySem.W.Frag) (A : Ad) : Sp := fun xs H Q _ => match xs with
  | [a, b, c] => ∃ w x y z, Sts H w ∧ a = W9.v w x ∧ b = W9.v w y ∧ c = W9.v w z ∧
      ∀ L rs H', Grow H H' → H L = none → H' L = some (.lst (rs.map fun r => V.ref r.t)) → RowsAt A H' w (is.map fun i => (i, i.val x y z)) rs → Q (.ref L) H'
  | _ => False
theorem ne_of_none {M : Hp} {a b : Addr} {o : HO} (h1 : M a = some o) (h2 : M b = none) : a ≠ b := fun z => by rw [z, h2] at h1; cases h1
theorem bag_cut {A : Ad} {H0 Hx : Hp} {w : Thr} {L : Addr} {ps : List (P10 × List W9)} {rs : List R5} {P : Hp → Prop} (b : Bag A H0 Hx w L ps rs) (k : ∀ H', Bag A H0 H' w L ps rs → P H') : P Hx := k _ b
theorem bag_end {A : Ad} {H0 H : Hp} {w : Thr} {L : Addr} {ps : List (P10 × List W9)} {rs : List R5} (b : Bag A H0 H w L ps rs) : RowsAt A H w ps rs := paired_imp b.R fun _ _ h => h.1

theorem mk_Enough {K : PySem.W.Frag} {A : Ad} {H : Hp} {w : Thr} {v0 v1 v2 : W9} {Q : VK} {G : V → List V} (F : KF K A) (k : ∀ x H', Grow H H' → Pap A H' w .Enough [v0, v1, v2] x → Q (.ref x) H') (hf : ∀ r, G r = [r, W9.v w v0, W9.v w v1, W9.v w v2] := by exact fun _ => rfl) :
    MKf A.c_Enough (sp_Enough_init K A) E0 G H Q := by
  intro x dx hx hdx ne
  rw [hf]
  have nb : ∀ b o, H b = some o → b ≠ x ∧ b ≠ dx := fun b o e => ⟨fun z => (by rw [z, hx] at e; cases e), fun z => (by rw [z, hdx] at e; cases e)⟩
  have up : ∀ b o, H b = some o → upd (upd H dx (.own x)) x (.ins A.c_Enough dx []) b = some o := fun b o e => by rw [upd_ne (nb b o e).1, upd_ne (nb b o e).2]; exact e
  exact ⟨dx, (F.ty .Enough).cl, F.na .Enough, upd_same, fun H' kp e => ⟨rfl, k x H' (fun b o e' => kp b o (nb b o e').1 (up b o e')) ⟨rfl, dx, e⟩⟩⟩

theorem mk_Fits {K : PySem.W.Frag} {A : Ad} {H : Hp} {w : Thr} {v0 v1 v2 v3 : W9} {Q : VK} {G : V → List V} (F : KF K A) (k : ∀ x H', Grow H H' → Pap A H' w .Fits [v0, v1, v2, v3] x → Q (.ref x) H') (hf : ∀ r, G r = [r, W9.v w v0, W9.v w v1, W9.v w v2, W9.v w v3] := by exact fun _ => rfl) :
    MKf A.c_Fits (sp_Fits_init K A) E0 G H Q := by
  intro x dx hx hdx ne
  rw [hf]
  have nb : ∀ b o, H b = some o → b ≠ x ∧ b ≠ dx := fun b o e => ⟨fun z => (by rw [z, hx] at e; cases e), fun z => (by rw [z, hdx] at e; cases e)⟩
  have up : ∀ b o, H b = some o → upd (upd H dx (.own x)) x (.ins A.c_Fits dx []) b = some o := fun b o e => by rw [upd_ne (nb b o e).1, upd_ne (nb b o e).2]; exact e
  exact ⟨dx, (F.ty .Fits).cl, F.na .Fits, upd_same, fun H' kp e => ⟨rfl, k x H' (fun b o e' => kp b o (nb b o e').1 (up b o e')) ⟨rfl, dx, e⟩⟩⟩

theorem mk_Cut {K : PySem.W.Frag} {A : Ad} {H : Hp} {w : Thr} {v0 v1 v2 v3 : W9} {Q : VK} {G : V → List V} (F : KF K A) (k : ∀ x H', Grow H H' → Pap A H' w .Cut [v0, v1, v2, v3] x → Q (.ref x) H') (hf : ∀ r, G r = [r, W9.v w v0, W9.v w v1, W9.v w v2, W9.v w v3] := by exact fun _ => rfl) :
    MKf A.c_Cut (sp_Cut_init K A) E0 G H Q := by
  intro x dx hx hdx ne
  rw [hf]
  have nb : ∀ b o, H b = some o → b ≠ x ∧ b ≠ dx := fun b o e => ⟨fun z => (by rw [z, hx] at e; cases e), fun z => (by rw [z, hdx] at e; cases e)⟩
  have up : ∀ b o, H b = some o → upd (upd H dx (.own x)) x (.ins A.c_Cut dx []) b = some o := fun b o e => by rw [upd_ne (nb b o e).1, upd_ne (nb b o e).2]; exact e
  exact ⟨dx, (F.ty .Cut).cl, F.na .Cut, upd_same, fun H' kp e => ⟨rfl, k x H' (fun b o e' => kp b o (nb b o e').1 (up b o e')) ⟨rfl, dx, e⟩⟩⟩

theorem mk_Never {K : PySem.W.Frag} {A : Ad} {H : Hp} {w : Thr} {v0 v1 v2 : W9} {Q : VK} {G : V → List V} (F : KF K A) (k : ∀ x H', Grow H H' → Pap A H' w .Never [v0, v1, v2] x → Q (.ref x) H') (hf : ∀ r, G r = [r, W9.v w v0, W9.v w v1, W9.v w v2] := by exact fun _ => rfl) :
    MKf A.c_Never (sp_Never_init K A) E0 G H Q := by
  intro x dx hx hdx ne
  rw [hf]
  have nb : ∀ b o, H b = some o → b ≠ x ∧ b ≠ dx := fun b o e => ⟨fun z => (by rw [z, hx] at e; cases e), fun z => (by rw [z, hdx] at e; cases e)⟩
  have up : ∀ b o, H b = some o → upd (upd H dx (.own x)) x (.ins A.c_Never dx []) b = some o := fun b o e => by rw [upd_ne (nb b o e).1, upd_ne (nb b o e).2]; exact e
  exact ⟨dx, (F.ty .Never).cl, F.na .Never, upd_same, fun H' kp e => ⟨rfl, k x H' (fun b o e' => kp b o (nb b o e').1 (up b o e')) ⟨rfl, dx, e⟩⟩⟩

theorem mk_Beyond {K : PySem.W.Frag} {A : Ad} {H : Hp} {w : Thr} {v0 v1 v2 v3 v4 : W9} {Q : VK} {G : V → List V} (F : KF K A) (k : ∀ x H', Grow H H' → Pap A H' w .Beyond [v0, v1, v2, v3, v4] x → Q (.ref x) H') (hf : ∀ r, G r = [r, W9.v w v0, W9.v w v1, W9.v w v2, W9.v w v3, W9.v w v4] := by exact fun _ => rfl) :
    MKf A.c_Beyond (sp_Beyond_init K A) E0 G H Q := by
  intro x dx hx hdx ne
  rw [hf]
  have nb : ∀ b o, H b = some o → b ≠ x ∧ b ≠ dx := fun b o e => ⟨fun z => (by rw [z, hx] at e; cases e), fun z => (by rw [z, hdx] at e; cases e)⟩
  have up : ∀ b o, H b = some o → upd (upd H dx (.own x)) x (.ins A.c_Beyond dx []) b = some o := fun b o e => by rw [upd_ne (nb b o e).1, upd_ne (nb b o e).2]; exact e
  exact ⟨dx, (F.ty .Beyond).cl, F.na .Beyond, upd_same, fun H' kp e => ⟨rfl, k x H' (fun b o e' => kp b o (nb b o e').1 (up b o e')) ⟨rfl, dx, e⟩⟩⟩

theorem mk_EndlessCut {K : PySem.W.Frag} {A : Ad} {H : Hp} {w : Thr} {v0 v1 v2 v3 : W9} {Q : VK} {G : V → List V} (F : KF K A) (k : ∀ x H', Grow H H' → Pap A H' w .EndlessCut [v0, v1, v2, v3] x → Q (.ref x) H') (hf : ∀ r, G r = [r, W9.v w v0, W9.v w v1, W9.v w v2, W9.v w v3] := by exact fun _ => rfl) :
    MKf A.c_EndlessCut (sp_EndlessCut_init K A) E0 G H Q := by
  intro x dx hx hdx ne
  rw [hf]
  have nb : ∀ b o, H b = some o → b ≠ x ∧ b ≠ dx := fun b o e => ⟨fun z => (by rw [z, hx] at e; cases e), fun z => (by rw [z, hdx] at e; cases e)⟩
  have up : ∀ b o, H b = some o → upd (upd H dx (.own x)) x (.ins A.c_EndlessCut dx []) b = some o := fun b o e => by rw [upd_ne (nb b o e).1, upd_ne (nb b o e).2]; exact e
  exact ⟨dx, (F.ty .EndlessCut).cl, F.na .EndlessCut, upd_same, fun H' kp e => ⟨rfl, k x H' (fun b o e' => kp b o (nb b o e').1 (up b o e')) ⟨rfl, dx, e⟩⟩⟩

theorem mk_Table {K : PySem.W.Frag} {A : Ad} {H : Hp} {w : Thr} {v0 : W9} {Q : VK} {G : V → List V} (F : KF K A) (k : ∀ x H', Grow H H' → Pap A H' w .Table [v0] x → Q (.ref x) H') (hf : ∀ r, G r = [r, W9.v w v0] := by exact fun _ => rfl) :
    MKf A.c_Table (sp_Table_init K A) E0 G H Q := by
  intro x dx hx hdx ne
  rw [hf]
  have nb : ∀ b o, H b = some o → b ≠ x ∧ b ≠ dx := fun b o e => ⟨fun z => (by rw [z, hx] at e; cases e), fun z => (by rw [z, hdx] at e; cases e)⟩
  have up : ∀ b o, H b = some o → upd (upd H dx (.own x)) x (.ins A.c_Table dx []) b = some o := fun b o e => by rw [upd_ne (nb b o e).1, upd_ne (nb b o e).2]; exact e
  exact ⟨dx, (F.ty .Table).cl, F.na .Table, upd_same, fun H' kp e => ⟨rfl, k x H' (fun b o e' => kp b o (nb b o e').1 (up b o e')) ⟨rfl, dx, e⟩⟩⟩

theorem mk_Ring {K : PySem.W.Frag} {A : Ad} {H : Hp} {w : Thr} {v0 v1 : W9} {Q : VK} {G : V → List V} (F : KF K A) (k : ∀ x H', Grow H H' → Pap A H' w .Ring [v0, v1] x → Q (.ref x) H') (hf : ∀ r, G r = [r, W9.v w v0, W9.v w v1] := by exact fun _ => rfl) :
    MKf A.c_Ring (sp_Ring_init K A) E0 G H Q := by
  intro x dx hx hdx ne
  rw [hf]
  have nb : ∀ b o, H b = some o → b ≠ x ∧ b ≠ dx := fun b o e => ⟨fun z => (by rw [z, hx] at e; cases e), fun z => (by rw [z, hdx] at e; cases e)⟩
  have up : ∀ b o, H b = some o → upd (upd H dx (.own x)) x (.ins A.c_Ring dx []) b = some o := fun b o e => by rw [upd_ne (nb b o e).1, upd_ne (nb b o e).2]; exact e
  exact ⟨dx, (F.ty .Ring).cl, F.na .Ring, upd_same, fun H' kp e => ⟨rfl, k x H' (fun b o e' => kp b o (nb b o e').1 (up b o e')) ⟨rfl, dx, e⟩⟩⟩

theorem mk_Mean {K : PySem.W.Frag} {A : Ad} {H : Hp} {w : Thr} {v0 v1 v2 : W9} {Q : VK} {G : V → List V} (F : KF K A) (k : ∀ x H', Grow H H' → Pap A H' w .Mean [v0, v1, v2] x → Q (.ref x) H') (hf : ∀ r, G r = [r, W9.v w v0, W9.v w v1, W9.v w v2] := by exact fun _ => rfl) :
    MKf A.c_Mean (sp_Mean_init K A) E0 G H Q := by
  intro x dx hx hdx ne
  rw [hf]
  have nb : ∀ b o, H b = some o → b ≠ x ∧ b ≠ dx := fun b o e => ⟨fun z => (by rw [z, hx] at e; cases e), fun z => (by rw [z, hdx] at e; cases e)⟩
  have up : ∀ b o, H b = some o → upd (upd H dx (.own x)) x (.ins A.c_Mean dx []) b = some o := fun b o e => by rw [upd_ne (nb b o e).1, upd_ne (nb b o e).2]; exact e
  exact ⟨dx, (F.ty .Mean).cl, F.na .Mean, upd_same, fun H' kp e => ⟨rfl, k x H' (fun b o e' => kp b o (nb b o e').1 (up b o e')) ⟨rfl, dx, e⟩⟩⟩

theorem mk_Lengths {K : PySem.W.Frag} {A : Ad} {H : Hp} {w : Thr} {v0 v1 v2 : W9} {Q : VK} {G : V → List V} (F : KF K A) (k : ∀ x H', Grow H H' → Pap A H' w .Lengths [v0, v1, v2] x → Q (.ref x) H') (hf : ∀ r, G r = [r, W9.v w v0, W9.v w v1, W9.v w v2] := by exact fun _ => rfl) :
    MKf A.c_Lengths (sp_Lengths_init K A) E0 G H Q := by
  intro x dx hx hdx ne
  rw [hf]
  have nb : ∀ b o, H b = some o → b ≠ x ∧ b ≠ dx := fun b o e => ⟨fun z => (by rw [z, hx] at e; cases e), fun z => (by rw [z, hdx] at e; cases e)⟩
  have up : ∀ b o, H b = some o → upd (upd H dx (.own x)) x (.ins A.c_Lengths dx []) b = some o := fun b o e => by rw [upd_ne (nb b o e).1, upd_ne (nb b o e).2]; exact e
  exact ⟨dx, (F.ty .Lengths).cl, F.na .Lengths, upd_same, fun H' kp e => ⟨rfl, k x H' (fun b o e' => kp b o (nb b o e').1 (up b o e')) ⟨rfl, dx, e⟩⟩⟩

def sp_law_yes (K : PySem.W.Frag) (A : Ad) : Sp := spRowsP [.Enough, .Fits, .Cut] K A
def t_law_yes_6 (K : PySem.W.Frag) (A : Ad) : TS := (tRet (tVar 5))
def t_law_yes_5 (K : PySem.W.Frag) (A : Ad) : TS := (tSeq (tDrop (tBM K "list" rAppend (tVar 5) (tCons (tTup (tCons (tVar 3) (tCons (tVar 4) (tCons (tLstN (tCons (tFld K (tVar 3) "number") (tCons (tFld K (tVar 3) "heights") (tCons (tFld K (tVar 3) "text") (tCons (tFld K (tVar 3) "at") tNil))))) (tCons (tLstN (tCons (tVar 0) (tCons (tVar 1) (tCons (tVar 2) (tCons (tVar 0) tNil))))) tNil))))) tNil))) (t_law_yes_6 K A))
def t_law_yes_4 (K : PySem.W.Frag) (A : Ad) : TS := (tSeq (tPar 3 4 (tCons (tMake A.c_Cut (sp_Cut_init K A) [] E0 (tCons (tVar 0) (tCons (tVar 1) (tCons (tVar 2) (tCons (tVar 0) tNil))))) (tCons (tMakeK A.c_Cut 0 4 (sp_Cut_init K A) kw_Cut_init_at_text_heights_number E0 tNil (tCons (tVar 0) (tCons (tVar 2) (tCons (tVar 1) (tCons (tVar 0) tNil))))) tNil))) (t_law_yes_5 K A))
def t_law_yes_3 (K : PySem.W.Frag) (A : Ad) : TS := (tSeq (tDrop (tBM K "list" rAppend (tVar 5) (tCons (tTup (tCons (tVar 3) (tCons (tVar 4) (tCons (tLstN (tCons (tFld K (tVar 3) "number") (tCons (tFld K (tVar 3) "rises") (tCons (tFld K (tVar 3) "losses") (tCons (tFld K (tVar 3) "text") tNil))))) (tCons (tLstN (tCons (tVar 0) (tCons (tVar 1) (tCons (tVar 2) (tCons (tVar 0) tNil))))) tNil))))) tNil))) (t_law_yes_4 K A))
def t_law_yes_2 (K : PySem.W.Frag) (A : Ad) : TS := (tSeq (tPar 3 4 (tCons (tMake A.c_Fits (sp_Fits_init K A) [] E0 (tCons (tVar 0) (tCons (tVar 1) (tCons (tVar 2) (tCons (tVar 0) tNil))))) (tCons (tMakeK A.c_Fits 0 4 (sp_Fits_init K A) kw_Fits_init_text_losses_rises_number E0 tNil (tCons (tVar 0) (tCons (tVar 2) (tCons (tVar 1) (tCons (tVar 0) tNil))))) tNil))) (t_law_yes_3 K A))
def t_law_yes_1 (K : PySem.W.Frag) (A : Ad) : TS := (tSeq (tAsg (tLstN (tCons (tTup (tCons (tVar 3) (tCons (tVar 4) (tCons (tLstN (tCons (tFld K (tVar 3) "number") (tCons (tFld K (tVar 3) "heights") (tCons (tFld K (tVar 3) "text") tNil)))) (tCons (tLstN (tCons (tVar 0) (tCons (tVar 1) (tCons (tVar 2) tNil)))) tNil))))) tNil)) (gName 5)) (t_law_yes_2 K A))
def t_law_yes_0 (K : PySem.W.Frag) (A : Ad) : TS := (tSeq (tPar 3 4 (tCons (tMake A.c_Enough (sp_Enough_init K A) [] E0 (tCons (tVar 0) (tCons (tVar 1) (tCons (tVar 2) tNil)))) (tCons (tMakeK A.c_Enough 0 3 (sp_Enough_init K A) kw_Enough_init_text_heights_number E0 tNil (tCons (tVar 2) (tCons (tVar 1) (tCons (tVar 0) tNil)))) tNil))) (t_law_yes_1 K A))

theorem pure_law_yes {K : PySem.W.Frag} {A : Ad} {xs : List V} {H : Hp} {Q : VK} {E : XK} (F : KF K A) (h : sp_law_yes K A xs H Q E) : (t_law_yes_0 K A) { nx := fun _ H' => Q .non H', rt := Q } (start ["_law_x", "_law_y", "_law_z", "_law_one", "_law_other", "_law_found"] xs) H := by
  unfold sp_law_yes spRowsP at h
  split at h
  · obtain ⟨w, x, y, z, S, rfl, rfl, rfl, k⟩ := h
    show (t_law_yes_0 K A) _ [some (W9.v w x), some (W9.v w y), some (W9.v w z), none, none, none] H
    have g0 : Grow H H := .refl
    have S0 := S
    -- Enough
    refine st_seq (st_par ?_)
    (refine evA ?P136 (fun Q h => ?h136) ?_; (case h136 => (simp only [tTest, tOp, tUn, tVar, tC, tCB, tCons, tNil, tAnd, tOr, tNot, tB, tTup, tLst, tIf, tAndV, tOrV, tNotV, tSl, tPart, tNoPart, tCall, iIx_ref, oGt_int, oMod_int, oFdiv_int, oAdd_int, oAdd_str, oSub_int, oMul_int, oLt_int, oGe_int, oLe_int, oPow_int, uNeg_int, oEq_int, oEq_str, oEq_bl, oNe_int, oNe_str, oNe_bl, cInt_int, cInt_bl, cAbs_int, cLen_ref, cList_ref, stL_ref, gName, gSub, gTup, gCons, gNil, rdSeq, List.getElem?_cons_zero, List.getElem?_cons_succ, List.set_cons_zero, List.set_cons_succ, List.cons_append, List.nil_append, Option.some.injEq, exists_eq_left', V.bl.injEq, V.int.injEq, V.ref.injEq, atI_0, atI_1, atI_2, setI_1, setI_2, Bool.not_true, Bool.not_false, Bool.false_eq_true, if_false, if_true, tMake_eq, tMakeK_eq]; exact h)); (try dsimp only [gName, tNext, List.set_cons_zero, List.set_cons_succ]))
    refine mk_Enough F (fun one Ha0 ga0 pa0 => ?_)
    refine ⟨rfl, rfl, ?_⟩
    refine mk_Enough F (fun oth Hb0 gb0 pb0 => ?_)
    refine ⟨_, _, rfl, ?_⟩
    replace pa0 := pa0.grow gb0
    have g0 := ga0.trans gb0
    replace S := S.grow g0
    show t_law_yes_1 K A _ _ _
    have cl0 : Cls K A.c_Enough := (F.ty .Enough).cl
    have na0 : ∀ n ∈ P10.Enough.names, NoAttr K A.c_Enough n := F.na .Enough
    obtain ⟨hl0, dx0, e0⟩ := id pa0
    replace e0 : Hb0 one = some (.ins A.c_Enough dx0 [("number", W9.v w x), ("heights", W9.v w y), ("text", W9.v w z)]) := e0
    refine st_seq (st_asg ?_)
    (refine evE ?P149 (fun Q h => ?h149) ?_; (case h149 => (simp only [tTest, tOp, tUn, tVar, tC, tCB, tCons, tNil, tAnd, tOr, tNot, tB, tTup, tLst, tIf, tAndV, tOrV, tNotV, tSl, tPart, tNoPart, tCall, iIx_ref, oGt_int, oMod_int, oFdiv_int, oAdd_int, oAdd_str, oSub_int, oMul_int, oLt_int, oGe_int, oLe_int, oPow_int, uNeg_int, oEq_int, oEq_str, oEq_bl, oNe_int, oNe_str, oNe_bl, cInt_int, cInt_bl, cAbs_int, cLen_ref, cList_ref, stL_ref, gName, gSub, gTup, gCons, gNil, rdSeq, List.getElem?_cons_zero, List.getElem?_cons_succ, List.set_cons_zero, List.set_cons_succ, List.cons_append, List.nil_append, Option.some.injEq, exists_eq_left', V.bl.injEq, V.int.injEq, V.ref.injEq, atI_0, atI_1, atI_2, setI_1, setI_2, Bool.not_true, Bool.not_false, Bool.false_eq_true, if_false, if_true, tLstN, tFld_eq]; exact h)))
    refine fld_of cl0 (na0 _ (by decide)) e0 rfl ?_
    refine fld_of cl0 (na0 _ (by decide)) e0 rfl ?_
    refine fld_of cl0 (na0 _ (by decide)) e0 rfl ?_
    refine ⟨by show 3 ≤ sizeLine; decide, fun told0 ht0 nt0 => ?_⟩
    refine ⟨by show 3 ≤ sizeLine; decide, fun due0 hd0 nd0 => ?_⟩
    refine ⟨by show 4 ≤ sizeLine; decide, fun t0 htt0 => ?_⟩
    have rw0 := row_new (vs := [x, y, z]) pa0 pb0 ht0 nt0 hd0 nd0 htt0
    obtain ⟨gr0, R0⟩ := rw0
    refine ⟨by show 1 ≤ sizeLine; decide, fun L hLn nL => ?_⟩
    replace S := S.grow gr0
    have nd1 : told0 ≠ L := ne_of_none R0.h1 hLn
    have nd2 : due0 ≠ L := ne_of_none R0.h2 hLn
    replace hLn : (upd (upd (upd Hb0 told0 (.lst (List.map (W9.v w) [x, y, z]))) due0 (.lst (List.map (W9.v w) [x, y, z]))) t0 (.tup [.ref one, .ref oth, .ref told0, .ref due0])) L = none := hLn
    have B : Bag A H (upd (upd (upd (upd Hb0 told0 (.lst (List.map (W9.v w) [x, y, z]))) due0 (.lst (List.map (W9.v w) [x, y, z]))) t0 (.tup [.ref one, .ref oth, .ref told0, .ref due0])) L (.lst [.ref t0])) w L [(.Enough, [x, y, z])] [⟨t0, one, oth, told0, due0⟩] :=
      have gl := Grow.new (o := .lst [.ref t0]) hLn
      have g1 := g0.trans (gr0.trans gl)
      ⟨g1, (Option.eq_none_iff_forall_not_mem.mpr fun o ho => by have := g0.trans gr0 _ _ ho; rw [hLn] at this; cases this), upd_same, S0, S.grow gl, .cons ⟨R0.grow gl, nd1, nd2⟩ .nil⟩
    replace k := fun rs H' g => k L rs H' g B.n
    show t_law_yes_2 K A _ _ _
    refine bag_cut (P := fun X => t_law_yes_2 K A _ _ X) B (fun H1 B => ?_)
    clear S0 S R0 nd1 nd2 hLn gr0 e0 htt0 hd0 ht0 pa0 pb0 g0
    -- Fits
    refine st_seq (st_par ?_)
    (refine evA ?P137 (fun Q h => ?h137) ?_; (case h137 => (simp only [tTest, tOp, tUn, tVar, tC, tCB, tCons, tNil, tAnd, tOr, tNot, tB, tTup, tLst, tIf, tAndV, tOrV, tNotV, tSl, tPart, tNoPart, tCall, iIx_ref, oGt_int, oMod_int, oFdiv_int, oAdd_int, oAdd_str, oSub_int, oMul_int, oLt_int, oGe_int, oLe_int, oPow_int, uNeg_int, oEq_int, oEq_str, oEq_bl, oNe_int, oNe_str, oNe_bl, cInt_int, cInt_bl, cAbs_int, cLen_ref, cList_ref, stL_ref, gName, gSub, gTup, gCons, gNil, rdSeq, List.getElem?_cons_zero, List.getElem?_cons_succ, List.set_cons_zero, List.set_cons_succ, List.cons_append, List.nil_append, Option.some.injEq, exists_eq_left', V.bl.injEq, V.int.injEq, V.ref.injEq, atI_0, atI_1, atI_2, setI_1, setI_2, Bool.not_true, Bool.not_false, Bool.false_eq_true, if_false, if_true, tMake_eq, tMakeK_eq]; exact h)); (try dsimp only [gName, tNext, List.set_cons_zero, List.set_cons_succ]))
    refine mk_Fits F (fun one Ha1 ga1 pa1 => ?_)
    refine ⟨rfl, rfl, ?_⟩
    refine mk_Fits F (fun oth Hb1 gb1 pb1 => ?_)
    refine ⟨_, _, rfl, ?_⟩
    replace pa1 := pa1.grow gb1
    replace B := B.grow (ga1.trans gb1)
    show t_law_yes_3 K A _ _ _
    have cl1 : Cls K A.c_Fits := (F.ty .Fits).cl
    have na1 : ∀ n ∈ P10.Fits.names, NoAttr K A.c_Fits n := F.na .Fits
    obtain ⟨hl1, dx1, e1⟩ := id pa1
    replace e1 : Hb1 one = some (.ins A.c_Fits dx1 [("number", W9.v w x), ("rises", W9.v w y), ("losses", W9.v w z), ("text", W9.v w x)]) := e1
    refine st_seq (st_drop ?_)
    (refine evE ?P150 (fun Q h => ?h150) ?_; (case h150 => (simp only [tTest, tOp, tUn, tVar, tC, tCB, tCons, tNil, tAnd, tOr, tNot, tB, tTup, tLst, tIf, tAndV, tOrV, tNotV, tSl, tPart, tNoPart, tCall, iIx_ref, oGt_int, oMod_int, oFdiv_int, oAdd_int, oAdd_str, oSub_int, oMul_int, oLt_int, oGe_int, oLe_int, oPow_int, uNeg_int, oEq_int, oEq_str, oEq_bl, oNe_int, oNe_str, oNe_bl, cInt_int, cInt_bl, cAbs_int, cLen_ref, cList_ref, stL_ref, gName, gSub, gTup, gCons, gNil, rdSeq, List.getElem?_cons_zero, List.getElem?_cons_succ, List.set_cons_zero, List.set_cons_succ, List.cons_append, List.nil_append, Option.some.injEq, exists_eq_left', V.bl.injEq, V.int.injEq, V.ref.injEq, atI_0, atI_1, atI_2, setI_1, setI_2, Bool.not_true, Bool.not_false, Bool.false_eq_true, if_false, if_true, tBM, tLstN, tFld_eq]; exact h)))
    refine ⟨.inl ⟨rfl, _, SqL.of B.hL⟩, ?_⟩
    refine fld_of cl1 (na1 _ (by decide)) e1 rfl ?_
    refine fld_of cl1 (na1 _ (by decide)) e1 rfl ?_
    refine fld_of cl1 (na1 _ (by decide)) e1 rfl ?_
    refine fld_of cl1 (na1 _ (by decide)) e1 rfl ?_
    refine ⟨by show 4 ≤ sizeLine; decide, fun told1 ht1 nt1 => ?_⟩
    refine ⟨by show 4 ≤ sizeLine; decide, fun due1 hd1 nd1 => ?_⟩
    refine ⟨by show 4 ≤ sizeLine; decide, fun t1 htt1 => ?_⟩
    have rw1 := row_new (vs := [x, y, z, x]) pa1 pb1 ht1 nt1 hd1 nd1 htt1
    obtain ⟨gr1, R1⟩ := rw1
    have m1 : told1 ≠ L := Ne.symm (ne_of_none B.hL ht1)
    have m2 : due1 ≠ L := Ne.symm (ne_of_none ((upd_ne (Ne.symm m1)).trans B.hL) hd1)
    replace B := B.grow gr1
    refine ⟨L, _, _, rfl, rfl, B.hL, by show 1 < sizeLine; decide, ?_⟩
    replace B := B.push R1 m1 m2
    show t_law_yes_4 K A _ _ _
    refine bag_cut (P := fun X => t_law_yes_4 K A _ _ X) B (fun H2 B => ?_)
    clear R1 m1 m2 gr1 e1 htt1 hd1 ht1 pa1 pb1
    -- Cut
    refine st_seq (st_par ?_)
    (refine evA ?P138 (fun Q h => ?h138) ?_; (case h138 => (simp only [tTest, tOp, tUn, tVar, tC, tCB, tCons, tNil, tAnd, tOr, tNot, tB, tTup, tLst, tIf, tAndV, tOrV, tNotV, tSl, tPart, tNoPart, tCall, iIx_ref, oGt_int, oMod_int, oFdiv_int, oAdd_int, oAdd_str, oSub_int, oMul_int, oLt_int, oGe_int, oLe_int, oPow_int, uNeg_int, oEq_int, oEq_str, oEq_bl, oNe_int, oNe_str, oNe_bl, cInt_int, cInt_bl, cAbs_int, cLen_ref, cList_ref, stL_ref, gName, gSub, gTup, gCons, gNil, rdSeq, List.getElem?_cons_zero, List.getElem?_cons_succ, List.set_cons_zero, List.set_cons_succ, List.cons_append, List.nil_append, Option.some.injEq, exists_eq_left', V.bl.injEq, V.int.injEq, V.ref.injEq, atI_0, atI_1, atI_2, setI_1, setI_2, Bool.not_true, Bool.not_false, Bool.false_eq_true, if_false, if_true, tMake_eq, tMakeK_eq]; exact h)); (try dsimp only [gName, tNext, List.set_cons_zero, List.set_cons_succ]))
    refine mk_Cut F (fun one Ha2 ga2 pa2 => ?_)
    refine ⟨rfl, rfl, ?_⟩
    refine mk_Cut F (fun oth Hb2 gb2 pb2 => ?_)
    refine ⟨_, _, rfl, ?_⟩
    replace pa2 := pa2.grow gb2
    replace B := B.grow (ga2.trans gb2)
    show t_law_yes_5 K A _ _ _
    have cl2 : Cls K A.c_Cut := (F.ty .Cut).cl
    have na2 : ∀ n ∈ P10.Cut.names, NoAttr K A.c_Cut n := F.na .Cut
    obtain ⟨hl2, dx2, e2⟩ := id pa2
    replace e2 : Hb2 one = some (.ins A.c_Cut dx2 [("number", W9.v w x), ("heights", W9.v w y), ("text", W9.v w z), ("at", W9.v w x)]) := e2
    refine st_seq (st_drop ?_)
    (refine evE ?P151 (fun Q h => ?h151) ?_; (case h151 => (simp only [tTest, tOp, tUn, tVar, tC, tCB, tCons, tNil, tAnd, tOr, tNot, tB, tTup, tLst, tIf, tAndV, tOrV, tNotV, tSl, tPart, tNoPart, tCall, iIx_ref, oGt_int, oMod_int, oFdiv_int, oAdd_int, oAdd_str, oSub_int, oMul_int, oLt_int, oGe_int, oLe_int, oPow_int, uNeg_int, oEq_int, oEq_str, oEq_bl, oNe_int, oNe_str, oNe_bl, cInt_int, cInt_bl, cAbs_int, cLen_ref, cList_ref, stL_ref, gName, gSub, gTup, gCons, gNil, rdSeq, List.getElem?_cons_zero, List.getElem?_cons_succ, List.set_cons_zero, List.set_cons_succ, List.cons_append, List.nil_append, Option.some.injEq, exists_eq_left', V.bl.injEq, V.int.injEq, V.ref.injEq, atI_0, atI_1, atI_2, setI_1, setI_2, Bool.not_true, Bool.not_false, Bool.false_eq_true, if_false, if_true, tBM, tLstN, tFld_eq]; exact h)))
    refine ⟨.inl ⟨rfl, _, SqL.of B.hL⟩, ?_⟩
    refine fld_of cl2 (na2 _ (by decide)) e2 rfl ?_
    refine fld_of cl2 (na2 _ (by decide)) e2 rfl ?_
    refine fld_of cl2 (na2 _ (by decide)) e2 rfl ?_
    refine fld_of cl2 (na2 _ (by decide)) e2 rfl ?_
    refine ⟨by show 4 ≤ sizeLine; decide, fun told2 ht2 nt2 => ?_⟩
    refine ⟨by show 4 ≤ sizeLine; decide, fun due2 hd2 nd2 => ?_⟩
    refine ⟨by show 4 ≤ sizeLine; decide, fun t2 htt2 => ?_⟩
    have rw2 := row_new (vs := [x, y, z, x]) pa2 pb2 ht2 nt2 hd2 nd2 htt2
    obtain ⟨gr2, R2⟩ := rw2
    have m1 : told2 ≠ L := Ne.symm (ne_of_none B.hL ht2)
    have m2 : due2 ≠ L := Ne.symm (ne_of_none ((upd_ne (Ne.symm m1)).trans B.hL) hd2)
    replace B := B.grow gr2
    refine ⟨L, _, _, rfl, rfl, B.hL, by show 2 < sizeLine; decide, ?_⟩
    replace B := B.push R2 m1 m2
    show t_law_yes_6 K A _ _ _
    refine bag_cut (P := fun X => t_law_yes_6 K A _ _ X) B (fun H3 B => ?_)
    clear R2 m1 m2 gr2 e2 htt2 hd2 ht2 pa2 pb2
    refine st_ret ?_
    (refine evE ?P139 (fun Q h => ?h139) ?_; (case h139 => (simp only [tTest, tOp, tUn, tVar, tC, tCB, tCons, tNil, tAnd, tOr, tNot, tB, tTup, tLst, tIf, tAndV, tOrV, tNotV, tSl, tPart, tNoPart, tCall, iIx_ref, oGt_int, oMod_int, oFdiv_int, oAdd_int, oAdd_str, oSub_int, oMul_int, oLt_int, oGe_int, oLe_int, oPow_int, uNeg_int, oEq_int, oEq_str, oEq_bl, oNe_int, oNe_str, oNe_bl, cInt_int, cInt_bl, cAbs_int, cLen_ref, cList_ref, stL_ref, gName, gSub, gTup, gCons, gNil, rdSeq, List.getElem?_cons_zero, List.getElem?_cons_succ, List.set_cons_zero, List.set_cons_succ, List.cons_append, List.nil_append, Option.some.injEq, exists_eq_left', V.bl.injEq, V.int.injEq, V.ref.injEq, atI_0, atI_1, atI_2, setI_1, setI_2, Bool.not_true, Bool.not_false, Bool.false_eq_true, if_false, if_true]; exact h)); (try dsimp only [gName, tNext, List.set_cons_zero, List.set_cons_succ]))
    exact k _ _ B.g B.hL (bag_end B)
  · exact h.elim

def sp_law_no (K : PySem.W.Frag) (A : Ad) : Sp := spRowsP [.Never, .Beyond, .EndlessCut] K A
def t_law_no_6 (K : PySem.W.Frag) (A : Ad) : TS := (tRet (tVar 5))
def t_law_no_5 (K : PySem.W.Frag) (A : Ad) : TS := (tSeq (tDrop (tBM K "list" rAppend (tVar 5) (tCons (tTup (tCons (tVar 3) (tCons (tVar 4) (tCons (tLstN (tCons (tFld K (tVar 3) "text") (tCons (tFld K (tVar 3) "at") (tCons (tFld K (tVar 3) "ring") (tCons (tFld K (tVar 3) "behind") tNil))))) (tCons (tLstN (tCons (tVar 0) (tCons (tVar 1) (tCons (tVar 2) (tCons (tVar 0) tNil))))) tNil))))) tNil))) (t_law_no_6 K A))
def t_law_no_4 (K : PySem.W.Frag) (A : Ad) : TS := (tSeq (tPar 3 4 (tCons (tMake A.c_EndlessCut (sp_EndlessCut_init K A) [] E0 (tCons (tVar 0) (tCons (tVar 1) (tCons (tVar 2) (tCons (tVar 0) tNil))))) (tCons (tMakeK A.c_EndlessCut 0 4 (sp_EndlessCut_init K A) kw_EndlessCut_init_behind_ring_at_text E0 tNil (tCons (tVar 0) (tCons (tVar 2) (tCons (tVar 1) (tCons (tVar 0) tNil))))) tNil))) (t_law_no_5 K A))
def t_law_no_3 (K : PySem.W.Frag) (A : Ad) : TS := (tSeq (tDrop (tBM K "list" rAppend (tVar 5) (tCons (tTup (tCons (tVar 3) (tCons (tVar 4) (tCons (tLstN (tCons (tFld K (tVar 3) "ahead") (tCons (tFld K (tVar 3) "rising") (tCons (tFld K (tVar 3) "between") (tCons (tFld K (tVar 3) "falling") (tCons (tFld K (tVar 3) "behind") tNil)))))) (tCons (tLstN (tCons (tVar 0) (tCons (tVar 1) (tCons (tVar 2) (tCons (tVar 0) (tCons (tVar 1) tNil)))))) tNil))))) tNil))) (t_law_no_4 K A))
def t_law_no_2 (K : PySem.W.Frag) (A : Ad) : TS := (tSeq (tPar 3 4 (tCons (tMake A.c_Beyond (sp_Beyond_init K A) [] E0 (tCons (tVar 0) (tCons (tVar 1) (tCons (tVar 2) (tCons (tVar 0) (tCons (tVar 1) tNil)))))) (tCons (tMakeK A.c_Beyond 0 5 (sp_Beyond_init K A) kw_Beyond_init_behind_falling_between_rising_ahead E0 tNil (tCons (tVar 1) (tCons (tVar 0) (tCons (tVar 2) (tCons (tVar 1) (tCons (tVar 0) tNil)))))) tNil))) (t_law_no_3 K A))
def t_law_no_1 (K : PySem.W.Frag) (A : Ad) : TS := (tSeq (tAsg (tLstN (tCons (tTup (tCons (tVar 3) (tCons (tVar 4) (tCons (tLstN (tCons (tFld K (tVar 3) "ahead") (tCons (tFld K (tVar 3) "ring") (tCons (tFld K (tVar 3) "behind") tNil)))) (tCons (tLstN (tCons (tVar 0) (tCons (tVar 1) (tCons (tVar 2) tNil)))) tNil))))) tNil)) (gName 5)) (t_law_no_2 K A))
def t_law_no_0 (K : PySem.W.Frag) (A : Ad) : TS := (tSeq (tPar 3 4 (tCons (tMake A.c_Never (sp_Never_init K A) [] E0 (tCons (tVar 0) (tCons (tVar 1) (tCons (tVar 2) tNil)))) (tCons (tMakeK A.c_Never 0 3 (sp_Never_init K A) kw_Never_init_behind_ring_ahead E0 tNil (tCons (tVar 2) (tCons (tVar 1) (tCons (tVar 0) tNil)))) tNil))) (t_law_no_1 K A))

theorem pure_law_no {K : PySem.W.Frag} {A : Ad} {xs : List V} {H : Hp} {Q : VK} {E : XK} (F : KF K A) (h : sp_law_no K A xs H Q E) : (t_law_no_0 K A) { nx := fun _ H' => Q .non H', rt := Q } (start ["_law_x", "_law_y", "_law_z", "_law_one", "_law_other", "_law_found"] xs) H := by
  unfold sp_law_no spRowsP at h
  split at h
  · obtain ⟨w, x, y, z, S, rfl, rfl, rfl, k⟩ := h
    show (t_law_no_0 K A) _ [some (W9.v w x), some (W9.v w y), some (W9.v w z), none, none, none] H
    have g0 : Grow H H := .refl
    have S0 := S
    -- Never
    refine st_seq (st_par ?_)
    (refine evA ?P140 (fun Q h => ?h140) ?_; (case h140 => (simp only [tTest, tOp, tUn, tVar, tC, tCB, tCons, tNil, tAnd, tOr, tNot, tB, tTup, tLst, tIf, tAndV, tOrV, tNotV, tSl, tPart, tNoPart, tCall, iIx_ref, oGt_int, oMod_int, oFdiv_int, oAdd_int, oAdd_str, oSub_int, oMul_int, oLt_int, oGe_int, oLe_int, oPow_int, uNeg_int, oEq_int, oEq_str, oEq_bl, oNe_int, oNe_str, oNe_bl, cInt_int, cInt_bl, cAbs_int, cLen_ref, cList_ref, stL_ref, gName, gSub, gTup, gCons, gNil, rdSeq, List.getElem?_cons_zero, List.getElem?_cons_succ, List.set_cons_zero, List.set_cons_succ, List.cons_append, List.nil_append, Option.some.injEq, exists_eq_left', V.bl.injEq, V.int.injEq, V.ref.injEq, atI_0, atI_1, atI_2, setI_1, setI_2, Bool.not_true, Bool.not_false, Bool.false_eq_true, if_false, if_true, tMake_eq, tMakeK_eq]; exact h)); (try dsimp only [gName, tNext, List.set_cons_zero, List.set_cons_succ]))
    refine mk_Never F (fun one Ha0 ga0 pa0 => ?_)
    refine ⟨rfl, rfl, ?_⟩
    refine mk_Never F (fun oth Hb0 gb0 pb0 => ?_)
    refine ⟨_, _, rfl, ?_⟩
    replace pa0 := pa0.grow gb0
    have g0 := ga0.trans gb0
    replace S := S.grow g0
    show t_law_no_1 K A _ _ _
    have cl0 : Cls K A.c_Never := (F.ty .Never).cl
    have na0 : ∀ n ∈ P10.Never.names, NoAttr K A.c_Never n := F.na .Never
    obtain ⟨hl0, dx0, e0⟩ := id pa0
    replace e0 : Hb0 one = some (.ins A.c_Never dx0 [("ahead", W9.v w x), ("ring", W9.v w y), ("behind", W9.v w z)]) := e0
    refine st_seq (st_asg ?_)
    (refine evE ?P152 (fun Q h => ?h152) ?_; (case h152 => (simp only [tTest, tOp, tUn, tVar, tC, tCB, tCons, tNil, tAnd, tOr, tNot, tB, tTup, tLst, tIf, tAndV, tOrV, tNotV, tSl, tPart, tNoPart, tCall, iIx_ref, oGt_int, oMod_int, oFdiv_int, oAdd_int, oAdd_str, oSub_int, oMul_int, oLt_int, oGe_int, oLe_int, oPow_int, uNeg_int, oEq_int, oEq_str, oEq_bl, oNe_int, oNe_str, oNe_bl, cInt_int, cInt_bl, cAbs_int, cLen_ref, cList_ref, stL_ref, gName, gSub, gTup, gCons, gNil, rdSeq, List.getElem?_cons_zero, List.getElem?_cons_succ, List.set_cons_zero, List.set_cons_succ, List.cons_append, List.nil_append, Option.some.injEq, exists_eq_left', V.bl.injEq, V.int.injEq, V.ref.injEq, atI_0, atI_1, atI_2, setI_1, setI_2, Bool.not_true, Bool.not_false, Bool.false_eq_true, if_false, if_true, tLstN, tFld_eq]; exact h)))
    refine fld_of cl0 (na0 _ (by decide)) e0 rfl ?_
    refine fld_of cl0 (na0 _ (by decide)) e0 rfl ?_
    refine fld_of cl0 (na0 _ (by decide)) e0 rfl ?_
    refine ⟨by show 3 ≤ sizeLine; decide, fun told0 ht0 nt0 => ?_⟩
    refine ⟨by show 3 ≤ sizeLine; decide, fun due0 hd0 nd0 => ?_⟩
    refine ⟨by show 4 ≤ sizeLine; decide, fun t0 htt0 => ?_⟩
    have rw0 := row_new (vs := [x, y, z]) pa0 pb0 ht0 nt0 hd0 nd0 htt0
    obtain ⟨gr0, R0⟩ := rw0
    refine ⟨by show 1 ≤ sizeLine; decide, fun L hLn nL => ?_⟩
    replace S := S.grow gr0
    have nd1 : told0 ≠ L := ne_of_none R0.h1 hLn
    have nd2 : due0 ≠ L := ne_of_none R0.h2 hLn
    replace hLn : (upd (upd (upd Hb0 told0 (.lst (List.map (W9.v w) [x, y, z]))) due0 (.lst (List.map (W9.v w) [x, y, z]))) t0 (.tup [.ref one, .ref oth, .ref told0, .ref due0])) L = none := hLn
    have B : Bag A H (upd (upd (upd (upd Hb0 told0 (.lst (List.map (W9.v w) [x, y, z]))) due0 (.lst (List.map (W9.v w) [x, y, z]))) t0 (.tup [.ref one, .ref oth, .ref told0, .ref due0])) L (.lst [.ref t0])) w L [(.Never, [x, y, z])] [⟨t0, one, oth, told0, due0⟩] :=
      have gl := Grow.new (o := .lst [.ref t0]) hLn
      have g1 := g0.trans (gr0.trans gl)
      ⟨g1, (Option.eq_none_iff_forall_not_mem.mpr fun o ho => by have := g0.trans gr0 _ _ ho; rw [hLn] at this; cases this), upd_same, S0, S.grow gl, .cons ⟨R0.grow gl, nd1, nd2⟩ .nil⟩
    replace k := fun rs H' g => k L rs H' g B.n
    show t_law_no_2 K A _ _ _
    refine bag_cut (P := fun X => t_law_no_2 K A _ _ X) B (fun H1 B => ?_)
    clear S0 S R0 nd1 nd2 hLn gr0 e0 htt0 hd0 ht0 pa0 pb0 g0
    -- Beyond
    refine st_seq (st_par ?_)
    (refine evA ?P141 (fun Q h => ?h141) ?_; (case h141 => (simp only [tTest, tOp, tUn, tVar, tC, tCB, tCons, tNil, tAnd, tOr, tNot, tB, tTup, tLst, tIf, tAndV, tOrV, tNotV, tSl, tPart, tNoPart, tCall, iIx_ref, oGt_int, oMod_int, oFdiv_int, oAdd_int, oAdd_str, oSub_int, oMul_int, oLt_int, oGe_int, oLe_int, oPow_int, uNeg_int, oEq_int, oEq_str, oEq_bl, oNe_int, oNe_str, oNe_bl, cInt_int, cInt_bl, cAbs_int, cLen_ref, cList_ref, stL_ref, gName, gSub, gTup, gCons, gNil, rdSeq, List.getElem?_cons_zero, List.getElem?_cons_succ, List.set_cons_zero, List.set_cons_succ, List.cons_append, List.nil_append, Option.some.injEq, exists_eq_left', V.bl.injEq, V.int.injEq, V.ref.injEq, atI_0, atI_1, atI_2, setI_1, setI_2, Bool.not_true, Bool.not_false, Bool.false_eq_true, if_false, if_true, tMake_eq, tMakeK_eq]; exact h)); (try dsimp only [gName, tNext, List.set_cons_zero, List.set_cons_succ]))
    refine mk_Beyond F (fun one Ha1 ga1 pa1 => ?_)
    refine ⟨rfl, rfl, ?_⟩
    refine mk_Beyond F (fun oth Hb1 gb1 pb1 => ?_)
    refine ⟨_, _, rfl, ?_⟩
    replace pa1 := pa1.grow gb1
    replace B := B.grow (ga1.trans gb1)
    show t_law_no_3 K A _ _ _
    have cl1 : Cls K A.c_Beyond := (F.ty .Beyond).cl
    have na1 : ∀ n ∈ P10.Beyond.names, NoAttr K A.c_Beyond n := F.na .Beyond
    obtain ⟨hl1, dx1, e1⟩ := id pa1
    replace e1 : Hb1 one = some (.ins A.c_Beyond dx1 [("ahead", W9.v w x), ("rising", W9.v w y), ("between", W9.v w z), ("falling", W9.v w x), ("behind", W9.v w y)]) := e1
    refine st_seq (st_drop ?_)
    (refine evE ?P153 (fun Q h => ?h153) ?_; (case h153 => (simp only [tTest, tOp, tUn, tVar, tC, tCB, tCons, tNil, tAnd, tOr, tNot, tB, tTup, tLst, tIf, tAndV, tOrV, tNotV, tSl, tPart, tNoPart, tCall, iIx_ref, oGt_int, oMod_int, oFdiv_int, oAdd_int, oAdd_str, oSub_int, oMul_int, oLt_int, oGe_int, oLe_int, oPow_int, uNeg_int, oEq_int, oEq_str, oEq_bl, oNe_int, oNe_str, oNe_bl, cInt_int, cInt_bl, cAbs_int, cLen_ref, cList_ref, stL_ref, gName, gSub, gTup, gCons, gNil, rdSeq, List.getElem?_cons_zero, List.getElem?_cons_succ, List.set_cons_zero, List.set_cons_succ, List.cons_append, List.nil_append, Option.some.injEq, exists_eq_left', V.bl.injEq, V.int.injEq, V.ref.injEq, atI_0, atI_1, atI_2, setI_1, setI_2, Bool.not_true, Bool.not_false, Bool.false_eq_true, if_false, if_true, tBM, tLstN, tFld_eq]; exact h)))
    refine ⟨.inl ⟨rfl, _, SqL.of B.hL⟩, ?_⟩
    refine fld_of cl1 (na1 _ (by decide)) e1 rfl ?_
    refine fld_of cl1 (na1 _ (by decide)) e1 rfl ?_
    refine fld_of cl1 (na1 _ (by decide)) e1 rfl ?_
    refine fld_of cl1 (na1 _ (by decide)) e1 rfl ?_
    refine fld_of cl1 (na1 _ (by decide)) e1 rfl ?_
    refine ⟨by show 5 ≤ sizeLine; decide, fun told1 ht1 nt1 => ?_⟩
    refine ⟨by show 5 ≤ sizeLine; decide, fun due1 hd1 nd1 => ?_⟩
    refine ⟨by show 4 ≤ sizeLine; decide, fun t1 htt1 => ?_⟩
    have rw1 := row_new (vs := [x, y, z, x, y]) pa1 pb1 ht1 nt1 hd1 nd1 htt1
    obtain ⟨gr1, R1⟩ := rw1
    have m1 : told1 ≠ L := Ne.symm (ne_of_none B.hL ht1)
    have m2 : due1 ≠ L := Ne.symm (ne_of_none ((upd_ne (Ne.symm m1)).trans B.hL) hd1)
    replace B := B.grow gr1
    refine ⟨L, _, _, rfl, rfl, B.hL, by show 1 < sizeLine; decide, ?_⟩
    replace B := B.push R1 m1 m2
    show t_law_no_4 K A _ _ _
    refine bag_cut (P := fun X => t_law_no_4 K A _ _ X) B (fun H2 B => ?_)
    clear R1 m1 m2 gr1 e1 htt1 hd1 ht1 pa1 pb1
    -- EndlessCut
    refine st_seq (st_par ?_)
    (refine evA ?P142 (fun Q h => ?h142) ?_; (case h142 => (simp only [tTest, tOp, tUn, tVar, tC, tCB, tCons, tNil, tAnd, tOr, tNot, tB, tTup, tLst, tIf, tAndV, tOrV, tNotV, tSl, tPart, tNoPart, tCall, iIx_ref, oGt_int, oMod_int, oFdiv_int, oAdd_int, oAdd_str, oSub_int, oMul_int, oLt_int, oGe_int, oLe_int, oPow_int, uNeg_int, oEq_int, oEq_str, oEq_bl, oNe_int, oNe_str, oNe_bl, cInt_int, cInt_bl, cAbs_int, cLen_ref, cList_ref, stL_ref, gName, gSub, gTup, gCons, gNil, rdSeq, List.getElem?_cons_zero, List.getElem?_cons_succ, List.set_cons_zero, List.set_cons_succ, List.cons_append, List.nil_append, Option.some.injEq, exists_eq_left', V.bl.injEq, V.int.injEq, V.ref.injEq, atI_0, atI_1, atI_2, setI_1, setI_2, Bool.not_true, Bool.not_false, Bool.false_eq_true, if_false, if_true, tMake_eq, tMakeK_eq]; exact h)); (try dsimp only [gName, tNext, List.set_cons_zero, List.set_cons_succ]))
    refine mk_EndlessCut F (fun one Ha2 ga2 pa2 => ?_)
    refine ⟨rfl, rfl, ?_⟩
    refine mk_EndlessCut F (fun oth Hb2 gb2 pb2 => ?_)
    refine ⟨_, _, rfl, ?_⟩
    replace pa2 := pa2.grow gb2
    replace B := B.grow (ga2.trans gb2)
    show t_law_no_5 K A _ _ _
    have cl2 : Cls K A.c_EndlessCut := (F.ty .EndlessCut).cl
    have na2 : ∀ n ∈ P10.EndlessCut.names, NoAttr K A.c_EndlessCut n := F.na .EndlessCut
    obtain ⟨hl2, dx2, e2⟩ := id pa2
    replace e2 : Hb2 one = some (.ins A.c_EndlessCut dx2 [("text", W9.v w x), ("at", W9.v w y), ("ring", W9.v w z), ("behind", W9.v w x)]) := e2
    refine st_seq (st_drop ?_)
    (refine evE ?P154 (fun Q h => ?h154) ?_; (case h154 => (simp only [tTest, tOp, tUn, tVar, tC, tCB, tCons, tNil, tAnd, tOr, tNot, tB, tTup, tLst, tIf, tAndV, tOrV, tNotV, tSl, tPart, tNoPart, tCall, iIx_ref, oGt_int, oMod_int, oFdiv_int, oAdd_int, oAdd_str, oSub_int, oMul_int, oLt_int, oGe_int, oLe_int, oPow_int, uNeg_int, oEq_int, oEq_str, oEq_bl, oNe_int, oNe_str, oNe_bl, cInt_int, cInt_bl, cAbs_int, cLen_ref, cList_ref, stL_ref, gName, gSub, gTup, gCons, gNil, rdSeq, List.getElem?_cons_zero, List.getElem?_cons_succ, List.set_cons_zero, List.set_cons_succ, List.cons_append, List.nil_append, Option.some.injEq, exists_eq_left', V.bl.injEq, V.int.injEq, V.ref.injEq, atI_0, atI_1, atI_2, setI_1, setI_2, Bool.not_true, Bool.not_false, Bool.false_eq_true, if_false, if_true, tBM, tLstN, tFld_eq]; exact h)))
    refine ⟨.inl ⟨rfl, _, SqL.of B.hL⟩, ?_⟩
    refine fld_of cl2 (na2 _ (by decide)) e2 rfl ?_
    refine fld_of cl2 (na2 _ (by decide)) e2 rfl ?_
    refine fld_of cl2 (na2 _ (by decide)) e2 rfl ?_
    refine fld_of cl2 (na2 _ (by decide)) e2 rfl ?_
    refine ⟨by show 4 ≤ sizeLine; decide, fun told2 ht2 nt2 => ?_⟩
    refine ⟨by show 4 ≤ sizeLine; decide, fun due2 hd2 nd2 => ?_⟩
    refine ⟨by show 4 ≤ sizeLine; decide, fun t2 htt2 => ?_⟩
    have rw2 := row_new (vs := [x, y, z, x]) pa2 pb2 ht2 nt2 hd2 nd2 htt2
    obtain ⟨gr2, R2⟩ := rw2
    have m1 : told2 ≠ L := Ne.symm (ne_of_none B.hL ht2)
    have m2 : due2 ≠ L := Ne.symm (ne_of_none ((upd_ne (Ne.symm m1)).trans B.hL) hd2)
    replace B := B.grow gr2
    refine ⟨L, _, _, rfl, rfl, B.hL, by show 2 < sizeLine; decide, ?_⟩
    replace B := B.push R2 m1 m2
    show t_law_no_6 K A _ _ _
    refine bag_cut (P := fun X => t_law_no_6 K A _ _ X) B (fun H3 B => ?_)
    clear R2 m1 m2 gr2 e2 htt2 hd2 ht2 pa2 pb2
    refine st_ret ?_
    (refine evE ?P143 (fun Q h => ?h143) ?_; (case h143 => (simp only [tTest, tOp, tUn, tVar, tC, tCB, tCons, tNil, tAnd, tOr, tNot, tB, tTup, tLst, tIf, tAndV, tOrV, tNotV, tSl, tPart, tNoPart, tCall, iIx_ref, oGt_int, oMod_int, oFdiv_int, oAdd_int, oAdd_str, oSub_int, oMul_int, oLt_int, oGe_int, oLe_int, oPow_int, uNeg_int, oEq_int, oEq_str, oEq_bl, oNe_int, oNe_str, oNe_bl, cInt_int, cInt_bl, cAbs_int, cLen_ref, cList_ref, stL_ref, gName, gSub, gTup, gCons, gNil, rdSeq, List.getElem?_cons_zero, List.getElem?_cons_succ, List.set_cons_zero, List.set_cons_succ, List.cons_append, List.nil_append, Option.some.injEq, exists_eq_left', V.bl.injEq, V.int.injEq, V.ref.injEq, atI_0, atI_1, atI_2, setI_1, setI_2, Bool.not_true, Bool.not_false, Bool.false_eq_true, if_false, if_true]; exact h)); (try dsimp only [gName, tNext, List.set_cons_zero, List.set_cons_succ]))
    exact k _ _ B.g B.hL (bag_end B)
  · exact h.elim

def sp_law_plain (K : PySem.W.Frag) (A : Ad) : Sp := spRowsP [.Table, .Ring, .Mean, .Lengths] K A
def t_law_plain_8 (K : PySem.W.Frag) (A : Ad) : TS := (tRet (tVar 5))
def t_law_plain_7 (K : PySem.W.Frag) (A : Ad) : TS := (tSeq (tDrop (tBM K "list" rAppend (tVar 5) (tCons (tTup (tCons (tVar 3) (tCons (tVar 4) (tCons (tLstN (tCons (tFld K (tVar 3) "first") (tCons (tFld K (tVar 3) "steps") (tCons (tFld K (tVar 3) "tails") tNil)))) (tCons (tLstN (tCons (tVar 0) (tCons (tVar 1) (tCons (tVar 2) tNil)))) tNil))))) tNil))) (t_law_plain_8 K A))
def t_law_plain_6 (K : PySem.W.Frag) (A : Ad) : TS := (tSeq (tPar 3 4 (tCons (tMake A.c_Lengths (sp_Lengths_init K A) [] E0 (tCons (tVar 0) (tCons (tVar 1) (tCons (tVar 2) tNil)))) (tCons (tMakeK A.c_Lengths 0 3 (sp_Lengths_init K A) kw_Lengths_init_tails_steps_first E0 tNil (tCons (tVar 2) (tCons (tVar 1) (tCons (tVar 0) tNil)))) tNil))) (t_law_plain_7 K A))
def t_law_plain_5 (K : PySem.W.Frag) (A : Ad) : TS := (tSeq (tDrop (tBM K "list" rAppend (tVar 5) (tCons (tTup (tCons (tVar 3) (tCons (tVar 4) (tCons (tLstN (tCons (tFld K (tVar 3) "rate") (tCons (tFld K (tVar 3) "ring") (tCons (tFld K (tVar 3) "heights") tNil)))) (tCons (tLstN (tCons (tVar 0) (tCons (tVar 1) (tCons (tVar 2) tNil)))) tNil))))) tNil))) (t_law_plain_6 K A))
def t_law_plain_4 (K : PySem.W.Frag) (A : Ad) : TS := (tSeq (tPar 3 4 (tCons (tMake A.c_Mean (sp_Mean_init K A) [] E0 (tCons (tVar 0) (tCons (tVar 1) (tCons (tVar 2) tNil)))) (tCons (tMakeK A.c_Mean 0 3 (sp_Mean_init K A) kw_Mean_init_heights_ring_rate E0 tNil (tCons (tVar 2) (tCons (tVar 1) (tCons (tVar 0) tNil)))) tNil))) (t_law_plain_5 K A))
def t_law_plain_3 (K : PySem.W.Frag) (A : Ad) : TS := (tSeq (tDrop (tBM K "list" rAppend (tVar 5) (tCons (tTup (tCons (tVar 3) (tCons (tVar 4) (tCons (tLstN (tCons (tFld K (tVar 3) "state") (tCons (tFld K (tVar 3) "text") tNil))) (tCons (tLstN (tCons (tVar 0) (tCons (tVar 1) tNil))) tNil))))) tNil))) (t_law_plain_4 K A))
def t_law_plain_2 (K : PySem.W.Frag) (A : Ad) : TS := (tSeq (tPar 3 4 (tCons (tMake A.c_Ring (sp_Ring_init K A) [] E0 (tCons (tVar 0) (tCons (tVar 1) tNil))) (tCons (tMakeK A.c_Ring 0 2 (sp_Ring_init K A) kw_Ring_init_text_state E0 tNil (tCons (tVar 1) (tCons (tVar 0) tNil))) tNil))) (t_law_plain_3 K A))
def t_law_plain_1 (K : PySem.W.Frag) (A : Ad) : TS := (tSeq (tAsg (tLstN (tCons (tTup (tCons (tVar 3) (tCons (tVar 4) (tCons (tLstN (tCons (tFld K (tVar 3) "growths") tNil)) (tCons (tLstN (tCons (tVar 0) tNil)) tNil))))) tNil)) (gName 5)) (t_law_plain_2 K A))
def t_law_plain_0 (K : PySem.W.Frag) (A : Ad) : TS := (tSeq (tPar 3 4 (tCons (tMake A.c_Table (sp_Table_init K A) [] E0 (tCons (tVar 0) tNil)) (tCons (tMakeK A.c_Table 0 1 (sp_Table_init K A) kw_Table_init_growths E0 tNil (tCons (tVar 0) tNil)) tNil))) (t_law_plain_1 K A))

theorem pure_law_plain {K : PySem.W.Frag} {A : Ad} {xs : List V} {H : Hp} {Q : VK} {E : XK} (F : KF K A) (h : sp_law_plain K A xs H Q E) : (t_law_plain_0 K A) { nx := fun _ H' => Q .non H', rt := Q } (start ["_law_x", "_law_y", "_law_z", "_law_one", "_law_other", "_law_found"] xs) H := by
  unfold sp_law_plain spRowsP at h
  split at h
  · obtain ⟨w, x, y, z, S, rfl, rfl, rfl, k⟩ := h
    show (t_law_plain_0 K A) _ [some (W9.v w x), some (W9.v w y), some (W9.v w z), none, none, none] H
    have g0 : Grow H H := .refl
    have S0 := S
    -- Table
    refine st_seq (st_par ?_)
    (refine evA ?P144 (fun Q h => ?h144) ?_; (case h144 => (simp only [tTest, tOp, tUn, tVar, tC, tCB, tCons, tNil, tAnd, tOr, tNot, tB, tTup, tLst, tIf, tAndV, tOrV, tNotV, tSl, tPart, tNoPart, tCall, iIx_ref, oGt_int, oMod_int, oFdiv_int, oAdd_int, oAdd_str, oSub_int, oMul_int, oLt_int, oGe_int, oLe_int, oPow_int, uNeg_int, oEq_int, oEq_str, oEq_bl, oNe_int, oNe_str, oNe_bl, cInt_int, cInt_bl, cAbs_int, cLen_ref, cList_ref, stL_ref, gName, gSub, gTup, gCons, gNil, rdSeq, List.getElem?_cons_zero, List.getElem?_cons_succ, List.set_cons_zero, List.set_cons_succ, List.cons_append, List.nil_append, Option.some.injEq, exists_eq_left', V.bl.injEq, V.int.injEq, V.ref.injEq, atI_0, atI_1, atI_2, setI_1, setI_2, Bool.not_true, Bool.not_false, Bool.false_eq_true, if_false, if_true, tMake_eq, tMakeK_eq]; exact h)); (try dsimp only [gName, tNext, List.set_cons_zero, List.set_cons_succ]))
    refine mk_Table F (fun one Ha0 ga0 pa0 => ?_)
    refine ⟨rfl, rfl, ?_⟩
    refine mk_Table F (fun oth Hb0 gb0 pb0 => ?_)
    refine ⟨_, _, rfl, ?_⟩
    replace pa0 := pa0.grow gb0
    have g0 := ga0.trans gb0
    replace S := S.grow g0
    show t_law_plain_1 K A _ _ _
    have cl0 : Cls K A.c_Table := (F.ty .Table).cl
    have na0 : ∀ n ∈ P10.Table.names, NoAttr K A.c_Table n := F.na .Table
    obtain ⟨hl0, dx0, e0⟩ := id pa0
    replace e0 : Hb0 one = some (.ins A.c_Table dx0 [("growths", W9.v w x)]) := e0
    refine st_seq (st_asg ?_)
    (refine evE ?P155 (fun Q h => ?h155) ?_; (case h155 => (simp only [tTest, tOp, tUn, tVar, tC, tCB, tCons, tNil, tAnd, tOr, tNot, tB, tTup, tLst, tIf, tAndV, tOrV, tNotV, tSl, tPart, tNoPart, tCall, iIx_ref, oGt_int, oMod_int, oFdiv_int, oAdd_int, oAdd_str, oSub_int, oMul_int, oLt_int, oGe_int, oLe_int, oPow_int, uNeg_int, oEq_int, oEq_str, oEq_bl, oNe_int, oNe_str, oNe_bl, cInt_int, cInt_bl, cAbs_int, cLen_ref, cList_ref, stL_ref, gName, gSub, gTup, gCons, gNil, rdSeq, List.getElem?_cons_zero, List.getElem?_cons_succ, List.set_cons_zero, List.set_cons_succ, List.cons_append, List.nil_append, Option.some.injEq, exists_eq_left', V.bl.injEq, V.int.injEq, V.ref.injEq, atI_0, atI_1, atI_2, setI_1, setI_2, Bool.not_true, Bool.not_false, Bool.false_eq_true, if_false, if_true, tLstN, tFld_eq]; exact h)))
    refine fld_of cl0 (na0 _ (by decide)) e0 rfl ?_
    refine ⟨by show 1 ≤ sizeLine; decide, fun told0 ht0 nt0 => ?_⟩
    refine ⟨by show 1 ≤ sizeLine; decide, fun due0 hd0 nd0 => ?_⟩
    refine ⟨by show 4 ≤ sizeLine; decide, fun t0 htt0 => ?_⟩
    have rw0 := row_new (vs := [x]) pa0 pb0 ht0 nt0 hd0 nd0 htt0
    obtain ⟨gr0, R0⟩ := rw0
    refine ⟨by show 1 ≤ sizeLine; decide, fun L hLn nL => ?_⟩
    replace S := S.grow gr0
    have nd1 : told0 ≠ L := ne_of_none R0.h1 hLn
    have nd2 : due0 ≠ L := ne_of_none R0.h2 hLn
    replace hLn : (upd (upd (upd Hb0 told0 (.lst (List.map (W9.v w) [x]))) due0 (.lst (List.map (W9.v w) [x]))) t0 (.tup [.ref one, .ref oth, .ref told0, .ref due0])) L = none := hLn
    have B : Bag A H (upd (upd (upd (upd Hb0 told0 (.lst (List.map (W9.v w) [x]))) due0 (.lst (List.map (W9.v w) [x]))) t0 (.tup [.ref one, .ref oth, .ref told0, .ref due0])) L (.lst [.ref t0])) w L [(.Table, [x])] [⟨t0, one, oth, told0, due0⟩] :=
      have gl := Grow.new (o := .lst [.ref t0]) hLn
      have g1 := g0.trans (gr0.trans gl)
      ⟨g1, (Option.eq_none_iff_forall_not_mem.mpr fun o ho => by have := g0.trans gr0 _ _ ho; rw [hLn] at this; cases this), upd_same, S0, S.grow gl, .cons ⟨R0.grow gl, nd1, nd2⟩ .nil⟩
    replace k := fun rs H' g => k L rs H' g B.n
    show t_law_plain_2 K A _ _ _
    refine bag_cut (P := fun X => t_law_plain_2 K A _ _ X) B (fun H1 B => ?_)
    clear S0 S R0 nd1 nd2 hLn gr0 e0 htt0 hd0 ht0 pa0 pb0 g0
    -- Ring
    refine st_seq (st_par ?_)
    (refine evA ?P145 (fun Q h => ?h145) ?_; (case h145 => (simp only [tTest, tOp, tUn, tVar, tC, tCB, tCons, tNil, tAnd, tOr, tNot, tB, tTup, tLst, tIf, tAndV, tOrV, tNotV, tSl, tPart, tNoPart, tCall, iIx_ref, oGt_int, oMod_int, oFdiv_int, oAdd_int, oAdd_str, oSub_int, oMul_int, oLt_int, oGe_int, oLe_int, oPow_int, uNeg_int, oEq_int, oEq_str, oEq_bl, oNe_int, oNe_str, oNe_bl, cInt_int, cInt_bl, cAbs_int, cLen_ref, cList_ref, stL_ref, gName, gSub, gTup, gCons, gNil, rdSeq, List.getElem?_cons_zero, List.getElem?_cons_succ, List.set_cons_zero, List.set_cons_succ, List.cons_append, List.nil_append, Option.some.injEq, exists_eq_left', V.bl.injEq, V.int.injEq, V.ref.injEq, atI_0, atI_1, atI_2, setI_1, setI_2, Bool.not_true, Bool.not_false, Bool.false_eq_true, if_false, if_true, tMake_eq, tMakeK_eq]; exact h)); (try dsimp only [gName, tNext, List.set_cons_zero, List.set_cons_succ]))
    refine mk_Ring F (fun one Ha1 ga1 pa1 => ?_)
    refine ⟨rfl, rfl, ?_⟩
    refine mk_Ring F (fun oth Hb1 gb1 pb1 => ?_)
    refine ⟨_, _, rfl, ?_⟩
    replace pa1 := pa1.grow gb1
    replace B := B.grow (ga1.trans gb1)
    show t_law_plain_3 K A _ _ _
    have cl1 : Cls K A.c_Ring := (F.ty .Ring).cl
    have na1 : ∀ n ∈ P10.Ring.names, NoAttr K A.c_Ring n := F.na .Ring
    obtain ⟨hl1, dx1, e1⟩ := id pa1
    replace e1 : Hb1 one = some (.ins A.c_Ring dx1 [("state", W9.v w x), ("text", W9.v w y)]) := e1
    refine st_seq (st_drop ?_)
    (refine evE ?P156 (fun Q h => ?h156) ?_; (case h156 => (simp only [tTest, tOp, tUn, tVar, tC, tCB, tCons, tNil, tAnd, tOr, tNot, tB, tTup, tLst, tIf, tAndV, tOrV, tNotV, tSl, tPart, tNoPart, tCall, iIx_ref, oGt_int, oMod_int, oFdiv_int, oAdd_int, oAdd_str, oSub_int, oMul_int, oLt_int, oGe_int, oLe_int, oPow_int, uNeg_int, oEq_int, oEq_str, oEq_bl, oNe_int, oNe_str, oNe_bl, cInt_int, cInt_bl, cAbs_int, cLen_ref, cList_ref, stL_ref, gName, gSub, gTup, gCons, gNil, rdSeq, List.getElem?_cons_zero, List.getElem?_cons_succ, List.set_cons_zero, List.set_cons_succ, List.cons_append, List.nil_append, Option.some.injEq, exists_eq_left', V.bl.injEq, V.int.injEq, V.ref.injEq, atI_0, atI_1, atI_2, setI_1, setI_2, Bool.not_true, Bool.not_false, Bool.false_eq_true, if_false, if_true, tBM, tLstN, tFld_eq]; exact h)))
    refine ⟨.inl ⟨rfl, _, SqL.of B.hL⟩, ?_⟩
    refine fld_of cl1 (na1 _ (by decide)) e1 rfl ?_
    refine fld_of cl1 (na1 _ (by decide)) e1 rfl ?_
    refine ⟨by show 2 ≤ sizeLine; decide, fun told1 ht1 nt1 => ?_⟩
    refine ⟨by show 2 ≤ sizeLine; decide, fun due1 hd1 nd1 => ?_⟩
    refine ⟨by show 4 ≤ sizeLine; decide, fun t1 htt1 => ?_⟩
    have rw1 := row_new (vs := [x, y]) pa1 pb1 ht1 nt1 hd1 nd1 htt1
    obtain ⟨gr1, R1⟩ := rw1
    have m1 : told1 ≠ L := Ne.symm (ne_of_none B.hL ht1)
    have m2 : due1 ≠ L := Ne.symm (ne_of_none ((upd_ne (Ne.symm m1)).trans B.hL) hd1)
    replace B := B.grow gr1
    refine ⟨L, _, _, rfl, rfl, B.hL, by show 1 < sizeLine; decide, ?_⟩
    replace B := B.push R1 m1 m2
    show t_law_plain_4 K A _ _ _
    refine bag_cut (P := fun X => t_law_plain_4 K A _ _ X) B (fun H2 B => ?_)
    clear R1 m1 m2 gr1 e1 htt1 hd1 ht1 pa1 pb1
    -- Mean
    refine st_seq (st_par ?_)
    (refine evA ?P146 (fun Q h => ?h146) ?_; (case h146 => (simp only [tTest, tOp, tUn, tVar, tC, tCB, tCons, tNil, tAnd, tOr, tNot, tB, tTup, tLst, tIf, tAndV, tOrV, tNotV, tSl, tPart, tNoPart, tCall, iIx_ref, oGt_int, oMod_int, oFdiv_int, oAdd_int, oAdd_str, oSub_int, oMul_int, oLt_int, oGe_int, oLe_int, oPow_int, uNeg_int, oEq_int, oEq_str, oEq_bl, oNe_int, oNe_str, oNe_bl, cInt_int, cInt_bl, cAbs_int, cLen_ref, cList_ref, stL_ref, gName, gSub, gTup, gCons, gNil, rdSeq, List.getElem?_cons_zero, List.getElem?_cons_succ, List.set_cons_zero, List.set_cons_succ, List.cons_append, List.nil_append, Option.some.injEq, exists_eq_left', V.bl.injEq, V.int.injEq, V.ref.injEq, atI_0, atI_1, atI_2, setI_1, setI_2, Bool.not_true, Bool.not_false, Bool.false_eq_true, if_false, if_true, tMake_eq, tMakeK_eq]; exact h)); (try dsimp only [gName, tNext, List.set_cons_zero, List.set_cons_succ]))
    refine mk_Mean F (fun one Ha2 ga2 pa2 => ?_)
    refine ⟨rfl, rfl, ?_⟩
    refine mk_Mean F (fun oth Hb2 gb2 pb2 => ?_)
    refine ⟨_, _, rfl, ?_⟩
    replace pa2 := pa2.grow gb2
    replace B := B.grow (ga2.trans gb2)
    show t_law_plain_5 K A _ _ _
    have cl2 : Cls K A.c_Mean := (F.ty .Mean).cl
    have na2 : ∀ n ∈ P10.Mean.names, NoAttr K A.c_Mean n := F.na .Mean
    obtain ⟨hl2, dx2, e2⟩ := id pa2
    replace e2 : Hb2 one = some (.ins A.c_Mean dx2 [("rate", W9.v w x), ("ring", W9.v w y), ("heights", W9.v w z)]) := e2
    refine st_seq (st_drop ?_)
    (refine evE ?P157 (fun Q h => ?h157) ?_; (case h157 => (simp only [tTest, tOp, tUn, tVar, tC, tCB, tCons, tNil, tAnd, tOr, tNot, tB, tTup, tLst, tIf, tAndV, tOrV, tNotV, tSl, tPart, tNoPart, tCall, iIx_ref, oGt_int, oMod_int, oFdiv_int, oAdd_int, oAdd_str, oSub_int, oMul_int, oLt_int, oGe_int, oLe_int, oPow_int, uNeg_int, oEq_int, oEq_str, oEq_bl, oNe_int, oNe_str, oNe_bl, cInt_int, cInt_bl, cAbs_int, cLen_ref, cList_ref, stL_ref, gName, gSub, gTup, gCons, gNil, rdSeq, List.getElem?_cons_zero, List.getElem?_cons_succ, List.set_cons_zero, List.set_cons_succ, List.cons_append, List.nil_append, Option.some.injEq, exists_eq_left', V.bl.injEq, V.int.injEq, V.ref.injEq, atI_0, atI_1, atI_2, setI_1, setI_2, Bool.not_true, Bool.not_false, Bool.false_eq_true, if_false, if_true, tBM, tLstN, tFld_eq]; exact h)))
    refine ⟨.inl ⟨rfl, _, SqL.of B.hL⟩, ?_⟩
    refine fld_of cl2 (na2 _ (by decide)) e2 rfl ?_
    refine fld_of cl2 (na2 _ (by decide)) e2 rfl ?_
    refine fld_of cl2 (na2 _ (by decide)) e2 rfl ?_
    refine ⟨by show 3 ≤ sizeLine; decide, fun told2 ht2 nt2 => ?_⟩
    refine ⟨by show 3 ≤ sizeLine; decide, fun due2 hd2 nd2 => ?_⟩
    refine ⟨by show 4 ≤ sizeLine; decide, fun t2 htt2 => ?_⟩
    have rw2 := row_new (vs := [x, y, z]) pa2 pb2 ht2 nt2 hd2 nd2 htt2
    obtain ⟨gr2, R2⟩ := rw2
    have m1 : told2 ≠ L := Ne.symm (ne_of_none B.hL ht2)
    have m2 : due2 ≠ L := Ne.symm (ne_of_none ((upd_ne (Ne.symm m1)).trans B.hL) hd2)
    replace B := B.grow gr2
    refine ⟨L, _, _, rfl, rfl, B.hL, by show 2 < sizeLine; decide, ?_⟩
    replace B := B.push R2 m1 m2
    show t_law_plain_6 K A _ _ _
    refine bag_cut (P := fun X => t_law_plain_6 K A _ _ X) B (fun H3 B => ?_)
    clear R2 m1 m2 gr2 e2 htt2 hd2 ht2 pa2 pb2
    -- Lengths
    refine st_seq (st_par ?_)
    (refine evA ?P147 (fun Q h => ?h147) ?_; (case h147 => (simp only [tTest, tOp, tUn, tVar, tC, tCB, tCons, tNil, tAnd, tOr, tNot, tB, tTup, tLst, tIf, tAndV, tOrV, tNotV, tSl, tPart, tNoPart, tCall, iIx_ref, oGt_int, oMod_int, oFdiv_int, oAdd_int, oAdd_str, oSub_int, oMul_int, oLt_int, oGe_int, oLe_int, oPow_int, uNeg_int, oEq_int, oEq_str, oEq_bl, oNe_int, oNe_str, oNe_bl, cInt_int, cInt_bl, cAbs_int, cLen_ref, cList_ref, stL_ref, gName, gSub, gTup, gCons, gNil, rdSeq, List.getElem?_cons_zero, List.getElem?_cons_succ, List.set_cons_zero, List.set_cons_succ, List.cons_append, List.nil_append, Option.some.injEq, exists_eq_left', V.bl.injEq, V.int.injEq, V.ref.injEq, atI_0, atI_1, atI_2, setI_1, setI_2, Bool.not_true, Bool.not_false, Bool.false_eq_true, if_false, if_true, tMake_eq, tMakeK_eq]; exact h)); (try dsimp only [gName, tNext, List.set_cons_zero, List.set_cons_succ]))
    refine mk_Lengths F (fun one Ha3 ga3 pa3 => ?_)
    refine ⟨rfl, rfl, ?_⟩
    refine mk_Lengths F (fun oth Hb3 gb3 pb3 => ?_)
    refine ⟨_, _, rfl, ?_⟩
    replace pa3 := pa3.grow gb3
    replace B := B.grow (ga3.trans gb3)
    show t_law_plain_7 K A _ _ _
    have cl3 : Cls K A.c_Lengths := (F.ty .Lengths).cl
    have na3 : ∀ n ∈ P10.Lengths.names, NoAttr K A.c_Lengths n := F.na .Lengths
    obtain ⟨hl3, dx3, e3⟩ := id pa3
    replace e3 : Hb3 one = some (.ins A.c_Lengths dx3 [("first", W9.v w x), ("steps", W9.v w y), ("tails", W9.v w z)]) := e3
    refine st_seq (st_drop ?_)
    (refine evE ?P158 (fun Q h => ?h158) ?_; (case h158 => (simp only [tTest, tOp, tUn, tVar, tC, tCB, tCons, tNil, tAnd, tOr, tNot, tB, tTup, tLst, tIf, tAndV, tOrV, tNotV, tSl, tPart, tNoPart, tCall, iIx_ref, oGt_int, oMod_int, oFdiv_int, oAdd_int, oAdd_str, oSub_int, oMul_int, oLt_int, oGe_int, oLe_int, oPow_int, uNeg_int, oEq_int, oEq_str, oEq_bl, oNe_int, oNe_str, oNe_bl, cInt_int, cInt_bl, cAbs_int, cLen_ref, cList_ref, stL_ref, gName, gSub, gTup, gCons, gNil, rdSeq, List.getElem?_cons_zero, List.getElem?_cons_succ, List.set_cons_zero, List.set_cons_succ, List.cons_append, List.nil_append, Option.some.injEq, exists_eq_left', V.bl.injEq, V.int.injEq, V.ref.injEq, atI_0, atI_1, atI_2, setI_1, setI_2, Bool.not_true, Bool.not_false, Bool.false_eq_true, if_false, if_true, tBM, tLstN, tFld_eq]; exact h)))
    refine ⟨.inl ⟨rfl, _, SqL.of B.hL⟩, ?_⟩
    refine fld_of cl3 (na3 _ (by decide)) e3 rfl ?_
    refine fld_of cl3 (na3 _ (by decide)) e3 rfl ?_
    refine fld_of cl3 (na3 _ (by decide)) e3 rfl ?_
    refine ⟨by show 3 ≤ sizeLine; decide, fun told3 ht3 nt3 => ?_⟩
    refine ⟨by show 3 ≤ sizeLine; decide, fun due3 hd3 nd3 => ?_⟩
    refine ⟨by show 4 ≤ sizeLine; decide, fun t3 htt3 => ?_⟩
    have rw3 := row_new (vs := [x, y, z]) pa3 pb3 ht3 nt3 hd3 nd3 htt3
    obtain ⟨gr3, R3⟩ := rw3
    have m1 : told3 ≠ L := Ne.symm (ne_of_none B.hL ht3)
    have m2 : due3 ≠ L := Ne.symm (ne_of_none ((upd_ne (Ne.symm m1)).trans B.hL) hd3)
    replace B := B.grow gr3
    refine ⟨L, _, _, rfl, rfl, B.hL, by show 3 < sizeLine; decide, ?_⟩
    replace B := B.push R3 m1 m2
    show t_law_plain_8 K A _ _ _
    refine bag_cut (P := fun X => t_law_plain_8 K A _ _ X) B (fun H4 B => ?_)
    clear R3 m1 m2 gr3 e3 htt3 hd3 ht3 pa3 pb3
    refine st_ret ?_
    (refine evE ?P148 (fun Q h => ?h148) ?_; (case h148 => (simp only [tTest, tOp, tUn, tVar, tC, tCB, tCons, tNil, tAnd, tOr, tNot, tB, tTup, tLst, tIf, tAndV, tOrV, tNotV, tSl, tPart, tNoPart, tCall, iIx_ref, oGt_int, oMod_int, oFdiv_int, oAdd_int, oAdd_str, oSub_int, oMul_int, oLt_int, oGe_int, oLe_int, oPow_int, uNeg_int, oEq_int, oEq_str, oEq_bl, oNe_int, oNe_str, oNe_bl, cInt_int, cInt_bl, cAbs_int, cLen_ref, cList_ref, stL_ref, gName, gSub, gTup, gCons, gNil, rdSeq, List.getElem?_cons_zero, List.getElem?_cons_succ, List.set_cons_zero, List.set_cons_succ, List.cons_append, List.nil_append, Option.some.injEq, exists_eq_left', V.bl.injEq, V.int.injEq, V.ref.injEq, atI_0, atI_1, atI_2, setI_1, setI_2, Bool.not_true, Bool.not_false, Bool.false_eq_true, if_false, if_true]; exact h)); (try dsimp only [gName, tNext, List.set_cons_zero, List.set_cons_succ]))
    exact k _ _ B.g B.hL (bag_end B)
  · exact h.elim

end HG

namespace HG
open PySem L2
theorem for_enumL {K : PySem.W.Frag} {ta : TA} {g : TG} {tb : TS} {D : Ends} {σ : L2.St} {H : Hp} (h : ta σ H fun vs H1 => ∃ a xs, vs = [.ref a] ∧ SqL K H1 a xs ∧ ForW (Ite K a) g tb D σ H1) : tFor (iEnum K ta) g tb D σ H := h
/-- for i, x in enumerate(list) -/
theorem for_ite {K : PySem.W.Frag} {a : Addr} {xs : List V} {H1 : Hp} {g : TG} {tb : TS} {D : Ends} {σ : L2.St} (W : Nat → L2.St → Hp → Prop) (w0 : W 0 σ H1) (at_ : ∀ i σ H, W i σ H → H a = some (.lst xs)) (fin : ∀ σ H, W xs.length σ H → D.nx σ H)
    (step : ∀ i σ H T, i < xs.length → W i σ H → H T = none → g (.ref T) σ (upd H T (.tup [.int (i : Nat), xs.getD i .non])) fun σ2 H2 => tb { D with nx := W (i + 1), ct := W (i + 1), bk := D.nx } σ2 H2) : ForW (Ite K a) g tb D σ H1 := by
  refine ⟨fun i m σ H => i ≤ xs.length ∧ m = xs.length - i ∧ W i σ H, ⟨xs.length, by omega, by omega, w0⟩, ?_⟩
  rintro i m σ H ⟨hi, hm, w⟩
  have ha := SqL.of (K := K) (at_ _ _ _ w)
  by_cases e : i = xs.length
  · subst e
    exact .inl ⟨⟨xs, ha, Nat.le_refl _⟩, fin _ _ w⟩
  · have hl : i < xs.length := by omega
    refine .inr ⟨⟨xs, xs[i], ha, List.getElem?_eq_getElem hl⟩, W (i + 1), fun σ' H' q => ⟨xs.length - (i + 1), by omega, by omega, rfl, q⟩, fun v H' y => ?_⟩
    obtain ⟨T, x, rfl, hT, rfl, y⟩ := y
    have ey := y xs ha
    have e : x = xs.getD i .non := by rw [List.getD_eq_getElem?_getD, ey]; rfl
    rw [e]
    exact step i σ H T hl w hT
/-! ### the ten -/
def P10.all : List P10 := [.Enough, .Fits, .Cut, .Never, .Beyond, .EndlessCut, .Table, .Ring, .Mean, .Lengths]
def P10.eqSp (K : PySem.W.Frag) (A : Ad) : P10 → Sp
  | .Enough => sp_Enough_eq K A | .Fits => sp_Fits_eq K A | .Cut => sp_Cut_eq K A | .Never => sp_Never_eq K A | .Beyond => sp_Beyond_eq K A | .EndlessCut => sp_EndlessCut_eq K A
  | .Table => sp_Table_eq K A | .Ring => sp_Ring_eq K A | .Mean => sp_Mean_eq K A | .Lengths => sp_Lengths_eq K A
theorem P10.eqSp_eq (K : PySem.W.Frag) (A : Ad) (i : P10) : i.eqSp K A = spEqP i K A := by cases i <;> rfl
abbrev eqR (K : PySem.W.Frag) (A : Ad) : List R2 := P10.all.map fun i => rCmp K (i.c A) (i.eqSp K A)
abbrev neR (K : PySem.W.Frag) (A : Ad) : List R2 := P10.all.map fun i => rNeO (i.c A) (i.eqSp K A)
abbrev boR (K : PySem.W.Frag) (A : Ad) : List CR := [rBoolO A.c_Enough (sp_Enough_bool K A), rBoolO A.c_Fits (sp_Fits_bool K A), rBoolO A.c_Cut (sp_Cut_bool K A), rBoolO A.c_Never (sp_Never_bool K A), rBoolO A.c_Beyond (sp_Beyond_bool K A), rBoolO A.c_EndlessCut (sp_EndlessCut_bool K A)]
theorem P10.mem (i : P10) : i ∈ P10.all := by cases i <;> decide
section
variable {K : PySem.W.Frag} {A : Ad} {H : Hp} {w : Thr} {i j : P10} {vs us : List W9} {a b : Addr} {Q : VK}
theorem eq_same (F : KF K A) (S : Sts H w) (p : Pap A H w i vs a) (q : Pap A H w i us b) (k : ∀ H', Grow H H' → Q (.bl (decide (vs = us))) H') : anyR (eqR K A) (.ref a) (.ref b) H Q := by
  refine ⟨_, List.mem_map_of_mem i.mem, p.isI, ⟨_, q.ty, F.ty i, F.nf i i⟩, ?_⟩
  rw [P10.eqSp_eq]
  exact ⟨w, vs, S, p, .inl ⟨b, us, rfl, q, k⟩⟩
theorem eq_other (F : KF K A) (S : Sts H w) (p : Pap A H w i vs a) (q : Pap A H w j us b) (ne : i ≠ j) (k : Q (.bl false) H) : anyR (eqR K A) (.ref a) (.ref b) H Q := by
  refine ⟨_, List.mem_map_of_mem i.mem, p.isI, ⟨_, q.ty, F.ty j, F.nf i j⟩, ?_⟩
  rw [P10.eqSp_eq]
  refine ⟨w, vs, S, p, .inr ⟨⟨_, q.ty, F.ty j, ?_⟩, k⟩⟩
  rw [F.kit j i, decide_eq_false (Ne.symm ne)]
theorem eq_tup (F : KF K A) (S : Sts H w) (p : Pap A H w i vs a) {xs : List V} (q : H b = some (.tup xs)) (k : Q (.bl false) H) : anyR (eqR K A) (.ref a) (.ref b) H Q := by
  have ty : tyF H (.ref b) = some (.type "tuple") := by simp only [tyF, q]
  refine ⟨_, List.mem_map_of_mem i.mem, p.isI, ⟨_, ty, trivial, F.nt i _ (by decide)⟩, ?_⟩
  rw [P10.eqSp_eq]
  exact ⟨w, vs, S, p, .inr ⟨⟨_, ty, trivial, F.kt i _ (by decide)⟩, k⟩⟩
theorem eq_lst (F : KF K A) (S : Sts H w) (p : Pap A H w i vs a) {xs : List V} (q : H b = some (.lst xs)) (k : Q (.bl false) H) : anyR (eqR K A) (.ref a) (.ref b) H Q := by
  have ty : tyF H (.ref b) = some (.type "list") := by simp only [tyF, q]
  refine ⟨_, List.mem_map_of_mem i.mem, p.isI, ⟨_, ty, trivial, F.nt i _ (by decide)⟩, ?_⟩
  rw [P10.eqSp_eq]
  exact ⟨w, vs, S, p, .inr ⟨⟨_, ty, trivial, F.kt i _ (by decide)⟩, k⟩⟩
theorem ne_same (S : Sts H w) (p : Pap A H w i vs a) (q : Pap A H w i us b) (k : ∀ H', Grow H H' → Q (.bl (!decide (vs = us))) H') : anyR (neR K A) (.ref a) (.ref b) H Q := by
  refine ⟨_, List.mem_map_of_mem i.mem, p.isI, q.isI, ?_⟩
  rw [P10.eqSp_eq]
  exact ⟨w, vs, S, p, .inl ⟨b, us, rfl, q, k⟩⟩
theorem bo_of (p : Pap A H w i vs a) (hv : i.verd = true) (k : Q (.bl i.yes) H) : anyC (boR K A) [.ref a] H Q := by
  cases i <;> first | (exact absurd hv (by decide)) | skip
  · exact ⟨_, .head _, _, rfl, p.isI, p.isI, _, rfl, k⟩
  · exact ⟨_, .tail _ (.head _), _, rfl, p.isI, p.isI, _, rfl, k⟩
  · exact ⟨_, .tail _ (.tail _ (.head _)), _, rfl, p.isI, p.isI, _, rfl, k⟩
  · exact ⟨_, .tail _ (.tail _ (.tail _ (.head _))), _, rfl, p.isI, p.isI, _, rfl, k⟩
  · exact ⟨_, .tail _ (.tail _ (.tail _ (.tail _ (.head _)))), _, rfl, p.isI, p.isI, _, rfl, k⟩
  · exact ⟨_, .tail _ (.tail _ (.tail _ (.tail _ (.tail _ (.head _))))), _, rfl, p.isI, p.isI, _, rfl, k⟩
end
theorem val_eq (i : P10) (x y z u : W9) : decide (i.val x y z = i.val u y z) = decide (x = u) := by
  refine decide_eq_decide.mpr ?_
  cases i <;> simp [P10.val]
/-- some rows of papers, their classes -/
structure Rows (A : Ad) (H : Hp) (w : Thr) (x y z : W9) (is : List P10) (rs : List R5) : Prop where
  R : RowsAt A H w (is.map fun i => (i, i.val x y z)) rs
theorem paired_get {α β : Type} {F : α → β → Prop} {l : List α} {m : List β} (h : Paired F l m) : ∀ {j : Nat} {a : α}, l[j]? = some a → ∃ b, m[j]? = some b ∧ F a b := by
  induction h with
  | nil => intro j a e; cases e
  | cons h t ih =>
    intro j a e
    cases j with
    | zero => cases e; exact ⟨_, rfl, h⟩
    | succ j => exact ih e
section
variable {A : Ad} {H H' : Hp} {w : Thr} {x y z : W9} {is is' : List P10} {rs rs' : List R5}
theorem Rows.grow (h : Rows A H w x y z is rs) (g : Grow H H') : Rows A H' w x y z is rs := ⟨h.R.grow g⟩
theorem Rows.app (h : Rows A H w x y z is rs) (h' : Rows A H w x y z is' rs') : Rows A H w x y z (is ++ is') (rs ++ rs') := ⟨by rw [List.map_append]; exact paired_app h.R h'.R⟩
theorem Rows.len (h : Rows A H w x y z is rs) : rs.length = is.length := by
  have := Paired.length h.R
  rw [List.length_map] at this
  exact this.symm
theorem Rows.get (h : Rows A H w x y z is rs) {j : Nat} (hj : j < is.length) : ∃ (i : P10) (r : R5), is[j]? = some i ∧ rs[j]? = some r ∧ RowAt A H w i (i.val x y z) r ∧ (rs.map fun r => V.ref r.t).getD j .non = .ref r.t := by
  have e : is[j]? = some is[j] := List.getElem?_eq_getElem hj
  have e2 : (is.map fun i => (i, i.val x y z))[j]? = some (is[j], is[j].val x y z) := by rw [List.getElem?_map, e]; rfl
  obtain ⟨r, hr, R⟩ := paired_get h.R e2
  exact ⟨_, r, e, hr, R, by rw [List.getD_eq_getElem?_getD, List.getElem?_map, hr]; rfl⟩
end
def V6 : List P10 := [.Enough, .Fits, .Cut, .Never, .Beyond, .EndlessCut]
theorem W9.mem (i : W9) : i ∈ [W9.non, .zero, .five, .emp, .aa, .tup, .lst, .dic, .big] := by cases i <;> decide
def all9 : List W9 := [W9.non, .zero, .five, .emp, .aa, .tup, .lst, .dic, .big]
theorem Sts.keep {H H' : Hp} {p l : Addr} {n : Nat} {w : Thr} (S : Sts H w) (hp : PenL H p l n) (k : Keep p H H') : Sts H' w := by
  obtain ⟨c, t, r, h1, _⟩ := hp
  refine ⟨k _ _ (fun z => ?_) S.ht, k _ _ (fun z => ?_) S.hl, k _ _ (fun z => ?_) S.hd⟩
  · have := S.ht; rw [z, h1] at this; cases this
  · have := S.hl; rw [z, h1] at this; cases this
  · have := S.hd; rw [z, h1] at this; cases this
end HG

namespace HG
open PySem L2
def sp_law (K : PySem.W.Frag) (A : Ad) : Sp := spLaw K
def t_law_7 (K : PySem.W.Frag) (A : Ad) : TS := (tRet (tC (.bl false)))
def t_law_9 (K : PySem.W.Frag) (A : Ad) : TS := (tRet (tC (.bl false)))
def t_law_8 (K : PySem.W.Frag) (A : Ad) : TS := (tIfS (tTest (tOp rNeRow (tLc (iSeq K (tOp oAdd (tOp oAdd (tVar 8) (tVar 9)) (tVar 10))) (gName 17) (tTest (tOp (anyR [(rCmp K A.c_Enough (sp_Enough_eq K A)), (rCmp K A.c_Fits (sp_Fits_eq K A)), (rCmp K A.c_Cut (sp_Cut_eq K A)), (rCmp K A.c_Never (sp_Never_eq K A)), (rCmp K A.c_Beyond (sp_Beyond_eq K A)), (rCmp K A.c_EndlessCut (sp_EndlessCut_eq K A)), (rCmp K A.c_Table (sp_Table_eq K A)), (rCmp K A.c_Ring (sp_Ring_eq K A)), (rCmp K A.c_Mean (sp_Mean_eq K A)), (rCmp K A.c_Lengths (sp_Lengths_eq K A))]) (tOp (rIx K) (tVar 17) (tC (.int 0))) (tVar 11))) (tVar 17) [17]) (tLstN (tCons (tTup (tCons (tVar 11) (tCons (tVar 12) (tCons (tVar 13) (tCons (tVar 14) tNil))))) tNil)))) (t_law_9 K A) tNext)
def t_law_6 (K : PySem.W.Frag) (A : Ad) : TS := (tSeq (tIfS (tOr (tTest (tOp (oNe K) (tCB cRepr9 (tCons (tVar 13) tNil)) (tCB cRepr9 (tCons (tVar 14) tNil)))) (tOr (tTest (tOp (anyR [(rNeO A.c_Enough (sp_Enough_eq K A)), (rNeO A.c_Fits (sp_Fits_eq K A)), (rNeO A.c_Cut (sp_Cut_eq K A)), (rNeO A.c_Never (sp_Never_eq K A)), (rNeO A.c_Beyond (sp_Beyond_eq K A)), (rNeO A.c_EndlessCut (sp_EndlessCut_eq K A)), (rNeO A.c_Table (sp_Table_eq K A)), (rNeO A.c_Ring (sp_Ring_eq K A)), (rNeO A.c_Mean (sp_Mean_eq K A)), (rNeO A.c_Lengths (sp_Lengths_eq K A))]) (tVar 11) (tVar 12))) (tOr (tTest (tOp (anyR [(rCmp K A.c_Enough (sp_Enough_eq K A)), (rCmp K A.c_Fits (sp_Fits_eq K A)), (rCmp K A.c_Cut (sp_Cut_eq K A)), (rCmp K A.c_Never (sp_Never_eq K A)), (rCmp K A.c_Beyond (sp_Beyond_eq K A)), (rCmp K A.c_EndlessCut (sp_EndlessCut_eq K A)), (rCmp K A.c_Table (sp_Table_eq K A)), (rCmp K A.c_Ring (sp_Ring_eq K A)), (rCmp K A.c_Mean (sp_Mean_eq K A)), (rCmp K A.c_Lengths (sp_Lengths_eq K A))]) (tVar 11) (tCB (cTupE K) (tCons (tVar 14) tNil)))) (tOr (tTest (tOp (anyR [(rCmp K A.c_Enough (sp_Enough_eq K A)), (rCmp K A.c_Fits (sp_Fits_eq K A)), (rCmp K A.c_Cut (sp_Cut_eq K A)), (rCmp K A.c_Never (sp_Never_eq K A)), (rCmp K A.c_Beyond (sp_Beyond_eq K A)), (rCmp K A.c_EndlessCut (sp_EndlessCut_eq K A)), (rCmp K A.c_Table (sp_Table_eq K A)), (rCmp K A.c_Ring (sp_Ring_eq K A)), (rCmp K A.c_Mean (sp_Mean_eq K A)), (rCmp K A.c_Lengths (sp_Lengths_eq K A))]) (tVar 11) (tVar 14))) (tTest (tOp oIs (tVar 11) (tC .non))))))) (t_law_7 K A) tNext) (t_law_8 K A))
def t_law_12 (K : PySem.W.Frag) (A : Ad) : TS := (tRet (tC (.bl false)))
def t_law_11 (K : PySem.W.Frag) (A : Ad) : TS := (tIfS (tNot (tB (tCB (cIsi K) (tCons (tVar 11) (tCons (tC (.ref A.c_Verdict)) tNil))))) (t_law_12 K A) tNext)
def t_law_14 (K : PySem.W.Frag) (A : Ad) : TS := (tRet (tC (.bl false)))
def t_law_18 (K : PySem.W.Frag) (A : Ad) : TS := (tRet (tC (.bl false)))
def t_law_17 (K : PySem.W.Frag) (A : Ad) : TS := (tIfS (tTest (tOp (oNe K) (tOp (anyR [(rCmp K A.c_Enough (sp_Enough_eq K A)), (rCmp K A.c_Fits (sp_Fits_eq K A)), (rCmp K A.c_Cut (sp_Cut_eq K A)), (rCmp K A.c_Never (sp_Never_eq K A)), (rCmp K A.c_Beyond (sp_Beyond_eq K A)), (rCmp K A.c_EndlessCut (sp_EndlessCut_eq K A)), (rCmp K A.c_Table (sp_Table_eq K A)), (rCmp K A.c_Ring (sp_Ring_eq K A)), (rCmp K A.c_Mean (sp_Mean_eq K A)), (rCmp K A.c_Lengths (sp_Lengths_eq K A))]) (tOp (rIx K) (tVar 17) (tC (.int 0))) (tOp (rIx K) (tOp (rIx K) (tVar 15) (tVar 16)) (tC (.int 0)))) (tOp rEq9 (tVar 4) (tVar 7)))) (t_law_18 K A) tNext)
def t_law_16 (K : PySem.W.Frag) (A : Ad) : TS := (tFor (iEnum K (tCons (tOp oAdd (tOp oAdd (tVar 8) (tVar 9)) (tVar 10)) tNil)) (gTup K 2 (gCons (gName 16) (gCons (gName 17) gNil)))
    (t_law_17 K A))
def t_law_15 (K : PySem.W.Frag) (A : Ad) : TS := (tSeq (tAsg (tOp oAdd (tOp oAdd (tCall (sp_law_yes K A) [] E0 (tCons (tVar 7) (tCons (tVar 5) (tCons (tVar 6) tNil)))) (tCall (sp_law_no K A) [] E0 (tCons (tVar 7) (tCons (tVar 5) (tCons (tVar 6) tNil))))) (tCall (sp_law_plain K A) [] E0 (tCons (tVar 7) (tCons (tVar 5) (tCons (tVar 6) tNil))))) (gName 15)) (t_law_16 K A))
def t_law_13 (K : PySem.W.Frag) (A : Ad) : TS := (tSeq (tIfS (tTest (tOp (oNe K) (tLc (iSeq K (tOp oAdd (tVar 8) (tVar 9))) (gName 17) tYes (tCB (anyC [(rBoolO A.c_Enough (sp_Enough_bool K A)), (rBoolO A.c_Fits (sp_Fits_bool K A)), (rBoolO A.c_Cut (sp_Cut_bool K A)), (rBoolO A.c_Never (sp_Never_bool K A)), (rBoolO A.c_Beyond (sp_Beyond_bool K A)), (rBoolO A.c_EndlessCut (sp_EndlessCut_bool K A))]) (tCons (tOp (rIx K) (tVar 17) (tC (.int 0))) tNil)) [17]) (tOp oAdd (tOp rRep (tLstN (tCons (tC (.bl true)) tNil)) (tC (.int 3))) (tOp rRep (tLstN (tCons (tC (.bl false)) tNil)) (tC (.int 3)))))) (t_law_14 K A) tNext) (t_law_15 K A))
def t_law_10 (K : PySem.W.Frag) (A : Ad) : TS := (tSeq (tFor (iSeq K (tOp oAdd (tVar 8) (tVar 9))) (gTup K 4 (gCons (gName 11) (gCons (gName 12) (gCons (gName 13) (gCons (gName 14) gNil)))))
    (t_law_11 K A)) (t_law_13 K A))
def t_law_5 (K : PySem.W.Frag) (A : Ad) : TS := (tSeq (tFor (iSeq K (tOp oAdd (tOp oAdd (tVar 8) (tVar 9)) (tVar 10))) (gTup K 4 (gCons (gName 11) (gCons (gName 12) (gCons (gName 13) (gCons (gName 14) gNil)))))
    (t_law_6 K A)) (t_law_10 K A))
def t_law_4 (K : PySem.W.Frag) (A : Ad) : TS := (tSeq (tPar3 8 9 10 (tCons (tCall (sp_law_yes K A) [] E0 (tCons (tVar 4) (tCons (tVar 5) (tCons (tVar 6) tNil)))) (tCons (tCall (sp_law_no K A) [] E0 (tCons (tVar 4) (tCons (tVar 5) (tCons (tVar 6) tNil)))) (tCons (tCall (sp_law_plain K A) [] E0 (tCons (tVar 4) (tCons (tVar 5) (tCons (tVar 6) tNil)))) tNil)))) (t_law_5 K A))
def t_law_3 (K : PySem.W.Frag) (A : Ad) : TS := (tSeq (tAsg (tLc (iRng1 (tCons (tC (.int 4)) tNil)) (gName 18) tYes (tCall (sp_law_pick K A) [] E0 (tCons (tVar 1) (tCons (tVar 2) tNil))) [18]) (gLst K 4 (gCons (gName 4) (gCons (gName 5) (gCons (gName 6) (gCons (gName 7) gNil)))))) (t_law_4 K A))
def t_law_19 (K : PySem.W.Frag) (A : Ad) : TS := (tRet (tC (.bl true)))
def t_law_2 (K : PySem.W.Frag) (A : Ad) : TS := (tSeq (tFor (iRng1 (tCons (tC (.int 5)) tNil)) (gName 3)
    (t_law_3 K A)) (t_law_19 K A))
def t_law_1 (K : PySem.W.Frag) (A : Ad) : TS := (tSeq (tAsg (tLstN (tCons (tC .non) (tCons (tC (.int 0)) (tCons (tC (.int 5)) (tCons (tC (.str "")) (tCons (tC (.str "a")) (tCons (tTup (tCons (tC (.int 1)) (tCons (tC (.str "x")) tNil))) (tCons (tLstN (tCons (tC (.int 2)) tNil)) (tCons (tDisp [((tC (.str "k")), (tC .non))]) (tCons (tUn uNeg (tOp oPow (tC (.int 10)) (tC (.int 40)))) tNil)))))))))) (gName 2)) (t_law_2 K A))
def t_law_0 (K : PySem.W.Frag) (A : Ad) : TS := (tSeq (tAsg (tCall (sp_law_pen K A) [] E0 (tCons (tVar 0) tNil)) (gName 1)) (t_law_1 K A))

theorem list19 {α : Type} {l : List α} (h : l.length = 19) : ∃ a0 a1 a2 a3 a4 a5 a6 a7 a8 a9 a10 a11 a12 a13 a14 a15 a16 a17 a18, l = [a0, a1, a2, a3, a4, a5, a6, a7, a8, a9, a10, a11, a12, a13, a14, a15, a16, a17, a18] := by
  match l, h with
  | [a0, a1, a2, a3, a4, a5, a6, a7, a8, a9, a10, a11, a12, a13, a14, a15, a16, a17, a18], _ => exact ⟨_, _, _, _, _, _, _, _, _, _, _, _, _, _, _, _, _, _, _, rfl⟩
/-- the lists of rows that stand in a lap -/
structure Lap (A : Ad) (H : Hp) (w : Thr) (x y z : W9) (L1 L2 L3 : Addr) (r1 r2 r3 : List R5) : Prop where
  S : Sts H w
  nl : w.l ≠ sysModules
  l1 : H L1 = some (.lst (r1.map fun r => V.ref r.t))
  l2 : H L2 = some (.lst (r2.map fun r => V.ref r.t))
  l3 : H L3 = some (.lst (r3.map fun r => V.ref r.t))
  R1 : Rows A H w x y z [.Enough, .Fits, .Cut] r1
  R2 : Rows A H w x y z [.Never, .Beyond, .EndlessCut] r2
  R3 : Rows A H w x y z [.Table, .Ring, .Mean, .Lengths] r3
theorem Lap.grow {A : Ad} {H H' : Hp} {w : Thr} {x y z : W9} {L1 L2 L3 : Addr} {r1 r2 r3 : List R5} (h : Lap A H w x y z L1 L2 L3 r1 r2 r3) (g : Grow H H') : Lap A H' w x y z L1 L2 L3 r1 r2 r3 :=
  ⟨h.S.grow g, h.nl, g _ _ h.l1, g _ _ h.l2, g _ _ h.l3, h.R1.grow g, h.R2.grow g, h.R3.grow g⟩
section
variable {K : PySem.W.Frag} {A : Ad} {H : Hp} {w : Thr} {x y z : W9} {L1 L2 L3 : Addr} {r1 r2 r3 : List R5} {Q : VK}
theorem Lap.rows (h : Lap A H w x y z L1 L2 L3 r1 r2 r3) : Rows A H w x y z P10.all (r1 ++ r2 ++ r3) := (h.R1.app h.R2).app h.R3
theorem Lap.rows2 (h : Lap A H w x y z L1 L2 L3 r1 r2 r3) : Rows A H w x y z V6 (r1 ++ r2) := h.R1.app h.R2
theorem Lap.cat2 (h : Lap A H w x y z L1 L2 L3 r1 r2 r3) (k : ∀ p H', Grow H H' → H' p = some (.lst ((r1 ++ r2).map fun r => V.ref r.t)) → Q (.ref p) H') : oAdd (.ref L1) (.ref L2) H Q := by
  have e1 := h.R1.len
  have e2 := h.R2.len
  refine catE h.l1 h.l2 (by rw [List.length_map, List.length_map, e1, e2]; decide) fun p H' g hp => ?_
  rw [← List.map_append] at hp
  exact k p H' g hp
theorem Lap.cat3 (h : Lap A H w x y z L1 L2 L3 r1 r2 r3) (k : ∀ p H', Grow H H' → H' p = some (.lst ((r1 ++ r2 ++ r3).map fun r => V.ref r.t)) → Q (.ref p) H') : oAdd (.ref L1) (.ref L2) H fun v H1 => oAdd v (.ref L3) H1 Q := by
  refine h.cat2 fun p H1 g hp => ?_
  have e1 := h.R1.len
  have e2 := h.R2.len
  have e3 := h.R3.len
  refine catE hp (g _ _ h.l3) (by rw [List.length_map, List.length_map, List.length_append, e1, e2, e3]; decide) fun p H' g2 hp => ?_
  rw [← List.map_append] at hp
  exact k p H' (g.trans g2) hp
end
theorem bl_list {H : Hp} {l q : Addr} {bs cs : List Bool} {K : PySem.W.Frag} {Q : VK} (h1 : H l = some (.lst (bs.map V.bl))) (h2 : H q = some (.lst (cs.map V.bl))) (hb : SeqAt.shaped (.list (bs.map PyData.bool)) = true) (hc : SeqAt.shaped (.list (cs.map PyData.bool)) = true) (k : Q (.bl (!PyData.eqv (.list (bs.map PyData.bool)) (.list (cs.map PyData.bool)))) H) :
    oNe K (.ref l) (.ref q) H Q := by
  have e1 : dataF 8 H (.ref l) = some (.list (bs.map PyData.bool)) := by
    simp only [dataF, h1]
    rw [data_bools]
    rfl
  have e2 : dataF 8 H (.ref q) = some (.list (cs.map PyData.bool)) := by
    simp only [dataF, h2]
    rw [data_bools]
    rfl
  simp only [oNe, e1, e2]
  exact ⟨hb, hc, k⟩
theorem P10.inj : ∀ a, a < 10 → ∀ b, b < 10 → P10.all[a]? = P10.all[b]? → a = b := by decide
theorem range_one : ∀ j, j < 10 → (List.range 10).filter (fun x => decide (x = j)) = [j] := by decide
theorem verd6 : ∀ i : P10, i ∈ V6 → i.verd = true := by intro i h; revert h; cases i <;> decide
theorem pure_law {K : PySem.W.Frag} {A : Ad} {vs : List V} {H : Hp} {Q : VK} {E : XK} (F : KF K A) (h : sp_law K A vs H Q E) : (t_law_0 K A) { nx := fun _ H' => Q .non H', rt := Q } (start ["_law_script", "_law_pen_here", "_law_some", "_law_turn", "_law_x", "_law_y", "_law_z", "_law_w", "_law_yes_here", "_law_no_here", "_law_plain_here", "_law_one", "_law_other", "_law_told", "_law_due", "_law_late", "_law_at", "_law_row", "_law_again"] vs) H := by
  unfold sp_law spLaw at h
  split at h
  · rename_i sc
    obtain ⟨⟨ns, hs⟩, k⟩ := h
    have hsz : sizeLine = 16777216 := rfl
    show (t_law_0 K A) _ [some (.ref sc), none, none, none, none, none, none, none, none, none, none, none, none, none, none, none, none, none, none] H
    refine st_seq (st_asg ?_)
    (refine evE ?P159 (fun Q h => ?h159) ?_; (case h159 => (simp only [tTest, tOp, tUn, tVar, tC, tCB, tCons, tNil, tAnd, tOr, tNot, tB, tTup, tLst, tIf, tAndV, tOrV, tNotV, tSl, tPart, tNoPart, tCall, iIx_ref, oGt_int, oMod_int, oFdiv_int, oAdd_int, oAdd_str, oSub_int, oMul_int, oLt_int, oGe_int, oLe_int, oPow_int, uNeg_int, oEq_int, oEq_str, oEq_bl, oNe_int, oNe_str, oNe_bl, cInt_int, cInt_bl, cAbs_int, cLen_ref, cList_ref, stL_ref, gName, gSub, gTup, gCons, gNil, rdSeq, List.getElem?_cons_zero, List.getElem?_cons_succ, List.set_cons_zero, List.set_cons_succ, List.cons_append, List.nil_append, Option.some.injEq, exists_eq_left', V.bl.injEq, V.int.injEq, V.ref.injEq, atI_0, atI_1, atI_2, setI_1, setI_2, Bool.not_true, Bool.not_false, Bool.false_eq_true, if_false, if_true]; exact h)); (try dsimp only [gName, tNext, List.set_cons_zero, List.set_cons_succ]))
    refine ⟨ns, hs, fun p l H1 hp g0 _ => ?_⟩
    (try dsimp only [gName, tNext, List.set_cons_zero, List.set_cons_succ])
    show t_law_1 K A _ _ _
    refine st_seq (st_asg ?_)
    (refine evE ?P169 (fun Q h => ?h169) ?_; (case h169 => (simp only [tTest, tOp, tUn, tVar, tC, tCB, tCons, tNil, tAnd, tOr, tNot, tB, tTup, tLst, tIf, tAndV, tOrV, tNotV, tSl, tPart, tNoPart, tCall, iIx_ref, oGt_int, oMod_int, oFdiv_int, oAdd_int, oAdd_str, oSub_int, oMul_int, oLt_int, oGe_int, oLe_int, oPow_int, uNeg_int, oEq_int, oEq_str, oEq_bl, oNe_int, oNe_str, oNe_bl, cInt_int, cInt_bl, cAbs_int, cLen_ref, cList_ref, stL_ref, gName, gSub, gTup, gCons, gNil, rdSeq, List.getElem?_cons_zero, List.getElem?_cons_succ, List.set_cons_zero, List.set_cons_succ, List.cons_append, List.nil_append, Option.some.injEq, exists_eq_left', V.bl.injEq, V.int.injEq, V.ref.injEq, atI_0, atI_1, atI_2, setI_1, setI_2, Bool.not_true, Bool.not_false, Bool.false_eq_true, if_false, if_true, tLstN]; exact h)))
    refine ⟨by show 2 ≤ sizeLine; decide, fun t9 ht9 => ?_⟩
    refine ⟨by show 1 ≤ sizeLine; decide, fun l9 hl9 nl9 => ?_⟩
    unfold tDisp
    intro d9 hd9
    dsimp only [tPairs, tC]
    refine ⟨upd_same, [(.inr "k", .non)], rfl, by decide, ?_⟩
    refine ⟨by simp only [CPow]; decide, by show 9 ≤ sizeLine; decide, fun s9 hs9 ns9 => ?_⟩
    have ga := Grow.new (o := .tup [V.int 1, V.str "x"]) ht9
    have gb := Grow.new (o := .lst [V.int 2]) hl9
    have gc := Grow.new (o := .dK []) hd9
    have hd9' : ∀ a o, (upd (upd H1 t9 (.tup [V.int 1, V.str "x"])) l9 (.lst [V.int 2])) a = some o → a ≠ d9 := fun a o e z => by rw [z, hd9] at e; cases e
    have gd : ∀ o2, Grow (upd (upd H1 t9 (.tup [V.int 1, V.str "x"])) l9 (.lst [V.int 2])) (upd (upd (upd (upd H1 t9 (.tup [V.int 1, V.str "x"])) l9 (.lst [V.int 2])) d9 (.dK [])) d9 o2) := fun o2 b o e => by rw [upd_ne (hd9' b o e), upd_ne (hd9' b o e)]; exact e
    have ge := Grow.new (o := .lst [V.non, V.int 0, V.int 5, V.str (Str.ofString ""), V.str (Str.ofString "a"), V.ref t9, V.ref l9, V.ref d9, V.int (-10 ^ Int.toNat 40)]) hs9
    have S : Sts (upd (upd (upd (upd (upd H1 t9 (.tup [V.int 1, V.str "x"])) l9 (.lst [V.int 2])) d9 (.dK [])) d9 (.dK (mergeK [] [(Sum.inr (Str.ofString "k"), V.non)]))) s9 (.lst [V.non, V.int 0, V.int 5, V.str (Str.ofString ""), V.str (Str.ofString "a"), V.ref t9, V.ref l9, V.ref d9, V.int (-10 ^ Int.toNat 40)])) ⟨t9, l9, d9⟩ :=
      ⟨ge _ _ (gd _ _ _ (gb _ _ upd_same)), ge _ _ (gd _ _ _ upd_same), ge _ _ upd_same⟩
    have hs2 : (upd (upd (upd (upd (upd H1 t9 (.tup [V.int 1, V.str "x"])) l9 (.lst [V.int 2])) d9 (.dK [])) d9 (.dK (mergeK [] [(Sum.inr (Str.ofString "k"), V.non)]))) s9 (.lst [V.non, V.int 0, V.int 5, V.str (Str.ofString ""), V.str (Str.ofString "a"), V.ref t9, V.ref l9, V.ref d9, V.int (-10 ^ Int.toNat 40)])) s9 = some (.lst (all9.map (W9.v ⟨t9, l9, d9⟩))) := upd_same
    have hp2 := hp.grow (ga.trans (gb.trans ((gd _).trans ge)))
    (try dsimp only [gName, tNext, List.set_cons_zero, List.set_cons_succ])
    show t_law_2 K A _ _ _
    generalize upd _ s9 _ = H2 at *
    have nl : (Thr.mk t9 l9 d9).l ≠ sysModules := nl9
    generalize (⟨t9, l9, d9⟩ : Thr) = w at *
    clear hs ht9 hl9 hd9 hs9 ga gb gc hd9' gd ge hp g0 ns9 nl9 H1
    refine st_seq (for_rng1 ?_)
    (refine evA ?P170 (fun Q h => ?h170) ?_; (case h170 => (simp only [tTest, tOp, tUn, tVar, tC, tCB, tCons, tNil, tAnd, tOr, tNot, tB, tTup, tLst, tIf, tAndV, tOrV, tNotV, tSl, tPart, tNoPart, tCall, iIx_ref, oGt_int, oMod_int, oFdiv_int, oAdd_int, oAdd_str, oSub_int, oMul_int, oLt_int, oGe_int, oLe_int, oPow_int, uNeg_int, oEq_int, oEq_str, oEq_bl, oNe_int, oNe_str, oNe_bl, cInt_int, cInt_bl, cAbs_int, cLen_ref, cList_ref, stL_ref, gName, gSub, gTup, gCons, gNil, rdSeq, List.getElem?_cons_zero, List.getElem?_cons_succ, List.set_cons_zero, List.set_cons_succ, List.cons_append, List.nil_append, Option.some.injEq, exists_eq_left', V.bl.injEq, V.int.injEq, V.ref.injEq, atI_0, atI_1, atI_2, setI_1, setI_2, Bool.not_true, Bool.not_false, Bool.false_eq_true, if_false, if_true]; exact h)))
    refine ⟨5, rfl, by decide, by decide, ?_⟩
    refine for_itr (fun i σ H => σ.length = 19 ∧ σ[1]? = some (some (.ref p)) ∧ σ[2]? = some (some (.ref s9)) ∧ PenL H p l (4 * i) ∧ Sts H w ∧ H s9 = some (.lst (all9.map (W9.v w)))) ?_ (fun σ H h => ?_) (fun i σ H hi h => ?_)
    · exact ⟨rfl, rfl, rfl, hp2, S, hs2⟩
    · (try dsimp only [gName, tNext, List.set_cons_zero, List.set_cons_succ])
      show t_law_19 K A _ _ _
      refine st_ret ?_
      (refine evE ?P160 (fun Q h => ?h160) ?_; (case h160 => (simp only [tTest, tOp, tUn, tVar, tC, tCB, tCons, tNil, tAnd, tOr, tNot, tB, tTup, tLst, tIf, tAndV, tOrV, tNotV, tSl, tPart, tNoPart, tCall, iIx_ref, oGt_int, oMod_int, oFdiv_int, oAdd_int, oAdd_str, oSub_int, oMul_int, oLt_int, oGe_int, oLe_int, oPow_int, uNeg_int, oEq_int, oEq_str, oEq_bl, oNe_int, oNe_str, oNe_bl, cInt_int, cInt_bl, cAbs_int, cLen_ref, cList_ref, stL_ref, gName, gSub, gTup, gCons, gNil, rdSeq, List.getElem?_cons_zero, List.getElem?_cons_succ, List.set_cons_zero, List.set_cons_succ, List.cons_append, List.nil_append, Option.some.injEq, exists_eq_left', V.bl.injEq, V.int.injEq, V.ref.injEq, atI_0, atI_1, atI_2, setI_1, setI_2, Bool.not_true, Bool.not_false, Bool.false_eq_true, if_false, if_true]; exact h)); (try dsimp only [gName, tNext, List.set_cons_zero, List.set_cons_succ]))
      exact k _
    · clear hp2 S hs2 H2
      obtain ⟨hl, h1, h2, hp, S, hs⟩ := h
      obtain ⟨a0, a1, a2, a3, a4, a5, a6, a7, a8, a9, a10, a11, a12, a13, a14, a15, a16, a17, a18, rfl⟩ := list19 hl
      have e1 : a1 = some (.ref p) := Option.some.inj h1
      have e2 : a2 = some (.ref s9) := Option.some.inj h2
      subst e1 e2
      clear hl h1 h2
      have nsp : s9 ≠ p := fun z => by
        obtain ⟨c, t, r, q1, _⟩ := hp
        rw [z, q1] at hs
        have := congrArg List.length (HO.lst.inj (Option.some.inj hs))
        simp [all9] at this
      (try dsimp only [gName, tNext, List.set_cons_zero, List.set_cons_succ])
      show t_law_3 K A _ _ _
      refine st_seq (st_asg ?_)
      refine lc_ev ?_
      unfold iRng1
      (refine evA ?P171 (fun Q h => ?h171) ?_; (case h171 => (simp only [tTest, tOp, tUn, tVar, tC, tCB, tCons, tNil, tAnd, tOr, tNot, tB, tTup, tLst, tIf, tAndV, tOrV, tNotV, tSl, tPart, tNoPart, tCall, iIx_ref, oGt_int, oMod_int, oFdiv_int, oAdd_int, oAdd_str, oSub_int, oMul_int, oLt_int, oGe_int, oLe_int, oPow_int, uNeg_int, oEq_int, oEq_str, oEq_bl, oNe_int, oNe_str, oNe_bl, cInt_int, cInt_bl, cAbs_int, cLen_ref, cList_ref, stL_ref, gName, gSub, gTup, gCons, gNil, rdSeq, List.getElem?_cons_zero, List.getElem?_cons_succ, List.set_cons_zero, List.set_cons_succ, List.cons_append, List.nil_append, Option.some.injEq, exists_eq_left', V.bl.injEq, V.int.injEq, V.ref.injEq, atI_0, atI_1, atI_2, setI_1, setI_2, Bool.not_true, Bool.not_false, Bool.false_eq_true, if_false, if_true]; exact h)))
      refine ⟨4, rfl, by decide, by decide, ?_⟩
      obtain ⟨z1, z2, z3⟩ := keep_rng (p := p) (H1 := H) (lo := 0) (n := 4)
      refine lc_pen (fun v => ∃ i : W9, v = i.v w) 1 hp z1 z2 z3 (by decide) (fun q hq H' hp' k' R hR => ?_) (fun D H2 vs hvl hvs hp2 k2 hD hd => ?_) (by exact fun x => rfl)
      · (refine evE ?P161 (fun Q h => ?h161) ?_; (case h161 => (simp only [tTest, tOp, tUn, tVar, tC, tCB, tCons, tNil, tAnd, tOr, tNot, tB, tTup, tLst, tIf, tAndV, tOrV, tNotV, tSl, tPart, tNoPart, tCall, iIx_ref, oGt_int, oMod_int, oFdiv_int, oAdd_int, oAdd_str, oSub_int, oMul_int, oLt_int, oGe_int, oLe_int, oPow_int, uNeg_int, oEq_int, oEq_str, oEq_bl, oNe_int, oNe_str, oNe_bl, cInt_int, cInt_bl, cAbs_int, cLen_ref, cList_ref, stL_ref, gName, gSub, gTup, gCons, gNil, rdSeq, List.getElem?_cons_zero, List.getElem?_cons_succ, List.set_cons_zero, List.set_cons_succ, List.cons_append, List.nil_append, Option.some.injEq, exists_eq_left', V.bl.injEq, V.int.injEq, V.ref.injEq, atI_0, atI_1, atI_2, setI_1, setI_2, Bool.not_true, Bool.not_false, Bool.false_eq_true, if_false, if_true, wipe]; exact h)); (try dsimp only [gName, tNext, List.set_cons_zero, List.set_cons_succ]))
        refine ⟨l, _, _, hp', by omega, k' _ _ nsp hs, nsp, by simp [all9], by simp [all9], fun y H3 hy hp3 k3 => ?_⟩
        obtain ⟨i, _, e⟩ := List.mem_map.mp hy
        exact hR y H3 ⟨i, e.symm⟩ (hp3.up (by omega)) k3
      · obtain ⟨v0, v1, v2, v3, rfl⟩ := len4 hvl
        obtain ⟨x, rfl⟩ := hvs v0 (by simp)
        obtain ⟨y, rfl⟩ := hvs v1 (by simp)
        obtain ⟨z, rfl⟩ := hvs v2 (by simp)
        obtain ⟨u, rfl⟩ := hvs v3 (by simp)
        replace S := S.keep hp k2
        replace hs := k2 _ _ nsp hs
        clear hvs hvl z1 z2 z3
        refine ⟨D, _, rfl, SqL.of hd, rfl, ?_⟩
        clear hd hD k2
        simp only [tTest, tOp, tUn, tVar, tC, tCB, tCons, tNil, tAnd, tOr, tNot, tB, tTup, tLst, tIf, tAndV, tOrV, tNotV, tSl, tPart, tNoPart, tCall, iIx_ref, oGt_int, oMod_int, oFdiv_int, oAdd_int, oAdd_str, oSub_int, oMul_int, oLt_int, oGe_int, oLe_int, oPow_int, uNeg_int, oEq_int, oEq_str, oEq_bl, oNe_int, oNe_str, oNe_bl, cInt_int, cInt_bl, cAbs_int, cLen_ref, cList_ref, stL_ref, gName, gSub, gTup, gCons, gNil, rdSeq, List.getElem?_cons_zero, List.getElem?_cons_succ, List.set_cons_zero, List.set_cons_succ, List.cons_append, List.nil_append, Option.some.injEq, exists_eq_left', V.bl.injEq, V.int.injEq, V.ref.injEq, atI_0, atI_1, atI_2, setI_1, setI_2, Bool.not_true, Bool.not_false, Bool.false_eq_true, if_false, if_true]
        refine ⟨_, _, rfl, _, _, rfl, _, _, rfl, _, _, rfl, rfl, ?_⟩
        (try dsimp only [gName, tNext, List.set_cons_zero, List.set_cons_succ])
        show t_law_4 K A _ _ _
        refine st_seq ?_
        unfold tPar3
        (refine evA ?P162 (fun Q h => ?h162) ?_; (case h162 => (simp only [tTest, tOp, tUn, tVar, tC, tCB, tCons, tNil, tAnd, tOr, tNot, tB, tTup, tLst, tIf, tAndV, tOrV, tNotV, tSl, tPart, tNoPart, tCall, iIx_ref, oGt_int, oMod_int, oFdiv_int, oAdd_int, oAdd_str, oSub_int, oMul_int, oLt_int, oGe_int, oLe_int, oPow_int, uNeg_int, oEq_int, oEq_str, oEq_bl, oNe_int, oNe_str, oNe_bl, cInt_int, cInt_bl, cAbs_int, cLen_ref, cList_ref, stL_ref, gName, gSub, gTup, gCons, gNil, rdSeq, List.getElem?_cons_zero, List.getElem?_cons_succ, List.set_cons_zero, List.set_cons_succ, List.cons_append, List.nil_append, Option.some.injEq, exists_eq_left', V.bl.injEq, V.int.injEq, V.ref.injEq, atI_0, atI_1, atI_2, setI_1, setI_2, Bool.not_true, Bool.not_false, Bool.false_eq_true, if_false, if_true]; exact h)); (try dsimp only [gName, tNext, List.set_cons_zero, List.set_cons_succ]))
        refine ⟨w, x, y, z, S, rfl, rfl, rfl, fun L1 r1 H3 g3 n3 e3 R1 => ?_⟩
        refine ⟨w, x, y, z, S.grow g3, rfl, rfl, rfl, fun L2 r2 H4 g4 n4 e4 R2 => ?_⟩
        refine ⟨w, x, y, z, S.grow (g3.trans g4), rfl, rfl, rfl, fun L3 r3 H5 g5 n5 e5 R3 => ?_⟩
        refine ⟨_, _, _, rfl, ?_⟩
        have M : Lap A H5 w x y z L1 L2 L3 r1 r2 r3 := ⟨S.grow (g3.trans (g4.trans g5)), nl, (g4.trans g5) _ _ e3, g5 _ _ e4, e5, ⟨R1.grow (g4.trans g5)⟩, ⟨R2.grow g5⟩, ⟨R3⟩⟩
        replace hp := hp2.grow (g3.trans (g4.trans g5))
        replace hs := (g3.trans (g4.trans g5)) _ _ hs
        clear S hp2 g3 g4 g5 n3 n4 n5 e3 e4 e5 R1 R2 R3 H2 H3 H4
        (try dsimp only [gName, tNext, List.set_cons_zero, List.set_cons_succ])
        show t_law_5 K A _ _ _
        refine st_seq (for_seq ?_)
        (refine evE ?P172 (fun Q h => ?h172) ?_; (case h172 => (simp only [tTest, tOp, tUn, tVar, tC, tCB, tCons, tNil, tAnd, tOr, tNot, tB, tTup, tLst, tIf, tAndV, tOrV, tNotV, tSl, tPart, tNoPart, tCall, iIx_ref, oGt_int, oMod_int, oFdiv_int, oAdd_int, oAdd_str, oSub_int, oMul_int, oLt_int, oGe_int, oLe_int, oPow_int, uNeg_int, oEq_int, oEq_str, oEq_bl, oNe_int, oNe_str, oNe_bl, cInt_int, cInt_bl, cAbs_int, cLen_ref, cList_ref, stL_ref, gName, gSub, gTup, gCons, gNil, rdSeq, List.getElem?_cons_zero, List.getElem?_cons_succ, List.set_cons_zero, List.set_cons_succ, List.cons_append, List.nil_append, Option.some.injEq, exists_eq_left', V.bl.injEq, V.int.injEq, V.ref.injEq, atI_0, atI_1, atI_2, setI_1, setI_2, Bool.not_true, Bool.not_false, Bool.false_eq_true, if_false, if_true]; exact h)))
        refine M.cat3 fun c1 H6 g6 hc1 => ?_
        replace M := M.grow g6
        replace hp := hp.grow g6
        replace hs := g6 _ _ hs
        clear g6 H5
        refine seqW (xs := (r1 ++ r2 ++ r3).map fun r => V.ref r.t) (.l hc1) fun J hJ => ?_
        refine for_jok hJ (fun j σ H => Grow H6 H ∧ ∃ b11 b12 b13 b14, σ = [a0, some (.ref p), some (.ref s9), some (.int (0 + (i : Int))), some (W9.v w x), some (W9.v w y), some (W9.v w z), some (W9.v w u), some (.ref L1), some (.ref L2), some (.ref L3), b11, b12, b13, b14, a15, a16, a17, a18]) ?_ (fun _ _ _ h => h.1) (fun σ H h => ?_) (fun j σ H hj h => ?_)
        · exact ⟨.refl, _, _, _, _, rfl⟩
        rotate_left
        · obtain ⟨g7, b11, b12, b13, b14, rfl⟩ := h
          have M7 := M.grow g7
          rw [List.length_map, M7.rows.len] at hj
          obtain ⟨ic, r, ei, er, R, eg⟩ := M7.rows.get hj
          rw [eg]
          refine ⟨r.t, _, rfl, SqT.of R.ht, rfl, ?_⟩
          simp only [tTest, tOp, tUn, tVar, tC, tCB, tCons, tNil, tAnd, tOr, tNot, tB, tTup, tLst, tIf, tAndV, tOrV, tNotV, tSl, tPart, tNoPart, tCall, iIx_ref, oGt_int, oMod_int, oFdiv_int, oAdd_int, oAdd_str, oSub_int, oMul_int, oLt_int, oGe_int, oLe_int, oPow_int, uNeg_int, oEq_int, oEq_str, oEq_bl, oNe_int, oNe_str, oNe_bl, cInt_int, cInt_bl, cAbs_int, cLen_ref, cList_ref, stL_ref, gName, gSub, gTup, gCons, gNil, rdSeq, List.getElem?_cons_zero, List.getElem?_cons_succ, List.set_cons_zero, List.set_cons_succ, List.cons_append, List.nil_append, Option.some.injEq, exists_eq_left', V.bl.injEq, V.int.injEq, V.ref.injEq, atI_0, atI_1, atI_2, setI_1, setI_2, Bool.not_true, Bool.not_false, Bool.false_eq_true, if_false, if_true]
          refine ⟨_, _, rfl, _, _, rfl, _, _, rfl, _, _, rfl, rfl, ?_⟩
          (try dsimp only [gName, tNext, List.set_cons_zero, List.set_cons_succ])
          show t_law_6 K A _ _ _
          refine st_seq (st_if ?_)
          (refine evT ?P163 (fun Q h => ?h163) ?_; (case h163 => (simp only [tTest, tOp, tUn, tVar, tC, tCB, tCons, tNil, tAnd, tOr, tNot, tB, tTup, tLst, tIf, tAndV, tOrV, tNotV, tSl, tPart, tNoPart, tCall, iIx_ref, oGt_int, oMod_int, oFdiv_int, oAdd_int, oAdd_str, oSub_int, oMul_int, oLt_int, oGe_int, oLe_int, oPow_int, uNeg_int, oEq_int, oEq_str, oEq_bl, oNe_int, oNe_str, oNe_bl, cInt_int, cInt_bl, cAbs_int, cLen_ref, cList_ref, stL_ref, gName, gSub, gTup, gCons, gNil, rdSeq, List.getElem?_cons_zero, List.getElem?_cons_succ, List.set_cons_zero, List.set_cons_succ, List.cons_append, List.nil_append, Option.some.injEq, exists_eq_left', V.bl.injEq, V.int.injEq, V.ref.injEq, atI_0, atI_1, atI_2, setI_1, setI_2, Bool.not_true, Bool.not_false, Bool.false_eq_true, if_false, if_true]; exact h)); (try dsimp only [gName, tNext, List.set_cons_zero, List.set_cons_succ]))
          have hlen : List.length (ic.val x y z) ≤ 8 := by cases ic <;> simp [P10.val]
          refine ⟨w, r.told, ic.val x y z, rfl, M7.S, R.n1, M7.nl, hlen, R.h1, ?_⟩
          refine ⟨w, r.due, ic.val x y z, rfl, M7.S, R.n2, M7.nl, hlen, R.h2, ?_⟩
          simp only [tTest, tOp, tUn, tVar, tC, tCB, tCons, tNil, tAnd, tOr, tNot, tB, tTup, tLst, tIf, tAndV, tOrV, tNotV, tSl, tPart, tNoPart, tCall, iIx_ref, oGt_int, oMod_int, oFdiv_int, oAdd_int, oAdd_str, oSub_int, oMul_int, oLt_int, oGe_int, oLe_int, oPow_int, uNeg_int, oEq_int, oEq_str, oEq_bl, oNe_int, oNe_str, oNe_bl, cInt_int, cInt_bl, cAbs_int, cLen_ref, cList_ref, stL_ref, gName, gSub, gTup, gCons, gNil, rdSeq, List.getElem?_cons_zero, List.getElem?_cons_succ, List.set_cons_zero, List.set_cons_succ, List.cons_append, List.nil_append, Option.some.injEq, exists_eq_left', V.bl.injEq, V.int.injEq, V.ref.injEq, atI_0, atI_1, atI_2, setI_1, setI_2, Bool.not_true, Bool.not_false, Bool.false_eq_true, if_false, if_true]
          rw [decide_eq_true trivial]
          refine if_no ?_
          refine ne_same M7.S R.p1 R.p2 fun H8 g8 => ?_
          rw [decide_eq_true rfl]
          refine ⟨_, rfl, if_no ?_⟩
          have M8 := M7.grow g8
          replace R := R.grow g8
          refine ⟨r.due, _, rfl, .inl ⟨SqL.of R.h2, fun q hq => ?_⟩⟩
          have g9 := Grow.new (o := .tup ((ic.val x y z).map (W9.v w))) hq
          replace M8 := M8.grow g9
          replace R := R.grow g9
          refine eq_tup F M8.S R.p1 (xs := (ic.val x y z).map (W9.v w)) upd_same ?_
          refine ⟨_, rfl, if_no ?_⟩
          refine eq_lst F M8.S R.p1 R.h2 ?_
          refine ⟨_, rfl, if_no ?_⟩
          simp only [tTest, tOp, tUn, tVar, tC, tCB, tCons, tNil, tAnd, tOr, tNot, tB, tTup, tLst, tIf, tAndV, tOrV, tNotV, tSl, tPart, tNoPart, tCall, iIx_ref, oGt_int, oMod_int, oFdiv_int, oAdd_int, oAdd_str, oSub_int, oMul_int, oLt_int, oGe_int, oLe_int, oPow_int, uNeg_int, oEq_int, oEq_str, oEq_bl, oNe_int, oNe_str, oNe_bl, cInt_int, cInt_bl, cAbs_int, cLen_ref, cList_ref, stL_ref, gName, gSub, gTup, gCons, gNil, rdSeq, List.getElem?_cons_zero, List.getElem?_cons_succ, List.set_cons_zero, List.set_cons_succ, List.cons_append, List.nil_append, Option.some.injEq, exists_eq_left', V.bl.injEq, V.int.injEq, V.ref.injEq, atI_0, atI_1, atI_2, setI_1, setI_2, Bool.not_true, Bool.not_false, Bool.false_eq_true, if_false, if_true, oIs]
          (try dsimp only [gName, tNext, List.set_cons_zero, List.set_cons_succ])
          show t_law_8 K A _ _ _
          replace g7 := g7.trans (g8.trans g9)
          clear M7
          generalize upd H8 q _ = H9 at *
          clear g8 g9 hq H8 H
          refine st_ifcmp ?_
          refine lc_ev ?_
          unfold iSeq
          (refine evE ?P173 (fun Q h => ?h173) ?_; (case h173 => (simp only [tTest, tOp, tUn, tVar, tC, tCB, tCons, tNil, tAnd, tOr, tNot, tB, tTup, tLst, tIf, tAndV, tOrV, tNotV, tSl, tPart, tNoPart, tCall, iIx_ref, oGt_int, oMod_int, oFdiv_int, oAdd_int, oAdd_str, oSub_int, oMul_int, oLt_int, oGe_int, oLe_int, oPow_int, uNeg_int, oEq_int, oEq_str, oEq_bl, oNe_int, oNe_str, oNe_bl, cInt_int, cInt_bl, cAbs_int, cLen_ref, cList_ref, stL_ref, gName, gSub, gTup, gCons, gNil, rdSeq, List.getElem?_cons_zero, List.getElem?_cons_succ, List.set_cons_zero, List.set_cons_succ, List.cons_append, List.nil_append, Option.some.injEq, exists_eq_left', V.bl.injEq, V.int.injEq, V.ref.injEq, atI_0, atI_1, atI_2, setI_1, setI_2, Bool.not_true, Bool.not_false, Bool.false_eq_true, if_false, if_true]; exact h)))
          refine M8.cat3 fun c2 H10 g10 hc2 => ?_
          have M10 := M8.grow g10
          replace R := R.grow g10
          refine seqW (xs := (r1 ++ r2 ++ r3).map fun r => V.ref r.t) (.l hc2) fun J2 hJ2 => ?_
          have hlen : ((r1 ++ r2 ++ r3).map fun r => V.ref r.t).length = 10 := by rw [List.length_map, M10.rows.len]; rfl
          rw [hlen] at hJ2
          refine lc_filter hJ2 (fun j2 => decide (j2 = j)) (fun j2 => ((r1 ++ r2 ++ r3).map fun r => V.ref r.t).getD j2 .non) (by decide) (fun j2 hj2 H' g' R' hR => ?_) (fun j2 hj2 _ H' g' R' hR => ?_) (fun D2 H' g' _ hD2 => ?_) (by exact fun x => rfl)
          · obtain ⟨i2, q2, ei2, er2, R2, eg2⟩ := (M10.grow g').rows.get (show j2 < P10.all.length from hj2)
            rw [eg2]
            (refine evT ?P164 (fun Q h => ?h164) ?_; (case h164 => (simp only [tTest, tOp, tUn, tVar, tC, tCB, tCons, tNil, tAnd, tOr, tNot, tB, tTup, tLst, tIf, tAndV, tOrV, tNotV, tSl, tPart, tNoPart, tCall, iIx_ref, oGt_int, oMod_int, oFdiv_int, oAdd_int, oAdd_str, oSub_int, oMul_int, oLt_int, oGe_int, oLe_int, oPow_int, uNeg_int, oEq_int, oEq_str, oEq_bl, oNe_int, oNe_str, oNe_bl, cInt_int, cInt_bl, cAbs_int, cLen_ref, cList_ref, stL_ref, gName, gSub, gTup, gCons, gNil, rdSeq, List.getElem?_cons_zero, List.getElem?_cons_succ, List.set_cons_zero, List.set_cons_succ, List.cons_append, List.nil_append, Option.some.injEq, exists_eq_left', V.bl.injEq, V.int.injEq, V.ref.injEq, atI_0, atI_1, atI_2, setI_1, setI_2, Bool.not_true, Bool.not_false, Bool.false_eq_true, if_false, if_true, wipe]; exact h)); (try dsimp only [gName, tNext, List.set_cons_zero, List.set_cons_succ]))
            refine ixE (.t R2.ht) rfl ?_
            by_cases e : j2 = j
            · subst e
              have e1 : i2 = ic := Option.some.inj (ei2.symm.trans ei)
              subst e1
              refine eq_same F (M10.S.grow g') R2.p1 (R.p1.grow g') fun H11 g11 => ?_
              rw [decide_eq_true rfl]
              rw [decide_eq_true rfl] at hR
              exact ⟨_, rfl, hR _ g11⟩
            · refine eq_other F (M10.S.grow g') R2.p1 (R.p1.grow g') (fun z => e (P10.inj j2 hj2 j hj (by rw [ei2, ei, z]))) ?_
              rw [decide_eq_false e] at hR
              exact ⟨_, rfl, hR _ .refl⟩
          · (refine evE ?P165 (fun Q h => ?h165) ?_; (case h165 => (simp only [tTest, tOp, tUn, tVar, tC, tCB, tCons, tNil, tAnd, tOr, tNot, tB, tTup, tLst, tIf, tAndV, tOrV, tNotV, tSl, tPart, tNoPart, tCall, iIx_ref, oGt_int, oMod_int, oFdiv_int, oAdd_int, oAdd_str, oSub_int, oMul_int, oLt_int, oGe_int, oLe_int, oPow_int, uNeg_int, oEq_int, oEq_str, oEq_bl, oNe_int, oNe_str, oNe_bl, cInt_int, cInt_bl, cAbs_int, cLen_ref, cList_ref, stL_ref, gName, gSub, gTup, gCons, gNil, rdSeq, List.getElem?_cons_zero, List.getElem?_cons_succ, List.set_cons_zero, List.set_cons_succ, List.cons_append, List.nil_append, Option.some.injEq, exists_eq_left', V.bl.injEq, V.int.injEq, V.ref.injEq, atI_0, atI_1, atI_2, setI_1, setI_2, Bool.not_true, Bool.not_false, Bool.false_eq_true, if_false, if_true, wipe]; exact h)); (try dsimp only [gName, tNext, List.set_cons_zero, List.set_cons_succ]))
            exact hR _ .refl
          · rw [show resF (fun j2 => decide (j2 = j)) (fun j2 => ((r1 ++ r2 ++ r3).map fun r => V.ref r.t).getD j2 .non) 10 = [.ref r.t] from by
              unfold resF
              rw [range_one j hj]
              show [((r1 ++ r2 ++ r3).map fun r => V.ref r.t).getD j .non] = _
              rw [eg]] at hD2
            (refine evE ?P174 (fun Q h => ?h174) ?_; (case h174 => (simp only [tTest, tOp, tUn, tVar, tC, tCB, tCons, tNil, tAnd, tOr, tNot, tB, tTup, tLst, tIf, tAndV, tOrV, tNotV, tSl, tPart, tNoPart, tCall, iIx_ref, oGt_int, oMod_int, oFdiv_int, oAdd_int, oAdd_str, oSub_int, oMul_int, oLt_int, oGe_int, oLe_int, oPow_int, uNeg_int, oEq_int, oEq_str, oEq_bl, oNe_int, oNe_str, oNe_bl, cInt_int, cInt_bl, cAbs_int, cLen_ref, cList_ref, stL_ref, gName, gSub, gTup, gCons, gNil, rdSeq, List.getElem?_cons_zero, List.getElem?_cons_succ, List.set_cons_zero, List.set_cons_succ, List.cons_append, List.nil_append, Option.some.injEq, exists_eq_left', V.bl.injEq, V.int.injEq, V.ref.injEq, atI_0, atI_1, atI_2, setI_1, setI_2, Bool.not_true, Bool.not_false, Bool.false_eq_true, if_false, if_true, tLstN]; exact h)))
            refine ⟨by show 4 ≤ sizeLine; decide, fun tn htn => ⟨by show 1 ≤ sizeLine; decide, fun bn hbn _ => ?_⟩⟩
            have ga := Grow.new (o := .tup [V.ref r.one, V.ref r.oth, V.ref r.told, V.ref r.due]) htn
            have gb := Grow.new (o := .lst [V.ref tn]) hbn
            have ht := R.ht
            refine ⟨D2, bn, r.t, tn, [r.one, r.oth, r.told, r.due], rfl, rfl, (ga.trans gb) _ _ hD2, upd_same, ne_of_none (g' _ _ ht) htn, (g'.trans (ga.trans gb)) _ _ ht, gb _ _ upd_same, ?_⟩
            refine ⟨_, rfl, if_no ?_⟩
            exact ⟨g7.trans (g10.trans (g'.trans (ga.trans gb))), _, _, _, _, rfl⟩
        · obtain ⟨g7, b11, b12, b13, b14, rfl⟩ := h
          replace M := M.grow g7
          replace hp := hp.grow g7
          replace hs := g7 _ _ hs
          clear g7 hJ hc1 c1 J H6
          (try dsimp only [gName, tNext, List.set_cons_zero, List.set_cons_succ])
          show t_law_10 K A _ _ _
          refine st_seq (for_seq ?_)
          (refine evE ?P175 (fun Q h => ?h175) ?_; (case h175 => (simp only [tTest, tOp, tUn, tVar, tC, tCB, tCons, tNil, tAnd, tOr, tNot, tB, tTup, tLst, tIf, tAndV, tOrV, tNotV, tSl, tPart, tNoPart, tCall, iIx_ref, oGt_int, oMod_int, oFdiv_int, oAdd_int, oAdd_str, oSub_int, oMul_int, oLt_int, oGe_int, oLe_int, oPow_int, uNeg_int, oEq_int, oEq_str, oEq_bl, oNe_int, oNe_str, oNe_bl, cInt_int, cInt_bl, cAbs_int, cLen_ref, cList_ref, stL_ref, gName, gSub, gTup, gCons, gNil, rdSeq, List.getElem?_cons_zero, List.getElem?_cons_succ, List.set_cons_zero, List.set_cons_succ, List.cons_append, List.nil_append, Option.some.injEq, exists_eq_left', V.bl.injEq, V.int.injEq, V.ref.injEq, atI_0, atI_1, atI_2, setI_1, setI_2, Bool.not_true, Bool.not_false, Bool.false_eq_true, if_false, if_true]; exact h)))
          refine M.cat2 fun c1 H6 g6 hc1 => ?_
          replace M := M.grow g6
          replace hp := hp.grow g6
          replace hs := g6 _ _ hs
          clear g6 H
          refine seqW (xs := (r1 ++ r2).map fun r => V.ref r.t) (.l hc1) fun J hJ => ?_
          refine for_jok hJ (fun j σ H => H = H6 ∧ ∃ b11 b12 b13 b14, σ = [a0, some (.ref p), some (.ref s9), some (.int (0 + (i : Int))), some (W9.v w x), some (W9.v w y), some (W9.v w z), some (W9.v w u), some (.ref L1), some (.ref L2), some (.ref L3), b11, b12, b13, b14, a15, a16, a17, a18]) ?_ (fun _ _ _ h => h.1 ▸ .refl) (fun σ H h => ?_) (fun j σ H hj h => ?_)
          · exact ⟨rfl, _, _, _, _, rfl⟩
          rotate_left
          · obtain ⟨rfl, b11, b12, b13, b14, rfl⟩ := h
            rw [List.length_map, M.rows2.len] at hj
            obtain ⟨ic, r, ei, er, R, eg⟩ := M.rows2.get hj
            rw [eg]
            have hv : ic.verd = true := verd6 ic (List.mem_of_getElem? ei)
            refine ⟨r.t, _, rfl, SqT.of R.ht, rfl, ?_⟩
            simp only [tTest, tOp, tUn, tVar, tC, tCB, tCons, tNil, tAnd, tOr, tNot, tB, tTup, tLst, tIf, tAndV, tOrV, tNotV, tSl, tPart, tNoPart, tCall, iIx_ref, oGt_int, oMod_int, oFdiv_int, oAdd_int, oAdd_str, oSub_int, oMul_int, oLt_int, oGe_int, oLe_int, oPow_int, uNeg_int, oEq_int, oEq_str, oEq_bl, oNe_int, oNe_str, oNe_bl, cInt_int, cInt_bl, cAbs_int, cLen_ref, cList_ref, stL_ref, gName, gSub, gTup, gCons, gNil, rdSeq, List.getElem?_cons_zero, List.getElem?_cons_succ, List.set_cons_zero, List.set_cons_succ, List.cons_append, List.nil_append, Option.some.injEq, exists_eq_left', V.bl.injEq, V.int.injEq, V.ref.injEq, atI_0, atI_1, atI_2, setI_1, setI_2, Bool.not_true, Bool.not_false, Bool.false_eq_true, if_false, if_true]
            refine ⟨_, _, rfl, _, _, rfl, _, _, rfl, _, _, rfl, rfl, ?_⟩
            (try dsimp only [gName, tNext, List.set_cons_zero, List.set_cons_succ])
            show t_law_11 K A _ _ _
            refine st_if ?_
            have ty := R.p1.ty
            (refine evT ?P166 (fun Q h => ?h166) ?_; (case h166 => (simp only [tTest, tOp, tUn, tVar, tC, tCB, tCons, tNil, tAnd, tOr, tNot, tB, tTup, tLst, tIf, tAndV, tOrV, tNotV, tSl, tPart, tNoPart, tCall, iIx_ref, oGt_int, oMod_int, oFdiv_int, oAdd_int, oAdd_str, oSub_int, oMul_int, oLt_int, oGe_int, oLe_int, oPow_int, uNeg_int, oEq_int, oEq_str, oEq_bl, oNe_int, oNe_str, oNe_bl, cInt_int, cInt_bl, cAbs_int, cLen_ref, cList_ref, stL_ref, gName, gSub, gTup, gCons, gNil, rdSeq, List.getElem?_cons_zero, List.getElem?_cons_succ, List.set_cons_zero, List.set_cons_succ, List.cons_append, List.nil_append, Option.some.injEq, exists_eq_left', V.bl.injEq, V.int.injEq, V.ref.injEq, atI_0, atI_1, atI_2, setI_1, setI_2, Bool.not_true, Bool.not_false, Bool.false_eq_true, if_false, if_true, cIsi, ty]; exact h)); (try dsimp only [gName, tNext, List.set_cons_zero, List.set_cons_succ]))
            rw [F.kv ic hv]
            refine ⟨F.ty ic, ?_⟩
            refine if_no ?_
            exact ⟨rfl, _, _, _, _, rfl⟩
          · obtain ⟨rfl, b11, b12, b13, b14, rfl⟩ := h
            clear hJ J
            (try dsimp only [gName, tNext, List.set_cons_zero, List.set_cons_succ])
            show t_law_13 K A _ _ _
            refine st_seq (st_ifcmp ?_)
            refine lc_ev ?_
            unfold iSeq
            (refine evE ?P176 (fun Q h => ?h176) ?_; (case h176 => (simp only [tTest, tOp, tUn, tVar, tC, tCB, tCons, tNil, tAnd, tOr, tNot, tB, tTup, tLst, tIf, tAndV, tOrV, tNotV, tSl, tPart, tNoPart, tCall, iIx_ref, oGt_int, oMod_int, oFdiv_int, oAdd_int, oAdd_str, oSub_int, oMul_int, oLt_int, oGe_int, oLe_int, oPow_int, uNeg_int, oEq_int, oEq_str, oEq_bl, oNe_int, oNe_str, oNe_bl, cInt_int, cInt_bl, cAbs_int, cLen_ref, cList_ref, stL_ref, gName, gSub, gTup, gCons, gNil, rdSeq, List.getElem?_cons_zero, List.getElem?_cons_succ, List.set_cons_zero, List.set_cons_succ, List.cons_append, List.nil_append, Option.some.injEq, exists_eq_left', V.bl.injEq, V.int.injEq, V.ref.injEq, atI_0, atI_1, atI_2, setI_1, setI_2, Bool.not_true, Bool.not_false, Bool.false_eq_true, if_false, if_true]; exact h)))
            refine M.cat2 fun c2 H7 g7 hc2 => ?_
            replace M := M.grow g7
            replace hp := hp.grow g7
            replace hs := g7 _ _ hs
            clear g7 hc1
            refine seqW (xs := (r1 ++ r2).map fun r => V.ref r.t) (.l hc2) fun J2 hJ2 => ?_
            have hlen : ((r1 ++ r2).map fun r => V.ref r.t).length = 6 := by rw [List.length_map, M.rows2.len]; rfl
            rw [hlen] at hJ2
            refine lc_map hJ2 (fun j => V.bl ((V6[j]?.map P10.yes).getD false)) (by decide) (fun j hj H' g' R' hR => ?_) (fun D2 H8 g8 _ hD2 => ?_) (by exact fun x => rfl)
            · obtain ⟨ic, r, ei, er, R, eg⟩ := (M.grow g').rows2.get (show j < V6.length from hj)
              rw [eg]
              rw [ei] at hR
              (refine evE ?P167 (fun Q h => ?h167) ?_; (case h167 => (simp only [tTest, tOp, tUn, tVar, tC, tCB, tCons, tNil, tAnd, tOr, tNot, tB, tTup, tLst, tIf, tAndV, tOrV, tNotV, tSl, tPart, tNoPart, tCall, iIx_ref, oGt_int, oMod_int, oFdiv_int, oAdd_int, oAdd_str, oSub_int, oMul_int, oLt_int, oGe_int, oLe_int, oPow_int, uNeg_int, oEq_int, oEq_str, oEq_bl, oNe_int, oNe_str, oNe_bl, cInt_int, cInt_bl, cAbs_int, cLen_ref, cList_ref, stL_ref, gName, gSub, gTup, gCons, gNil, rdSeq, List.getElem?_cons_zero, List.getElem?_cons_succ, List.set_cons_zero, List.set_cons_succ, List.cons_append, List.nil_append, Option.some.injEq, exists_eq_left', V.bl.injEq, V.int.injEq, V.ref.injEq, atI_0, atI_1, atI_2, setI_1, setI_2, Bool.not_true, Bool.not_false, Bool.false_eq_true, if_false, if_true, wipe]; exact h)); (try dsimp only [gName, tNext, List.set_cons_zero, List.set_cons_succ]))
              refine ixE (.t R.ht) rfl ?_
              exact bo_of R.p1 (verd6 ic (List.mem_of_getElem? ei)) (hR _ .refl)
            · replace M := M.grow g8
              replace hp := hp.grow g8
              replace hs := g8 _ _ hs
              (refine evE ?P177 (fun Q h => ?h177) ?_; (case h177 => (simp only [tTest, tOp, tUn, tVar, tC, tCB, tCons, tNil, tAnd, tOr, tNot, tB, tTup, tLst, tIf, tAndV, tOrV, tNotV, tSl, tPart, tNoPart, tCall, iIx_ref, oGt_int, oMod_int, oFdiv_int, oAdd_int, oAdd_str, oSub_int, oMul_int, oLt_int, oGe_int, oLe_int, oPow_int, uNeg_int, oEq_int, oEq_str, oEq_bl, oNe_int, oNe_str, oNe_bl, cInt_int, cInt_bl, cAbs_int, cLen_ref, cList_ref, stL_ref, gName, gSub, gTup, gCons, gNil, rdSeq, List.getElem?_cons_zero, List.getElem?_cons_succ, List.set_cons_zero, List.set_cons_succ, List.cons_append, List.nil_append, Option.some.injEq, exists_eq_left', V.bl.injEq, V.int.injEq, V.ref.injEq, atI_0, atI_1, atI_2, setI_1, setI_2, Bool.not_true, Bool.not_false, Bool.false_eq_true, if_false, if_true, tLstN]; exact h)))
              refine ⟨by show 1 ≤ sizeLine; decide, fun q1 hq1 _ => ?_⟩
              refine ⟨q1, 3, _, rfl, rfl, upd_same, by decide, by decide, by decide, fun q2 hq2 => ?_⟩
              refine ⟨by show 1 ≤ sizeLine; decide, fun q3 hq3 _ => ?_⟩
              refine ⟨q3, 3, _, rfl, rfl, upd_same, by decide, by decide, by decide, fun q4 hq4 => ?_⟩
              have g1 := Grow.new (o := .lst [V.bl true]) hq1
              have g2 := Grow.new (o := .lst (List.replicate (Int.toNat 3) [V.bl true]).flatten) hq2
              have g3 := Grow.new (o := .lst [V.bl false]) hq3
              have g4 := Grow.new (o := .lst (List.replicate (Int.toNat 3) [V.bl false]).flatten) hq4
              have g := g1.trans (g2.trans (g3.trans g4))
              refine catE ((g3.trans g4) _ _ upd_same) upd_same (by decide) fun q5 H9 g9 hq5 => ?_
              replace hD2 := (g.trans g9) _ _ hD2
              replace M := M.grow (g.trans g9)
              replace hp := hp.grow (g.trans g9)
              replace hs := (g.trans g9) _ _ hs
              refine bl_list (bs := [true, true, true, false, false, false]) (cs := [true, true, true, false, false, false]) hD2 hq5 (by decide +kernel) (by decide +kernel) ?_
              refine ⟨_, rfl, ?_⟩
              rw [show (!PyData.eqv (.list ([true, true, true, false, false, false].map PyData.bool)) (.list ([true, true, true, false, false, false].map PyData.bool))) = false from by decide +kernel]
              refine if_no ?_
              clear hD2 g g1 g2 g3 g4 g9 hq1 hq2 hq3 hq4 hq5 hc2 g8 hJ2 J2 hlen
              (try dsimp only [gName, tNext, List.set_cons_zero, List.set_cons_succ])
              show t_law_15 K A _ _ _
              refine st_seq (st_asg ?_)
              (refine evE ?P178 (fun Q h => ?h178) ?_; (case h178 => (simp only [tTest, tOp, tUn, tVar, tC, tCB, tCons, tNil, tAnd, tOr, tNot, tB, tTup, tLst, tIf, tAndV, tOrV, tNotV, tSl, tPart, tNoPart, tCall, iIx_ref, oGt_int, oMod_int, oFdiv_int, oAdd_int, oAdd_str, oSub_int, oMul_int, oLt_int, oGe_int, oLe_int, oPow_int, uNeg_int, oEq_int, oEq_str, oEq_bl, oNe_int, oNe_str, oNe_bl, cInt_int, cInt_bl, cAbs_int, cLen_ref, cList_ref, stL_ref, gName, gSub, gTup, gCons, gNil, rdSeq, List.getElem?_cons_zero, List.getElem?_cons_succ, List.set_cons_zero, List.set_cons_succ, List.cons_append, List.nil_append, Option.some.injEq, exists_eq_left', V.bl.injEq, V.int.injEq, V.ref.injEq, atI_0, atI_1, atI_2, setI_1, setI_2, Bool.not_true, Bool.not_false, Bool.false_eq_true, if_false, if_true]; exact h)))
              refine ⟨w, u, y, z, M.S, rfl, rfl, rfl, fun K1 s1 H10 g10 n10 e10 S1 => ?_⟩
              refine ⟨w, u, y, z, M.S.grow g10, rfl, rfl, rfl, fun K2 s2 H11 g11 n11 e11 S2 => ?_⟩
              have S1' : Rows A H11 w u y z [.Enough, .Fits, .Cut] s1 := ⟨S1.grow g11⟩
              have S2' : Rows A H11 w u y z [.Never, .Beyond, .EndlessCut] s2 := ⟨S2⟩
              refine catE (g11 _ _ e10) e11 (by rw [List.length_map, List.length_map, S1'.len, S2'.len]; decide) fun K4 H12 g12 e12 => ?_
              have M12 := M.grow (g10.trans (g11.trans g12))
              refine ⟨w, u, y, z, M12.S, rfl, rfl, rfl, fun K3 s3 H13 g13 n13 e13 S3 => ?_⟩
              have S3' : Rows A H13 w u y z [.Table, .Ring, .Mean, .Lengths] s3 := ⟨S3⟩
              refine catE (g13 _ _ e12) e13 (by rw [List.length_append, List.length_map, List.length_map, List.length_map, S1'.len, S2'.len, S3'.len]; decide) fun K5 H14 g14 e14 => ?_
              rw [← List.map_append, ← List.map_append] at e14
              have SR : Rows A H14 w u y z P10.all (s1 ++ s2 ++ s3) := ((S1'.grow (g12.trans (g13.trans g14))).app (S2'.grow (g12.trans (g13.trans g14)))).app (S3'.grow g14)
              have gg := g10.trans (g11.trans (g12.trans (g13.trans g14)))
              replace M := M.grow gg
              replace hp := hp.grow gg
              replace hs := gg _ _ hs
              clear gg g10 g11 g12 g13 g14 n10 n11 n13 e10 e11 e12 e13 S1 S2 S3 S1' S2' S3' M12
              (try dsimp only [gName, tNext, List.set_cons_zero, List.set_cons_succ])
              show t_law_16 K A _ _ _
              refine for_enumL ?_
              (refine evA ?P179 (fun Q h => ?h179) ?_; (case h179 => (simp only [tTest, tOp, tUn, tVar, tC, tCB, tCons, tNil, tAnd, tOr, tNot, tB, tTup, tLst, tIf, tAndV, tOrV, tNotV, tSl, tPart, tNoPart, tCall, iIx_ref, oGt_int, oMod_int, oFdiv_int, oAdd_int, oAdd_str, oSub_int, oMul_int, oLt_int, oGe_int, oLe_int, oPow_int, uNeg_int, oEq_int, oEq_str, oEq_bl, oNe_int, oNe_str, oNe_bl, cInt_int, cInt_bl, cAbs_int, cLen_ref, cList_ref, stL_ref, gName, gSub, gTup, gCons, gNil, rdSeq, List.getElem?_cons_zero, List.getElem?_cons_succ, List.set_cons_zero, List.set_cons_succ, List.cons_append, List.nil_append, Option.some.injEq, exists_eq_left', V.bl.injEq, V.int.injEq, V.ref.injEq, atI_0, atI_1, atI_2, setI_1, setI_2, Bool.not_true, Bool.not_false, Bool.false_eq_true, if_false, if_true]; exact h)))
              refine M.cat3 fun c3 H15 g15 hc3 => ?_
              replace M := M.grow g15
              replace hp := hp.grow g15
              replace hs := g15 _ _ hs
              replace e14 := g15 _ _ e14
              replace SR := SR.grow g15
              clear g15
              have hlen : ((r1 ++ r2 ++ r3).map fun r => V.ref r.t).length = 10 := by rw [List.length_map, M.rows.len]; rfl
              refine ⟨c3, _, rfl, SqL.of hc3, ?_⟩
              refine for_ite (fun j σ H => Grow H15 H ∧ ∃ b11 b12 b13 b14 b16 b17, σ = [a0, some (.ref p), some (.ref s9), some (.int (0 + (i : Int))), some (W9.v w x), some (W9.v w y), some (W9.v w z), some (W9.v w u), some (.ref L1), some (.ref L2), some (.ref L3), b11, b12, b13, b14, some (.ref K5), b16, b17, a18]) ?_ (fun j σ H h => h.1 _ _ hc3) (fun σ H h => ?_) (fun j σ H T hj h hT => ?_)
              · exact ⟨.refl, _, _, _, _, _, _, rfl⟩
              · obtain ⟨g16, b11, b12, b13, b14, b16, b17, rfl⟩ := h
                exact ⟨rfl, rfl, rfl, (hp.grow g16).up (by omega), M.S.grow g16, g16 _ _ hs⟩
              · obtain ⟨g16, b11, b12, b13, b14, b16, b17, rfl⟩ := h
                rw [hlen] at hj
                have gT := Grow.new (o := .tup [.int (j : Nat), ((r1 ++ r2 ++ r3).map fun r => V.ref r.t).getD j .non]) hT
                have gt := g16.trans gT
                have M16 := M.grow gt
                obtain ⟨ic, r, ei, er, R, eg⟩ := M16.rows.get (show j < P10.all.length from hj)
                obtain ⟨ic2, r', ei2, er2, R2, eg2⟩ := (SR.grow gt).get (show j < P10.all.length from hj)
                have e1 : ic2 = ic := Option.some.inj (ei2.symm.trans ei)
                subst e1
                rw [eg] at gT gt M16 R R2 ⊢
                refine ⟨T, _, rfl, SqT.of upd_same, rfl, ?_⟩
                simp only [tTest, tOp, tUn, tVar, tC, tCB, tCons, tNil, tAnd, tOr, tNot, tB, tTup, tLst, tIf, tAndV, tOrV, tNotV, tSl, tPart, tNoPart, tCall, iIx_ref, oGt_int, oMod_int, oFdiv_int, oAdd_int, oAdd_str, oSub_int, oMul_int, oLt_int, oGe_int, oLe_int, oPow_int, uNeg_int, oEq_int, oEq_str, oEq_bl, oNe_int, oNe_str, oNe_bl, cInt_int, cInt_bl, cAbs_int, cLen_ref, cList_ref, stL_ref, gName, gSub, gTup, gCons, gNil, rdSeq, List.getElem?_cons_zero, List.getElem?_cons_succ, List.set_cons_zero, List.set_cons_succ, List.cons_append, List.nil_append, Option.some.injEq, exists_eq_left', V.bl.injEq, V.int.injEq, V.ref.injEq, atI_0, atI_1, atI_2, setI_1, setI_2, Bool.not_true, Bool.not_false, Bool.false_eq_true, if_false, if_true]
                refine ⟨_, _, rfl, _, _, rfl, rfl, ?_⟩
                (try dsimp only [gName, tNext, List.set_cons_zero, List.set_cons_succ])
                show t_law_17 K A _ _ _
                refine st_if ?_
                (refine evT ?P168 (fun Q h => ?h168) ?_; (case h168 => (simp only [tTest, tOp, tUn, tVar, tC, tCB, tCons, tNil, tAnd, tOr, tNot, tB, tTup, tLst, tIf, tAndV, tOrV, tNotV, tSl, tPart, tNoPart, tCall, iIx_ref, oGt_int, oMod_int, oFdiv_int, oAdd_int, oAdd_str, oSub_int, oMul_int, oLt_int, oGe_int, oLe_int, oPow_int, uNeg_int, oEq_int, oEq_str, oEq_bl, oNe_int, oNe_str, oNe_bl, cInt_int, cInt_bl, cAbs_int, cLen_ref, cList_ref, stL_ref, gName, gSub, gTup, gCons, gNil, rdSeq, List.getElem?_cons_zero, List.getElem?_cons_succ, List.set_cons_zero, List.set_cons_succ, List.cons_append, List.nil_append, Option.some.injEq, exists_eq_left', V.bl.injEq, V.int.injEq, V.ref.injEq, atI_0, atI_1, atI_2, setI_1, setI_2, Bool.not_true, Bool.not_false, Bool.false_eq_true, if_false, if_true]; exact h)); (try dsimp only [gName, tNext, List.set_cons_zero, List.set_cons_succ]))
                refine ixE (.t R.ht) rfl ?_
                refine ixE (.l (gt _ _ e14)) (v := .ref r'.t) (atI_nat (by rw [List.getElem?_map, er2]; rfl)) ?_
                refine ixE (.t R2.ht) rfl ?_
                refine eq_same F M16.S R.p1 R2.p1 fun H17 g17 => ?_
                refine ⟨w, x, u, M16.S.grow g17, rfl, rfl, ?_⟩
                rw [val_eq]
                simp only [tTest, tOp, tUn, tVar, tC, tCB, tCons, tNil, tAnd, tOr, tNot, tB, tTup, tLst, tIf, tAndV, tOrV, tNotV, tSl, tPart, tNoPart, tCall, iIx_ref, oGt_int, oMod_int, oFdiv_int, oAdd_int, oAdd_str, oSub_int, oMul_int, oLt_int, oGe_int, oLe_int, oPow_int, uNeg_int, oEq_int, oEq_str, oEq_bl, oNe_int, oNe_str, oNe_bl, cInt_int, cInt_bl, cAbs_int, cLen_ref, cList_ref, stL_ref, gName, gSub, gTup, gCons, gNil, rdSeq, List.getElem?_cons_zero, List.getElem?_cons_succ, List.set_cons_zero, List.set_cons_succ, List.cons_append, List.nil_append, Option.some.injEq, exists_eq_left', V.bl.injEq, V.int.injEq, V.ref.injEq, atI_0, atI_1, atI_2, setI_1, setI_2, Bool.not_true, Bool.not_false, Bool.false_eq_true, if_false, if_true]
                rw [decide_eq_true trivial]
                refine if_no ?_
                exact ⟨gt.trans g17, _, _, _, _, _, _, rfl⟩
  · exact h.elim
end HG

namespace HG
open PySem L2
def top (i : Nat) : Stmt := PySem.Challenge.pw_headgap_k02_papers_keep_values.main.body.getD i (.Pass ⟨0, 0, 0, 0⟩)
abbrev s_Enough_init : Stmt := (inClass (top 5) 0)
theorem sc_Enough_init : FnScope ["self", "number", "heights", "text"] ["self", "number", "heights", "text"] (defScope s_Enough_init) := ⟨rfl, rfl, rfl, by decide +kernel, rfl, by decide +kernel, by decide +kernel⟩
abbrev s_Fits_init : Stmt := (inClass (top 8) 0)
theorem sc_Fits_init : FnScope ["self", "number", "rises", "losses", "text"] ["self", "number", "rises", "losses", "text"] (defScope s_Fits_init) := ⟨rfl, rfl, rfl, by decide +kernel, rfl, by decide +kernel, by decide +kernel⟩
abbrev s_Cut_init : Stmt := (inClass (top 11) 0)
theorem sc_Cut_init : FnScope ["self", "number", "heights", "text", "at"] ["self", "number", "heights", "text", "at"] (defScope s_Cut_init) := ⟨rfl, rfl, rfl, by decide +kernel, rfl, by decide +kernel, by decide +kernel⟩
abbrev s_Never_init : Stmt := (inClass (top 6) 0)
theorem sc_Never_init : FnScope ["self", "ahead", "ring", "behind"] ["self", "ahead", "ring", "behind"] (defScope s_Never_init) := ⟨rfl, rfl, rfl, by decide +kernel, rfl, by decide +kernel, by decide +kernel⟩
abbrev s_Beyond_init : Stmt := (inClass (top 9) 0)
theorem sc_Beyond_init : FnScope ["self", "ahead", "rising", "between", "falling", "behind"] ["self", "ahead", "rising", "between", "falling", "behind"] (defScope s_Beyond_init) := ⟨rfl, rfl, rfl, by decide +kernel, rfl, by decide +kernel, by decide +kernel⟩
abbrev s_EndlessCut_init : Stmt := (inClass (top 12) 0)
theorem sc_EndlessCut_init : FnScope ["self", "text", "at", "ring", "behind"] ["self", "text", "at", "ring", "behind"] (defScope s_EndlessCut_init) := ⟨rfl, rfl, rfl, by decide +kernel, rfl, by decide +kernel, by decide +kernel⟩
abbrev s_Table_init : Stmt := (inClass (top 1) 0)
theorem sc_Table_init : FnScope ["self", "growths"] ["self", "growths"] (defScope s_Table_init) := ⟨rfl, rfl, rfl, by decide +kernel, rfl, by decide +kernel, by decide +kernel⟩
abbrev s_Ring_init : Stmt := (inClass (top 14) 0)
theorem sc_Ring_init : FnScope ["self", "state", "text"] ["self", "state", "text"] (defScope s_Ring_init) := ⟨rfl, rfl, rfl, by decide +kernel, rfl, by decide +kernel, by decide +kernel⟩
abbrev s_Mean_init : Stmt := (inClass (top 15) 0)
theorem sc_Mean_init : FnScope ["self", "rate", "ring", "heights"] ["self", "rate", "ring", "heights"] (defScope s_Mean_init) := ⟨rfl, rfl, rfl, by decide +kernel, rfl, by decide +kernel, by decide +kernel⟩
abbrev s_Lengths_init : Stmt := (inClass (top 17) 0)
theorem sc_Lengths_init : FnScope ["self", "first", "steps", "tails"] ["self", "first", "steps", "tails"] (defScope s_Lengths_init) := ⟨rfl, rfl, rfl, by decide +kernel, rfl, by decide +kernel, by decide +kernel⟩
abbrev s_Enough_eq : Stmt := (inClass (top 5) 2)
theorem sc_Enough_eq : FnScope ["self", "other"] ["self", "other"] (defScope s_Enough_eq) := ⟨rfl, rfl, rfl, by decide +kernel, rfl, by decide +kernel, by decide +kernel⟩
abbrev s_Fits_eq : Stmt := (inClass (top 8) 2)
theorem sc_Fits_eq : FnScope ["self", "other"] ["self", "other"] (defScope s_Fits_eq) := ⟨rfl, rfl, rfl, by decide +kernel, rfl, by decide +kernel, by decide +kernel⟩
abbrev s_Cut_eq : Stmt := (inClass (top 11) 2)
theorem sc_Cut_eq : FnScope ["self", "other"] ["self", "other"] (defScope s_Cut_eq) := ⟨rfl, rfl, rfl, by decide +kernel, rfl, by decide +kernel, by decide +kernel⟩
abbrev s_Never_eq : Stmt := (inClass (top 6) 2)
theorem sc_Never_eq : FnScope ["self", "other"] ["self", "other"] (defScope s_Never_eq) := ⟨rfl, rfl, rfl, by decide +kernel, rfl, by decide +kernel, by decide +kernel⟩
abbrev s_Beyond_eq : Stmt := (inClass (top 9) 2)
theorem sc_Beyond_eq : FnScope ["self", "other"] ["self", "other"] (defScope s_Beyond_eq) := ⟨rfl, rfl, rfl, by decide +kernel, rfl, by decide +kernel, by decide +kernel⟩
abbrev s_EndlessCut_eq : Stmt := (inClass (top 12) 2)
theorem sc_EndlessCut_eq : FnScope ["self", "other"] ["self", "other"] (defScope s_EndlessCut_eq) := ⟨rfl, rfl, rfl, by decide +kernel, rfl, by decide +kernel, by decide +kernel⟩
abbrev s_Table_eq : Stmt := (inClass (top 1) 1)
theorem sc_Table_eq : FnScope ["self", "other"] ["self", "other"] (defScope s_Table_eq) := ⟨rfl, rfl, rfl, by decide +kernel, rfl, by decide +kernel, by decide +kernel⟩
abbrev s_Ring_eq : Stmt := (inClass (top 14) 1)
theorem sc_Ring_eq : FnScope ["self", "other"] ["self", "other"] (defScope s_Ring_eq) := ⟨rfl, rfl, rfl, by decide +kernel, rfl, by decide +kernel, by decide +kernel⟩
abbrev s_Mean_eq : Stmt := (inClass (top 15) 1)
theorem sc_Mean_eq : FnScope ["self", "other"] ["self", "other"] (defScope s_Mean_eq) := ⟨rfl, rfl, rfl, by decide +kernel, rfl, by decide +kernel, by decide +kernel⟩
abbrev s_Lengths_eq : Stmt := (inClass (top 17) 1)
theorem sc_Lengths_eq : FnScope ["self", "other"] ["self", "other"] (defScope s_Lengths_eq) := ⟨rfl, rfl, rfl, by decide +kernel, rfl, by decide +kernel, by decide +kernel⟩
abbrev s_Enough_bool : Stmt := (inClass (top 5) 1)
theorem sc_Enough_bool : FnScope ["self"] ["self"] (defScope s_Enough_bool) := ⟨rfl, rfl, rfl, by decide +kernel, rfl, by decide +kernel, by decide +kernel⟩
abbrev s_Fits_bool : Stmt := (inClass (top 8) 1)
theorem sc_Fits_bool : FnScope ["self"] ["self"] (defScope s_Fits_bool) := ⟨rfl, rfl, rfl, by decide +kernel, rfl, by decide +kernel, by decide +kernel⟩
abbrev s_Cut_bool : Stmt := (inClass (top 11) 1)
theorem sc_Cut_bool : FnScope ["self"] ["self"] (defScope s_Cut_bool) := ⟨rfl, rfl, rfl, by decide +kernel, rfl, by decide +kernel, by decide +kernel⟩
abbrev s_Never_bool : Stmt := (inClass (top 6) 1)
theorem sc_Never_bool : FnScope ["self"] ["self"] (defScope s_Never_bool) := ⟨rfl, rfl, rfl, by decide +kernel, rfl, by decide +kernel, by decide +kernel⟩
abbrev s_Beyond_bool : Stmt := (inClass (top 9) 1)
theorem sc_Beyond_bool : FnScope ["self"] ["self"] (defScope s_Beyond_bool) := ⟨rfl, rfl, rfl, by decide +kernel, rfl, by decide +kernel, by decide +kernel⟩
abbrev s_EndlessCut_bool : Stmt := (inClass (top 12) 1)
theorem sc_EndlessCut_bool : FnScope ["self"] ["self"] (defScope s_EndlessCut_bool) := ⟨rfl, rfl, rfl, by decide +kernel, rfl, by decide +kernel, by decide +kernel⟩
abbrev s_law_pen : Stmt := (top 19)
theorem sc_law_pen : FnScope ["_law_script"] ["_law_script"] (defScope s_law_pen) := ⟨rfl, rfl, rfl, by decide +kernel, rfl, by decide +kernel, by decide +kernel⟩
abbrev s_law_draw : Stmt := (top 20)
theorem sc_law_draw : FnScope ["_law_pen_here", "_law_many", "_law_digit", "_law_turn", "_law_cell", "_law_great", "_law_blend"] ["_law_pen_here", "_law_many"] (defScope s_law_draw) := ⟨rfl, rfl, rfl, by decide +kernel, rfl, by decide +kernel, by decide +kernel⟩
abbrev s_law_pick : Stmt := (top 21)
theorem sc_law_pick : FnScope ["_law_pen_here", "_law_some"] ["_law_pen_here", "_law_some"] (defScope s_law_pick) := ⟨rfl, rfl, rfl, by decide +kernel, rfl, by decide +kernel, by decide +kernel⟩
abbrev s_law_yes : Stmt := (top 22)
theorem sc_law_yes : FnScope ["_law_x", "_law_y", "_law_z", "_law_one", "_law_other", "_law_found"] ["_law_x", "_law_y", "_law_z"] (defScope s_law_yes) := ⟨rfl, rfl, rfl, by decide +kernel, rfl, by decide +kernel, by decide +kernel⟩
abbrev s_law_no : Stmt := (top 23)
theorem sc_law_no : FnScope ["_law_x", "_law_y", "_law_z", "_law_one", "_law_other", "_law_found"] ["_law_x", "_law_y", "_law_z"] (defScope s_law_no) := ⟨rfl, rfl, rfl, by decide +kernel, rfl, by decide +kernel, by decide +kernel⟩
abbrev s_law_plain : Stmt := (top 24)
theorem sc_law_plain : FnScope ["_law_x", "_law_y", "_law_z", "_law_one", "_law_other", "_law_found"] ["_law_x", "_law_y", "_law_z"] (defScope s_law_plain) := ⟨rfl, rfl, rfl, by decide +kernel, rfl, by decide +kernel, by decide +kernel⟩
abbrev s_law : Stmt := (top 25)
theorem sc_law : FnScope ["_law_script", "_law_pen_here", "_law_some", "_law_turn", "_law_x", "_law_y", "_law_z", "_law_w", "_law_yes_here", "_law_no_here", "_law_plain_here", "_law_one", "_law_other", "_law_told", "_law_due", "_law_late", "_law_at", "_law_row", "_law_again"] ["_law_script"] (defScope s_law) := ⟨rfl, rfl, rfl, by decide +kernel, rfl, by decide +kernel, by decide +kernel⟩

structure Txt (K : PySem.W.Frag) (mg : Str → Option Value) (A : Ad) : Prop where
  kf : KF K A
  b_abs : mg "abs" = none
  b_bool : mg "bool" = none
  b_enumerate : mg "enumerate" = none
  b_int : mg "int" = none
  b_isinstance : mg "isinstance" = none
  b_len : mg "len" = none
  b_list : mg "list" = none
  b_range : mg "range" = none
  b_repr : mg "repr" = none
  b_tuple : mg "tuple" = none
  g_Enough : mg "Enough" = some (.ref A.c_Enough)
  M_Enough : Mk K A.c_Enough A.f_Enough_init
  g_Fits : mg "Fits" = some (.ref A.c_Fits)
  M_Fits : Mk K A.c_Fits A.f_Fits_init
  g_Cut : mg "Cut" = some (.ref A.c_Cut)
  M_Cut : Mk K A.c_Cut A.f_Cut_init
  g_Never : mg "Never" = some (.ref A.c_Never)
  M_Never : Mk K A.c_Never A.f_Never_init
  g_Beyond : mg "Beyond" = some (.ref A.c_Beyond)
  M_Beyond : Mk K A.c_Beyond A.f_Beyond_init
  g_EndlessCut : mg "EndlessCut" = some (.ref A.c_EndlessCut)
  M_EndlessCut : Mk K A.c_EndlessCut A.f_EndlessCut_init
  g_Table : mg "Table" = some (.ref A.c_Table)
  M_Table : Mk K A.c_Table A.f_Table_init
  g_Ring : mg "Ring" = some (.ref A.c_Ring)
  M_Ring : Mk K A.c_Ring A.f_Ring_init
  g_Mean : mg "Mean" = some (.ref A.c_Mean)
  M_Mean : Mk K A.c_Mean A.f_Mean_init
  g_Lengths : mg "Lengths" = some (.ref A.c_Lengths)
  M_Lengths : Mk K A.c_Lengths A.f_Lengths_init
  g_Verdict : mg "Verdict" = some (.ref A.c_Verdict)
  F_Enough_init : Fun K "__init__" "Enough.__init__" s_Enough_init A.f_Enough_init A.d_Enough_init
  B_Enough_init : Binds K A.d_Enough_init ["self", "number", "heights", "text"] []
  F_Fits_init : Fun K "__init__" "Fits.__init__" s_Fits_init A.f_Fits_init A.d_Fits_init
  B_Fits_init : Binds K A.d_Fits_init ["self", "number", "rises", "losses", "text"] []
  F_Cut_init : Fun K "__init__" "Cut.__init__" s_Cut_init A.f_Cut_init A.d_Cut_init
  B_Cut_init : Binds K A.d_Cut_init ["self", "number", "heights", "text", "at"] []
  F_Never_init : Fun K "__init__" "Never.__init__" s_Never_init A.f_Never_init A.d_Never_init
  B_Never_init : Binds K A.d_Never_init ["self", "ahead", "ring", "behind"] []
  F_Beyond_init : Fun K "__init__" "Beyond.__init__" s_Beyond_init A.f_Beyond_init A.d_Beyond_init
  B_Beyond_init : Binds K A.d_Beyond_init ["self", "ahead", "rising", "between", "falling", "behind"] []
  F_EndlessCut_init : Fun K "__init__" "EndlessCut.__init__" s_EndlessCut_init A.f_EndlessCut_init A.d_EndlessCut_init
  B_EndlessCut_init : Binds K A.d_EndlessCut_init ["self", "text", "at", "ring", "behind"] []
  F_Table_init : Fun K "__init__" "Table.__init__" s_Table_init A.f_Table_init A.d_Table_init
  B_Table_init : Binds K A.d_Table_init ["self", "growths"] []
  F_Ring_init : Fun K "__init__" "Ring.__init__" s_Ring_init A.f_Ring_init A.d_Ring_init
  B_Ring_init : Binds K A.d_Ring_init ["self", "state", "text"] []
  F_Mean_init : Fun K "__init__" "Mean.__init__" s_Mean_init A.f_Mean_init A.d_Mean_init
  B_Mean_init : Binds K A.d_Mean_init ["self", "rate", "ring", "heights"] []
  F_Lengths_init : Fun K "__init__" "Lengths.__init__" s_Lengths_init A.f_Lengths_init A.d_Lengths_init
  B_Lengths_init : Binds K A.d_Lengths_init ["self", "first", "steps", "tails"] []
  F_Enough_eq : Fun K "__eq__" "Enough.__eq__" s_Enough_eq A.f_Enough_eq A.d_Enough_eq
  B_Enough_eq : Binds K A.d_Enough_eq ["self", "other"] []
  F_Fits_eq : Fun K "__eq__" "Fits.__eq__" s_Fits_eq A.f_Fits_eq A.d_Fits_eq
  B_Fits_eq : Binds K A.d_Fits_eq ["self", "other"] []
  F_Cut_eq : Fun K "__eq__" "Cut.__eq__" s_Cut_eq A.f_Cut_eq A.d_Cut_eq
  B_Cut_eq : Binds K A.d_Cut_eq ["self", "other"] []
  F_Never_eq : Fun K "__eq__" "Never.__eq__" s_Never_eq A.f_Never_eq A.d_Never_eq
  B_Never_eq : Binds K A.d_Never_eq ["self", "other"] []
  F_Beyond_eq : Fun K "__eq__" "Beyond.__eq__" s_Beyond_eq A.f_Beyond_eq A.d_Beyond_eq
  B_Beyond_eq : Binds K A.d_Beyond_eq ["self", "other"] []
  F_EndlessCut_eq : Fun K "__eq__" "EndlessCut.__eq__" s_EndlessCut_eq A.f_EndlessCut_eq A.d_EndlessCut_eq
  B_EndlessCut_eq : Binds K A.d_EndlessCut_eq ["self", "other"] []
  F_Table_eq : Fun K "__eq__" "Table.__eq__" s_Table_eq A.f_Table_eq A.d_Table_eq
  B_Table_eq : Binds K A.d_Table_eq ["self", "other"] []
  F_Ring_eq : Fun K "__eq__" "Ring.__eq__" s_Ring_eq A.f_Ring_eq A.d_Ring_eq
  B_Ring_eq : Binds K A.d_Ring_eq ["self", "other"] []
  F_Mean_eq : Fun K "__eq__" "Mean.__eq__" s_Mean_eq A.f_Mean_eq A.d_Mean_eq
  B_Mean_eq : Binds K A.d_Mean_eq ["self", "other"] []
  F_Lengths_eq : Fun K "__eq__" "Lengths.__eq__" s_Lengths_eq A.f_Lengths_eq A.d_Lengths_eq
  B_Lengths_eq : Binds K A.d_Lengths_eq ["self", "other"] []
  F_Enough_bool : Fun K "__bool__" "Enough.__bool__" s_Enough_bool A.f_Enough_bool A.d_Enough_bool
  B_Enough_bool : Binds K A.d_Enough_bool ["self"] []
  F_Fits_bool : Fun K "__bool__" "Fits.__bool__" s_Fits_bool A.f_Fits_bool A.d_Fits_bool
  B_Fits_bool : Binds K A.d_Fits_bool ["self"] []
  F_Cut_bool : Fun K "__bool__" "Cut.__bool__" s_Cut_bool A.f_Cut_bool A.d_Cut_bool
  B_Cut_bool : Binds K A.d_Cut_bool ["self"] []
  F_Never_bool : Fun K "__bool__" "Never.__bool__" s_Never_bool A.f_Never_bool A.d_Never_bool
  B_Never_bool : Binds K A.d_Never_bool ["self"] []
  F_Beyond_bool : Fun K "__bool__" "Beyond.__bool__" s_Beyond_bool A.f_Beyond_bool A.d_Beyond_bool
  B_Beyond_bool : Binds K A.d_Beyond_bool ["self"] []
  F_EndlessCut_bool : Fun K "__bool__" "EndlessCut.__bool__" s_EndlessCut_bool A.f_EndlessCut_bool A.d_EndlessCut_bool
  B_EndlessCut_bool : Binds K A.d_EndlessCut_bool ["self"] []
  g_law_pen : mg "_law_pen" = some (.ref A.f_law_pen)
  F_law_pen : Fun K "_law_pen" "_law_pen" s_law_pen A.f_law_pen A.d_law_pen
  B_law_pen : Binds K A.d_law_pen ["_law_script"] []
  g_law_draw : mg "_law_draw" = some (.ref A.f_law_draw)
  F_law_draw : Fun K "_law_draw" "_law_draw" s_law_draw A.f_law_draw A.d_law_draw
  B_law_draw : Binds K A.d_law_draw ["_law_pen_here", "_law_many"] []
  g_law_pick : mg "_law_pick" = some (.ref A.f_law_pick)
  F_law_pick : Fun K "_law_pick" "_law_pick" s_law_pick A.f_law_pick A.d_law_pick
  B_law_pick : Binds K A.d_law_pick ["_law_pen_here", "_law_some"] []
  g_law_yes : mg "_law_yes" = some (.ref A.f_law_yes)
  F_law_yes : Fun K "_law_yes" "_law_yes" s_law_yes A.f_law_yes A.d_law_yes
  B_law_yes : Binds K A.d_law_yes ["_law_x", "_law_y", "_law_z"] []
  g_law_no : mg "_law_no" = some (.ref A.f_law_no)
  F_law_no : Fun K "_law_no" "_law_no" s_law_no A.f_law_no A.d_law_no
  B_law_no : Binds K A.d_law_no ["_law_x", "_law_y", "_law_z"] []
  g_law_plain : mg "_law_plain" = some (.ref A.f_law_plain)
  F_law_plain : Fun K "_law_plain" "_law_plain" s_law_plain A.f_law_plain A.d_law_plain
  B_law_plain : Binds K A.d_law_plain ["_law_x", "_law_y", "_law_z"] []
  F_law : Fun K "law" "law" s_law A.f_law A.d_law
  nk_Enough : NeK K A.c_Enough A.f_Enough_eq
  q_Enough_eq : CmpF K A.c_Enough A.f_Enough_eq .Eq
  bo_Enough : BoolF K A.c_Enough A.f_Enough_bool
  nk_Fits : NeK K A.c_Fits A.f_Fits_eq
  q_Fits_eq : CmpF K A.c_Fits A.f_Fits_eq .Eq
  bo_Fits : BoolF K A.c_Fits A.f_Fits_bool
  nk_Cut : NeK K A.c_Cut A.f_Cut_eq
  q_Cut_eq : CmpF K A.c_Cut A.f_Cut_eq .Eq
  bo_Cut : BoolF K A.c_Cut A.f_Cut_bool
  nk_Never : NeK K A.c_Never A.f_Never_eq
  q_Never_eq : CmpF K A.c_Never A.f_Never_eq .Eq
  bo_Never : BoolF K A.c_Never A.f_Never_bool
  nk_Beyond : NeK K A.c_Beyond A.f_Beyond_eq
  q_Beyond_eq : CmpF K A.c_Beyond A.f_Beyond_eq .Eq
  bo_Beyond : BoolF K A.c_Beyond A.f_Beyond_bool
  nk_EndlessCut : NeK K A.c_EndlessCut A.f_EndlessCut_eq
  q_EndlessCut_eq : CmpF K A.c_EndlessCut A.f_EndlessCut_eq .Eq
  bo_EndlessCut : BoolF K A.c_EndlessCut A.f_EndlessCut_bool
  nk_Table : NeK K A.c_Table A.f_Table_eq
  q_Table_eq : CmpF K A.c_Table A.f_Table_eq .Eq
  nk_Ring : NeK K A.c_Ring A.f_Ring_eq
  q_Ring_eq : CmpF K A.c_Ring A.f_Ring_eq .Eq
  nk_Mean : NeK K A.c_Mean A.f_Mean_eq
  q_Mean_eq : CmpF K A.c_Mean A.f_Mean_eq .Eq
  nk_Lengths : NeK K A.c_Lengths A.f_Lengths_eq
  q_Lengths_eq : CmpF K A.c_Lengths A.f_Lengths_eq .Eq
  KW_Beyond_init_behind_falling_between_rising_ahead : ∃ g, KBn K A.d_Beyond_init ["self", "ahead", "rising", "between", "falling", "behind"] 1 ["behind", "falling", "between", "rising", "ahead"] g kw_Beyond_init_behind_falling_between_rising_ahead
  KW_Cut_init_at_text_heights_number : ∃ g, KBn K A.d_Cut_init ["self", "number", "heights", "text", "at"] 1 ["at", "text", "heights", "number"] g kw_Cut_init_at_text_heights_number
  KW_EndlessCut_init_behind_ring_at_text : ∃ g, KBn K A.d_EndlessCut_init ["self", "text", "at", "ring", "behind"] 1 ["behind", "ring", "at", "text"] g kw_EndlessCut_init_behind_ring_at_text
  KW_Enough_init_text_heights_number : ∃ g, KBn K A.d_Enough_init ["self", "number", "heights", "text"] 1 ["text", "heights", "number"] g kw_Enough_init_text_heights_number
  KW_Fits_init_text_losses_rises_number : ∃ g, KBn K A.d_Fits_init ["self", "number", "rises", "losses", "text"] 1 ["text", "losses", "rises", "number"] g kw_Fits_init_text_losses_rises_number
  KW_Lengths_init_tails_steps_first : ∃ g, KBn K A.d_Lengths_init ["self", "first", "steps", "tails"] 1 ["tails", "steps", "first"] g kw_Lengths_init_tails_steps_first
  KW_Mean_init_heights_ring_rate : ∃ g, KBn K A.d_Mean_init ["self", "rate", "ring", "heights"] 1 ["heights", "ring", "rate"] g kw_Mean_init_heights_ring_rate
  KW_Never_init_behind_ring_ahead : ∃ g, KBn K A.d_Never_init ["self", "ahead", "ring", "behind"] 1 ["behind", "ring", "ahead"] g kw_Never_init_behind_ring_ahead
  KW_Ring_init_text_state : ∃ g, KBn K A.d_Ring_init ["self", "state", "text"] 1 ["text", "state"] g kw_Ring_init_text_state
  KW_Table_init_growths : ∃ g, KBn K A.d_Table_init ["self", "growths"] 1 ["growths"] g kw_Table_init_growths

theorem ok_Enough_init {P : Program} {w : World} {K : PySem.W.Frag} {mg : Str → Option Value} {base : Heap} {A : Ad} (T : Txt K mg A) :
    FnG P w K mg base CX0 1 A.f_Enough_init A.d_Enough_init ["self", "number", "heights", "text"] (sp_Enough_init K A) := by
  refine okG T.F_Enough_init sc_Enough_init (fun vs H Q E h => ?_) (fun cdv A' outer s H vs Q E hr hG h => ⟨(t_Enough_init_0 K A), ?_, pure_Enough_init h⟩)
  · unfold sp_Enough_init at h
    try unfold spPenL at h
    try unfold spDrawL at h
    try unfold spPickL at h
    try unfold spLaw at h
    try unfold spEqP at h
    try unfold spBoolP at h
    try unfold spRowsP at h
    split at h <;> first | rfl | exact h.elim
  · exact (pss_cons (ps_fld (pv 0) (pv 1) rfl)
    (pss_cons (ps_fld (pv 0) (pv 2) rfl)
    (pss_one (ps_fld (pv 0) (pv 3) rfl))))
theorem ok_Fits_init {P : Program} {w : World} {K : PySem.W.Frag} {mg : Str → Option Value} {base : Heap} {A : Ad} (T : Txt K mg A) :
    FnG P w K mg base CX0 1 A.f_Fits_init A.d_Fits_init ["self", "number", "rises", "losses", "text"] (sp_Fits_init K A) := by
  refine okG T.F_Fits_init sc_Fits_init (fun vs H Q E h => ?_) (fun cdv A' outer s H vs Q E hr hG h => ⟨(t_Fits_init_0 K A), ?_, pure_Fits_init h⟩)
  · unfold sp_Fits_init at h
    try unfold spPenL at h
    try unfold spDrawL at h
    try unfold spPickL at h
    try unfold spLaw at h
    try unfold spEqP at h
    try unfold spBoolP at h
    try unfold spRowsP at h
    split at h <;> first | rfl | exact h.elim
  · exact (pss_cons (ps_fld (pv 0) (pv 1) rfl)
    (pss_cons (ps_fld (pv 0) (pv 2) rfl)
    (pss_cons (ps_fld (pv 0) (pv 3) rfl)
    (pss_one (ps_fld (pv 0) (pv 4) rfl)))))
theorem ok_Cut_init {P : Program} {w : World} {K : PySem.W.Frag} {mg : Str → Option Value} {base : Heap} {A : Ad} (T : Txt K mg A) :
    FnG P w K mg base CX0 1 A.f_Cut_init A.d_Cut_init ["self", "number", "heights", "text", "at"] (sp_Cut_init K A) := by
  refine okG T.F_Cut_init sc_Cut_init (fun vs H Q E h => ?_) (fun cdv A' outer s H vs Q E hr hG h => ⟨(t_Cut_init_0 K A), ?_, pure_Cut_init h⟩)
  · unfold sp_Cut_init at h
    try unfold spPenL at h
    try unfold spDrawL at h
    try unfold spPickL at h
    try unfold spLaw at h
    try unfold spEqP at h
    try unfold spBoolP at h
    try unfold spRowsP at h
    split at h <;> first | rfl | exact h.elim
  · exact (pss_cons (ps_fld (pv 0) (pv 1) rfl)
    (pss_cons (ps_fld (pv 0) (pv 2) rfl)
    (pss_cons (ps_fld (pv 0) (pv 3) rfl)
    (pss_one (ps_fld (pv 0) (pv 4) rfl)))))
theorem ok_Never_init {P : Program} {w : World} {K : PySem.W.Frag} {mg : Str → Option Value} {base : Heap} {A : Ad} (T : Txt K mg A) :
    FnG P w K mg base CX0 1 A.f_Never_init A.d_Never_init ["self", "ahead", "ring", "behind"] (sp_Never_init K A) := by
  refine okG T.F_Never_init sc_Never_init (fun vs H Q E h => ?_) (fun cdv A' outer s H vs Q E hr hG h => ⟨(t_Never_init_0 K A), ?_, pure_Never_init h⟩)
  · unfold sp_Never_init at h
    try unfold spPenL at h
    try unfold spDrawL at h
    try unfold spPickL at h
    try unfold spLaw at h
    try unfold spEqP at h
    try unfold spBoolP at h
    try unfold spRowsP at h
    split at h <;> first | rfl | exact h.elim
  · exact (pss_cons (ps_fld (pv 0) (pv 1) rfl)
    (pss_cons (ps_fld (pv 0) (pv 2) rfl)
    (pss_one (ps_fld (pv 0) (pv 3) rfl))))
theorem ok_Beyond_init {P : Program} {w : World} {K : PySem.W.Frag} {mg : Str → Option Value} {base : Heap} {A : Ad} (T : Txt K mg A) :
    FnG P w K mg base CX0 1 A.f_Beyond_init A.d_Beyond_init ["self", "ahead", "rising", "between", "falling", "behind"] (sp_Beyond_init K A) := by
  refine okG T.F_Beyond_init sc_Beyond_init (fun vs H Q E h => ?_) (fun cdv A' outer s H vs Q E hr hG h => ⟨(t_Beyond_init_0 K A), ?_, pure_Beyond_init h⟩)
  · unfold sp_Beyond_init at h
    try unfold spPenL at h
    try unfold spDrawL at h
    try unfold spPickL at h
    try unfold spLaw at h
    try unfold spEqP at h
    try unfold spBoolP at h
    try unfold spRowsP at h
    split at h <;> first | rfl | exact h.elim
  · exact (pss_cons (ps_fld (pv 0) (pv 1) rfl)
    (pss_cons (ps_fld (pv 0) (pv 2) rfl)
    (pss_cons (ps_fld (pv 0) (pv 3) rfl)
    (pss_cons (ps_fld (pv 0) (pv 4) rfl)
    (pss_one (ps_fld (pv 0) (pv 5) rfl))))))
theorem ok_EndlessCut_init {P : Program} {w : World} {K : PySem.W.Frag} {mg : Str → Option Value} {base : Heap} {A : Ad} (T : Txt K mg A) :
    FnG P w K mg base CX0 1 A.f_EndlessCut_init A.d_EndlessCut_init ["self", "text", "at", "ring", "behind"] (sp_EndlessCut_init K A) := by
  refine okG T.F_EndlessCut_init sc_EndlessCut_init (fun vs H Q E h => ?_) (fun cdv A' outer s H vs Q E hr hG h => ⟨(t_EndlessCut_init_0 K A), ?_, pure_EndlessCut_init h⟩)
  · unfold sp_EndlessCut_init at h
    try unfold spPenL at h
    try unfold spDrawL at h
    try unfold spPickL at h
    try unfold spLaw at h
    try unfold spEqP at h
    try unfold spBoolP at h
    try unfold spRowsP at h
    split at h <;> first | rfl | exact h.elim
  · exact (pss_cons (ps_fld (pv 0) (pv 1) rfl)
    (pss_cons (ps_fld (pv 0) (pv 2) rfl)
    (pss_cons (ps_fld (pv 0) (pv 3) rfl)
    (pss_one (ps_fld (pv 0) (pv 4) rfl)))))
theorem ok_Table_init {P : Program} {w : World} {K : PySem.W.Frag} {mg : Str → Option Value} {base : Heap} {A : Ad} (T : Txt K mg A) :
    FnG P w K mg base CX0 1 A.f_Table_init A.d_Table_init ["self", "growths"] (sp_Table_init K A) := by
  refine okG T.F_Table_init sc_Table_init (fun vs H Q E h => ?_) (fun cdv A' outer s H vs Q E hr hG h => ⟨(t_Table_init_0 K A), ?_, pure_Table_init h⟩)
  · unfold sp_Table_init at h
    try unfold spPenL at h
    try unfold spDrawL at h
    try unfold spPickL at h
    try unfold spLaw at h
    try unfold spEqP at h
    try unfold spBoolP at h
    try unfold spRowsP at h
    split at h <;> first | rfl | exact h.elim
  · exact (pss_one (ps_fld (pv 0) (pv 1) rfl))
theorem ok_Ring_init {P : Program} {w : World} {K : PySem.W.Frag} {mg : Str → Option Value} {base : Heap} {A : Ad} (T : Txt K mg A) :
    FnG P w K mg base CX0 1 A.f_Ring_init A.d_Ring_init ["self", "state", "text"] (sp_Ring_init K A) := by
  refine okG T.F_Ring_init sc_Ring_init (fun vs H Q E h => ?_) (fun cdv A' outer s H vs Q E hr hG h => ⟨(t_Ring_init_0 K A), ?_, pure_Ring_init h⟩)
  · unfold sp_Ring_init at h
    try unfold spPenL at h
    try unfold spDrawL at h
    try unfold spPickL at h
    try unfold spLaw at h
    try unfold spEqP at h
    try unfold spBoolP at h
    try unfold spRowsP at h
    split at h <;> first | rfl | exact h.elim
  · exact (pss_cons (ps_fld (pv 0) (pv 1) rfl)
    (pss_one (ps_fld (pv 0) (pv 2) rfl)))
theorem ok_Mean_init {P : Program} {w : World} {K : PySem.W.Frag} {mg : Str → Option Value} {base : Heap} {A : Ad} (T : Txt K mg A) :
    FnG P w K mg base CX0 1 A.f_Mean_init A.d_Mean_init ["self", "rate", "ring", "heights"] (sp_Mean_init K A) := by
  refine okG T.F_Mean_init sc_Mean_init (fun vs H Q E h => ?_) (fun cdv A' outer s H vs Q E hr hG h => ⟨(t_Mean_init_0 K A), ?_, pure_Mean_init h⟩)
  · unfold sp_Mean_init at h
    try unfold spPenL at h
    try unfold spDrawL at h
    try unfold spPickL at h
    try unfold spLaw at h
    try unfold spEqP at h
    try unfold spBoolP at h
    try unfold spRowsP at h
    split at h <;> first | rfl | exact h.elim
  · exact (pss_cons (ps_fld (pv 0) (pv 1) rfl)
    (pss_cons (ps_fld (pv 0) (pv 2) rfl)
    (pss_one (ps_fld (pv 0) (pv 3) rfl))))
theorem ok_Lengths_init {P : Program} {w : World} {K : PySem.W.Frag} {mg : Str → Option Value} {base : Heap} {A : Ad} (T : Txt K mg A) :
    FnG P w K mg base CX0 1 A.f_Lengths_init A.d_Lengths_init ["self", "first", "steps", "tails"] (sp_Lengths_init K A) := by
  refine okG T.F_Lengths_init sc_Lengths_init (fun vs H Q E h => ?_) (fun cdv A' outer s H vs Q E hr hG h => ⟨(t_Lengths_init_0 K A), ?_, pure_Lengths_init h⟩)
  · unfold sp_Lengths_init at h
    try unfold spPenL at h
    try unfold spDrawL at h
    try unfold spPickL at h
    try unfold spLaw at h
    try unfold spEqP at h
    try unfold spBoolP at h
    try unfold spRowsP at h
    split at h <;> first | rfl | exact h.elim
  · exact (pss_cons (ps_fld (pv 0) (pv 1) rfl)
    (pss_cons (ps_fld (pv 0) (pv 2) rfl)
    (pss_one (ps_fld (pv 0) (pv 3) rfl))))
theorem ok_Enough_eq {P : Program} {w : World} {K : PySem.W.Frag} {mg : Str → Option Value} {base : Heap} {A : Ad} (T : Txt K mg A) :
    FnG P w K mg base CX0 1 A.f_Enough_eq A.d_Enough_eq ["self", "other"] (sp_Enough_eq K A) := by
  refine okG T.F_Enough_eq sc_Enough_eq (fun vs H Q E h => ?_) (fun cdv A' outer s H vs Q E hr hG h => ⟨(t_Enough_eq_0 K A), ?_, pure_Enough_eq T.kf h⟩)
  · unfold sp_Enough_eq at h
    try unfold spPenL at h
    try unfold spDrawL at h
    try unfold spPickL at h
    try unfold spLaw at h
    try unfold spEqP at h
    try unfold spBoolP at h
    try unfold spRowsP at h
    split at h <;> first | rfl | exact h.elim
  · exact (pss_cons (ps_if (PW.pt (pw_or (pt_not (pt_val (pe_callB call_isiU (by rfl) T.b_isinstance (by decide +kernel) (pa_cons (pv 1) (pa_cons (pe_glob rfl T.g_Enough rfl) pa_nil))))) (pw_or1 (pt_cmpR (op_ne9 hr.units) (pe_fld (pv 0) rfl) (pe_fld (pv 1) rfl) (nomark _))))) (pss_one (ps_ret pe_bl)) pss_nil)
    (pss_one (ps_ret (pe_and (pe_cmpR (op_eq9 hr.units) (pe_fld (pv 0) rfl) (pe_fld (pv 1) rfl) (nomark _)) (pe_one (pe_cmpR (op_eq9 hr.units) (pe_fld (pv 0) rfl) (pe_fld (pv 1) rfl) (nomark _)))))))
theorem ok_Fits_eq {P : Program} {w : World} {K : PySem.W.Frag} {mg : Str → Option Value} {base : Heap} {A : Ad} (T : Txt K mg A) :
    FnG P w K mg base CX0 1 A.f_Fits_eq A.d_Fits_eq ["self", "other"] (sp_Fits_eq K A) := by
  refine okG T.F_Fits_eq sc_Fits_eq (fun vs H Q E h => ?_) (fun cdv A' outer s H vs Q E hr hG h => ⟨(t_Fits_eq_0 K A), ?_, pure_Fits_eq T.kf h⟩)
  · unfold sp_Fits_eq at h
    try unfold spPenL at h
    try unfold spDrawL at h
    try unfold spPickL at h
    try unfold spLaw at h
    try unfold spEqP at h
    try unfold spBoolP at h
    try unfold spRowsP at h
    split at h <;> first | rfl | exact h.elim
  · exact (pss_cons (ps_if (PW.pt (pw_or (pt_not (pt_val (pe_callB call_isiU (by rfl) T.b_isinstance (by decide +kernel) (pa_cons (pv 1) (pa_cons (pe_glob rfl T.g_Fits rfl) pa_nil))))) (pw_or (pt_cmpR (op_ne9 hr.units) (pe_fld (pv 0) rfl) (pe_fld (pv 1) rfl) (nomark _)) (pw_or1 (pt_cmpR (op_ne9 hr.units) (pe_fld (pv 0) rfl) (pe_fld (pv 1) rfl) (nomark _)))))) (pss_one (ps_ret pe_bl)) pss_nil)
    (pss_one (ps_ret (pe_and (pe_cmpR (op_eq9 hr.units) (pe_fld (pv 0) rfl) (pe_fld (pv 1) rfl) (nomark _)) (pe_one (pe_cmpR (op_eq9 hr.units) (pe_fld (pv 0) rfl) (pe_fld (pv 1) rfl) (nomark _)))))))
theorem ok_Cut_eq {P : Program} {w : World} {K : PySem.W.Frag} {mg : Str → Option Value} {base : Heap} {A : Ad} (T : Txt K mg A) :
    FnG P w K mg base CX0 1 A.f_Cut_eq A.d_Cut_eq ["self", "other"] (sp_Cut_eq K A) := by
  refine okG T.F_Cut_eq sc_Cut_eq (fun vs H Q E h => ?_) (fun cdv A' outer s H vs Q E hr hG h => ⟨(t_Cut_eq_0 K A), ?_, pure_Cut_eq T.kf h⟩)
  · unfold sp_Cut_eq at h
    try unfold spPenL at h
    try unfold spDrawL at h
    try unfold spPickL at h
    try unfold spLaw at h
    try unfold spEqP at h
    try unfold spBoolP at h
    try unfold spRowsP at h
    split at h <;> first | rfl | exact h.elim
  · exact (pss_cons (ps_if (pt_not (pt_val (pe_callB call_isiU (by rfl) T.b_isinstance (by decide +kernel) (pa_cons (pv 1) (pa_cons (pe_glob rfl T.g_Cut rfl) pa_nil))))) (pss_one (ps_ret pe_bl)) pss_nil)
    (pss_one (ps_ret (pe_cmpR (op_eqT9 hr.units) (pe_tup (pa_cons (pe_fld (pv 0) rfl) (pa_cons (pe_fld (pv 0) rfl) (pa_cons (pe_fld (pv 0) rfl) (pa_cons (pe_fld (pv 0) rfl) pa_nil))))) (pe_tup (pa_cons (pe_fld (pv 1) rfl) (pa_cons (pe_fld (pv 1) rfl) (pa_cons (pe_fld (pv 1) rfl) (pa_cons (pe_fld (pv 1) rfl) pa_nil))))) (nomark _)))))
theorem ok_Never_eq {P : Program} {w : World} {K : PySem.W.Frag} {mg : Str → Option Value} {base : Heap} {A : Ad} (T : Txt K mg A) :
    FnG P w K mg base CX0 1 A.f_Never_eq A.d_Never_eq ["self", "other"] (sp_Never_eq K A) := by
  refine okG T.F_Never_eq sc_Never_eq (fun vs H Q E h => ?_) (fun cdv A' outer s H vs Q E hr hG h => ⟨(t_Never_eq_0 K A), ?_, pure_Never_eq T.kf h⟩)
  · unfold sp_Never_eq at h
    try unfold spPenL at h
    try unfold spDrawL at h
    try unfold spPickL at h
    try unfold spLaw at h
    try unfold spEqP at h
    try unfold spBoolP at h
    try unfold spRowsP at h
    split at h <;> first | rfl | exact h.elim
  · exact (pss_cons (ps_if (PW.pt (pw_or (pt_not (pt_val (pe_callB call_isiU (by rfl) T.b_isinstance (by decide +kernel) (pa_cons (pv 1) (pa_cons (pe_glob rfl T.g_Never rfl) pa_nil))))) (pw_or1 (pt_cmpR (op_ne9 hr.units) (pe_fld (pv 0) rfl) (pe_fld (pv 1) rfl) (nomark _))))) (pss_one (ps_ret pe_bl)) pss_nil)
    (pss_one (ps_ret (pe_and (pe_cmpR (op_eq9 hr.units) (pe_fld (pv 0) rfl) (pe_fld (pv 1) rfl) (nomark _)) (pe_one (pe_cmpR (op_eq9 hr.units) (pe_fld (pv 0) rfl) (pe_fld (pv 1) rfl) (nomark _)))))))
theorem ok_Beyond_eq {P : Program} {w : World} {K : PySem.W.Frag} {mg : Str → Option Value} {base : Heap} {A : Ad} (T : Txt K mg A) :
    FnG P w K mg base CX0 1 A.f_Beyond_eq A.d_Beyond_eq ["self", "other"] (sp_Beyond_eq K A) := by
  refine okG T.F_Beyond_eq sc_Beyond_eq (fun vs H Q E h => ?_) (fun cdv A' outer s H vs Q E hr hG h => ⟨(t_Beyond_eq_0 K A), ?_, pure_Beyond_eq T.kf h⟩)
  · unfold sp_Beyond_eq at h
    try unfold spPenL at h
    try unfold spDrawL at h
    try unfold spPickL at h
    try unfold spLaw at h
    try unfold spEqP at h
    try unfold spBoolP at h
    try unfold spRowsP at h
    split at h <;> first | rfl | exact h.elim
  · exact (pss_cons (ps_if (PW.pt (pw_or (pt_not (pt_val (pe_callB call_isiU (by rfl) T.b_isinstance (by decide +kernel) (pa_cons (pv 1) (pa_cons (pe_glob rfl T.g_Beyond rfl) pa_nil))))) (pw_or (pt_cmpR (op_ne9 hr.units) (pe_fld (pv 0) rfl) (pe_fld (pv 1) rfl) (nomark _)) (pw_or1 (pt_cmpR (op_ne9 hr.units) (pe_fld (pv 0) rfl) (pe_fld (pv 1) rfl) (nomark _)))))) (pss_one (ps_ret pe_bl)) pss_nil)
    (pss_one (ps_ret (pe_cmpR (op_eqT9 hr.units) (pe_tup (pa_cons (pe_fld (pv 0) rfl) (pa_cons (pe_fld (pv 0) rfl) (pa_cons (pe_fld (pv 0) rfl) pa_nil)))) (pe_tup (pa_cons (pe_fld (pv 1) rfl) (pa_cons (pe_fld (pv 1) rfl) (pa_cons (pe_fld (pv 1) rfl) pa_nil)))) (nomark _)))))
theorem ok_EndlessCut_eq {P : Program} {w : World} {K : PySem.W.Frag} {mg : Str → Option Value} {base : Heap} {A : Ad} (T : Txt K mg A) :
    FnG P w K mg base CX0 1 A.f_EndlessCut_eq A.d_EndlessCut_eq ["self", "other"] (sp_EndlessCut_eq K A) := by
  refine okG T.F_EndlessCut_eq sc_EndlessCut_eq (fun vs H Q E h => ?_) (fun cdv A' outer s H vs Q E hr hG h => ⟨(t_EndlessCut_eq_0 K A), ?_, pure_EndlessCut_eq T.kf h⟩)
  · unfold sp_EndlessCut_eq at h
    try unfold spPenL at h
    try unfold spDrawL at h
    try unfold spPickL at h
    try unfold spLaw at h
    try unfold spEqP at h
    try unfold spBoolP at h
    try unfold spRowsP at h
    split at h <;> first | rfl | exact h.elim
  · exact (pss_cons (ps_if (pt_not (pt_val (pe_callB call_isiU (by rfl) T.b_isinstance (by decide +kernel) (pa_cons (pv 1) (pa_cons (pe_glob rfl T.g_EndlessCut rfl) pa_nil))))) (pss_one (ps_ret pe_bl)) pss_nil)
    (pss_one (ps_ret (pe_cmpR (op_eqT9 hr.units) (pe_tup (pa_cons (pe_fld (pv 0) rfl) (pa_cons (pe_fld (pv 0) rfl) (pa_cons (pe_fld (pv 0) rfl) (pa_cons (pe_fld (pv 0) rfl) pa_nil))))) (pe_tup (pa_cons (pe_fld (pv 1) rfl) (pa_cons (pe_fld (pv 1) rfl) (pa_cons (pe_fld (pv 1) rfl) (pa_cons (pe_fld (pv 1) rfl) pa_nil))))) (nomark _)))))
theorem ok_Table_eq {P : Program} {w : World} {K : PySem.W.Frag} {mg : Str → Option Value} {base : Heap} {A : Ad} (T : Txt K mg A) :
    FnG P w K mg base CX0 1 A.f_Table_eq A.d_Table_eq ["self", "other"] (sp_Table_eq K A) := by
  refine okG T.F_Table_eq sc_Table_eq (fun vs H Q E h => ?_) (fun cdv A' outer s H vs Q E hr hG h => ⟨(t_Table_eq_0 K A), ?_, pure_Table_eq T.kf h⟩)
  · unfold sp_Table_eq at h
    try unfold spPenL at h
    try unfold spDrawL at h
    try unfold spPickL at h
    try unfold spLaw at h
    try unfold spEqP at h
    try unfold spBoolP at h
    try unfold spRowsP at h
    split at h <;> first | rfl | exact h.elim
  · exact (pss_one (ps_ret (pe_and (pe_callB call_isiU (by rfl) T.b_isinstance (by decide +kernel) (pa_cons (pv 1) (pa_cons (pe_glob rfl T.g_Table rfl) pa_nil))) (pe_one (pe_cmpR (op_eq9 hr.units) (pe_fld (pv 0) rfl) (pe_fld (pv 1) rfl) (nomark _))))))
theorem ok_Ring_eq {P : Program} {w : World} {K : PySem.W.Frag} {mg : Str → Option Value} {base : Heap} {A : Ad} (T : Txt K mg A) :
    FnG P w K mg base CX0 1 A.f_Ring_eq A.d_Ring_eq ["self", "other"] (sp_Ring_eq K A) := by
  refine okG T.F_Ring_eq sc_Ring_eq (fun vs H Q E h => ?_) (fun cdv A' outer s H vs Q E hr hG h => ⟨(t_Ring_eq_0 K A), ?_, pure_Ring_eq T.kf h⟩)
  · unfold sp_Ring_eq at h
    try unfold spPenL at h
    try unfold spDrawL at h
    try unfold spPickL at h
    try unfold spLaw at h
    try unfold spEqP at h
    try unfold spBoolP at h
    try unfold spRowsP at h
    split at h <;> first | rfl | exact h.elim
  · exact (pss_one (ps_ret (pe_and (pe_callB call_isiU (by rfl) T.b_isinstance (by decide +kernel) (pa_cons (pv 1) (pa_cons (pe_glob rfl T.g_Ring rfl) pa_nil))) (pe_and (pe_cmpR (op_eq9 hr.units) (pe_fld (pv 0) rfl) (pe_fld (pv 1) rfl) (nomark _)) (pe_one (pe_cmpR (op_eq9 hr.units) (pe_fld (pv 0) rfl) (pe_fld (pv 1) rfl) (nomark _)))))))
theorem ok_Mean_eq {P : Program} {w : World} {K : PySem.W.Frag} {mg : Str → Option Value} {base : Heap} {A : Ad} (T : Txt K mg A) :
    FnG P w K mg base CX0 1 A.f_Mean_eq A.d_Mean_eq ["self", "other"] (sp_Mean_eq K A) := by
  refine okG T.F_Mean_eq sc_Mean_eq (fun vs H Q E h => ?_) (fun cdv A' outer s H vs Q E hr hG h => ⟨(t_Mean_eq_0 K A), ?_, pure_Mean_eq T.kf h⟩)
  · unfold sp_Mean_eq at h
    try unfold spPenL at h
    try unfold spDrawL at h
    try unfold spPickL at h
    try unfold spLaw at h
    try unfold spEqP at h
    try unfold spBoolP at h
    try unfold spRowsP at h
    split at h <;> first | rfl | exact h.elim
  · exact (pss_cons (ps_if (PW.pt (pw_or (pt_not (pt_val (pe_callB call_isiU (by rfl) T.b_isinstance (by decide +kernel) (pa_cons (pv 1) (pa_cons (pe_glob rfl T.g_Mean rfl) pa_nil))))) (pw_or1 (pt_cmpR (op_ne9 hr.units) (pe_fld (pv 0) rfl) (pe_fld (pv 1) rfl) (nomark _))))) (pss_one (ps_ret pe_bl)) pss_nil)
    (pss_one (ps_ret (pe_and (pe_cmpR (op_eq9 hr.units) (pe_fld (pv 0) rfl) (pe_fld (pv 1) rfl) (nomark _)) (pe_one (pe_cmpR (op_eq9 hr.units) (pe_fld (pv 0) rfl) (pe_fld (pv 1) rfl) (nomark _)))))))
theorem ok_Lengths_eq {P : Program} {w : World} {K : PySem.W.Frag} {mg : Str → Option Value} {base : Heap} {A : Ad} (T : Txt K mg A) :
    FnG P w K mg base CX0 1 A.f_Lengths_eq A.d_Lengths_eq ["self", "other"] (sp_Lengths_eq K A) := by
  refine okG T.F_Lengths_eq sc_Lengths_eq (fun vs H Q E h => ?_) (fun cdv A' outer s H vs Q E hr hG h => ⟨(t_Lengths_eq_0 K A), ?_, pure_Lengths_eq T.kf h⟩)
  · unfold sp_Lengths_eq at h
    try unfold spPenL at h
    try unfold spDrawL at h
    try unfold spPickL at h
    try unfold spLaw at h
    try unfold spEqP at h
    try unfold spBoolP at h
    try unfold spRowsP at h
    split at h <;> first | rfl | exact h.elim
  · exact (pss_cons (ps_if (PW.pt (pw_or (pt_not (pt_val (pe_callB call_isiU (by rfl) T.b_isinstance (by decide +kernel) (pa_cons (pv 1) (pa_cons (pe_glob rfl T.g_Lengths rfl) pa_nil))))) (pw_or1 (pt_cmpR (op_ne9 hr.units) (pe_fld (pv 0) rfl) (pe_fld (pv 1) rfl) (nomark _))))) (pss_one (ps_ret pe_bl)) pss_nil)
    (pss_one (ps_ret (pe_and (pe_cmpR (op_eq9 hr.units) (pe_fld (pv 0) rfl) (pe_fld (pv 1) rfl) (nomark _)) (pe_one (pe_cmpR (op_eq9 hr.units) (pe_fld (pv 0) rfl) (pe_fld (pv 1) rfl) (nomark _)))))))
theorem ok_Enough_bool {P : Program} {w : World} {K : PySem.W.Frag} {mg : Str → Option Value} {base : Heap} {A : Ad} (T : Txt K mg A) :
    FnG P w K mg base CX0 1 A.f_Enough_bool A.d_Enough_bool ["self"] (sp_Enough_bool K A) := by
  refine okG T.F_Enough_bool sc_Enough_bool (fun vs H Q E h => ?_) (fun cdv A' outer s H vs Q E hr hG h => ⟨(t_Enough_bool_0 K A), ?_, pure_Enough_bool h⟩)
  · unfold sp_Enough_bool at h
    try unfold spPenL at h
    try unfold spDrawL at h
    try unfold spPickL at h
    try unfold spLaw at h
    try unfold spEqP at h
    try unfold spBoolP at h
    try unfold spRowsP at h
    split at h <;> first | rfl | exact h.elim
  · exact (pss_one (ps_ret pe_bl))
theorem ok_Fits_bool {P : Program} {w : World} {K : PySem.W.Frag} {mg : Str → Option Value} {base : Heap} {A : Ad} (T : Txt K mg A) :
    FnG P w K mg base CX0 1 A.f_Fits_bool A.d_Fits_bool ["self"] (sp_Fits_bool K A) := by
  refine okG T.F_Fits_bool sc_Fits_bool (fun vs H Q E h => ?_) (fun cdv A' outer s H vs Q E hr hG h => ⟨(t_Fits_bool_0 K A), ?_, pure_Fits_bool h⟩)
  · unfold sp_Fits_bool at h
    try unfold spPenL at h
    try unfold spDrawL at h
    try unfold spPickL at h
    try unfold spLaw at h
    try unfold spEqP at h
    try unfold spBoolP at h
    try unfold spRowsP at h
    split at h <;> first | rfl | exact h.elim
  · exact (pss_one (ps_ret pe_bl))
theorem ok_Cut_bool {P : Program} {w : World} {K : PySem.W.Frag} {mg : Str → Option Value} {base : Heap} {A : Ad} (T : Txt K mg A) :
    FnG P w K mg base CX0 1 A.f_Cut_bool A.d_Cut_bool ["self"] (sp_Cut_bool K A) := by
  refine okG T.F_Cut_bool sc_Cut_bool (fun vs H Q E h => ?_) (fun cdv A' outer s H vs Q E hr hG h => ⟨(t_Cut_bool_0 K A), ?_, pure_Cut_bool h⟩)
  · unfold sp_Cut_bool at h
    try unfold spPenL at h
    try unfold spDrawL at h
    try unfold spPickL at h
    try unfold spLaw at h
    try unfold spEqP at h
    try unfold spBoolP at h
    try unfold spRowsP at h
    split at h <;> first | rfl | exact h.elim
  · exact (pss_one (ps_ret pe_bl))
theorem ok_Never_bool {P : Program} {w : World} {K : PySem.W.Frag} {mg : Str → Option Value} {base : Heap} {A : Ad} (T : Txt K mg A) :
    FnG P w K mg base CX0 1 A.f_Never_bool A.d_Never_bool ["self"] (sp_Never_bool K A) := by
  refine okG T.F_Never_bool sc_Never_bool (fun vs H Q E h => ?_) (fun cdv A' outer s H vs Q E hr hG h => ⟨(t_Never_bool_0 K A), ?_, pure_Never_bool h⟩)
  · unfold sp_Never_bool at h
    try unfold spPenL at h
    try unfold spDrawL at h
    try unfold spPickL at h
    try unfold spLaw at h
    try unfold spEqP at h
    try unfold spBoolP at h
    try unfold spRowsP at h
    split at h <;> first | rfl | exact h.elim
  · exact (pss_one (ps_ret pe_bl))
theorem ok_Beyond_bool {P : Program} {w : World} {K : PySem.W.Frag} {mg : Str → Option Value} {base : Heap} {A : Ad} (T : Txt K mg A) :
    FnG P w K mg base CX0 1 A.f_Beyond_bool A.d_Beyond_bool ["self"] (sp_Beyond_bool K A) := by
  refine okG T.F_Beyond_bool sc_Beyond_bool (fun vs H Q E h => ?_) (fun cdv A' outer s H vs Q E hr hG h => ⟨(t_Beyond_bool_0 K A), ?_, pure_Beyond_bool h⟩)
  · unfold sp_Beyond_bool at h
    try unfold spPenL at h
    try unfold spDrawL at h
    try unfold spPickL at h
    try unfold spLaw at h
    try unfold spEqP at h
    try unfold spBoolP at h
    try unfold spRowsP at h
    split at h <;> first | rfl | exact h.elim
  · exact (pss_one (ps_ret pe_bl))
theorem ok_EndlessCut_bool {P : Program} {w : World} {K : PySem.W.Frag} {mg : Str → Option Value} {base : Heap} {A : Ad} (T : Txt K mg A) :
    FnG P w K mg base CX0 1 A.f_EndlessCut_bool A.d_EndlessCut_bool ["self"] (sp_EndlessCut_bool K A) := by
  refine okG T.F_EndlessCut_bool sc_EndlessCut_bool (fun vs H Q E h => ?_) (fun cdv A' outer s H vs Q E hr hG h => ⟨(t_EndlessCut_bool_0 K A), ?_, pure_EndlessCut_bool h⟩)
  · unfold sp_EndlessCut_bool at h
    try unfold spPenL at h
    try unfold spDrawL at h
    try unfold spPickL at h
    try unfold spLaw at h
    try unfold spEqP at h
    try unfold spBoolP at h
    try unfold spRowsP at h
    split at h <;> first | rfl | exact h.elim
  · exact (pss_one (ps_ret pe_bl))
theorem ok_law_pen {P : Program} {w : World} {K : PySem.W.Frag} {mg : Str → Option Value} {base : Heap} {A : Ad} (T : Txt K mg A) :
    FnG P w K mg base CX0 1 A.f_law_pen A.d_law_pen ["_law_script"] (sp_law_pen K A) := by
  refine okG T.F_law_pen sc_law_pen (fun vs H Q E h => ?_) (fun cdv A' outer s H vs Q E hr hG h => ⟨(t_law_pen_0 K A), ?_, pure_law_pen h⟩)
  · unfold sp_law_pen at h
    try unfold spPenL at h
    try unfold spDrawL at h
    try unfold spPickL at h
    try unfold spLaw at h
    try unfold spEqP at h
    try unfold spBoolP at h
    try unfold spRowsP at h
    split at h <;> first | rfl | exact h.elim
  · exact (pss_one (ps_ret (pe_lst (pa_cons (pe_callTy call_listU (by rfl) T.b_list (by decide +kernel) (pa_cons (pe_slice sl_list (pv 0) po_none (po_some pe_int)) pa_nil)) (pa_cons pe_int (pa_cons pe_int pa_nil))))))
theorem ok_law_draw {P : Program} {w : World} {K : PySem.W.Frag} {mg : Str → Option Value} {base : Heap} {A : Ad} (T : Txt K mg A) :
    FnG P w K mg base CX0 1 A.f_law_draw A.d_law_draw ["_law_pen_here", "_law_many"] (sp_law_draw K A) := by
  refine okG T.F_law_draw sc_law_draw (fun vs H Q E h => ?_) (fun cdv A' outer s H vs Q E hr hG h => ⟨(t_law_draw_0 K A), ?_, pure_law_draw h⟩)
  · unfold sp_law_draw at h
    try unfold spPenL at h
    try unfold spDrawL at h
    try unfold spPickL at h
    try unfold spLaw at h
    try unfold spEqP at h
    try unfold spBoolP at h
    try unfold spRowsP at h
    split at h <;> first | rfl | exact h.elim
  · exact (pss_cons (ps_if (pt_cmpR op_gtU (pe_ix ix_U (pv 0) pe_int (fun _ _ => rfl)) pe_int (nomark _)) (pss_cons (ps_set (i := 2) sc_law_draw.nd rfl (Or.inl rfl) (pe_op op_modU (pe_callTy call_intU (by rfl) T.b_int (by decide +kernel) (pa_cons (pe_ix ix_U (pv 0) pe_int (fun _ _ => rfl)) pa_nil)) (pv 1)))
    (pss_cons (ps_asg (pe_op op_fdivU (pe_callTy call_intU (by rfl) T.b_int (by decide +kernel) (pa_cons (pe_ix ix_U (pv 0) pe_int (fun _ _ => rfl)) pa_nil)) (pv 1)) (pg_sub (pv 0) pe_int set_U))
    (pss_one (ps_ret (pv 2))))) pss_nil)
    (pss_cons (ps_set (i := 3) sc_law_draw.nd rfl (Or.inl rfl) (pe_ix ix_U (pv 0) pe_int (fun _ _ => rfl)))
    (pss_cons (ps_asg (pe_op op_addU (pv 3) pe_int) (pg_sub (pv 0) pe_int set_U))
    (pss_cons (ps_set (i := 4) sc_law_draw.nd rfl (Or.inl rfl) (pe_op op_addU (pe_op op_mulU pe_int (pv 3)) pe_int))
    (pss_cons (ps_if (pt_cmpR (op_neU hr.units) (pe_ix ix_U (pv 0) pe_int (fun _ _ => rfl)) (pe_lst pa_nil) (nomark _)) (pss_one (ps_set (i := 4) sc_law_draw.nd rfl (Or.inl rfl) (pe_ix ix_U (pe_ix ix_U (pv 0) pe_int (fun _ _ => rfl)) (pe_op op_modU (pe_callTy call_intU (by rfl) T.b_int (by decide +kernel) (pa_cons (pv 3) pa_nil)) (pe_callB call_lenU (by rfl) T.b_len PySem.boot_len (pa_cons (pe_ix ix_U (pv 0) pe_int (fun _ _ => rfl)) pa_nil))) (fun _ _ => rfl)))) pss_nil)
    (pss_cons (ps_if (PW.pt (pw_and (pt_cmpR op_ltU (pv 3) (pe_callB call_lenU (by rfl) T.b_len PySem.boot_len (pa_cons (pe_ix ix_U (pv 0) pe_int (fun _ _ => rfl)) pa_nil)) (nomark _)) (pw_and1 (pt_cmpR op_geU (pe_callB call_absU (by rfl) T.b_abs (by decide +kernel) (pa_cons (pv 4) pa_nil)) (pe_op op_powU pe_int pe_int) (nomark _))))) (pss_cons (ps_set (i := 5) sc_law_draw.nd rfl (Or.inl rfl) (pe_op op_addU (pe_op op_mulU pe_int (pe_op op_subU (pe_callB call_absU (by rfl) T.b_abs (by decide +kernel) (pa_cons (pv 4) pa_nil)) (pe_op op_powU pe_int pe_int))) (pe_callTy call_intU (by rfl) T.b_int (by decide +kernel) (pa_cons (pe_cmpR op_ltU (pv 4) pe_int (nomark _)) pa_nil))))
    (pss_cons (ps_asg (pe_op op_fdivU (pe_callTy call_intU (by rfl) T.b_int (by decide +kernel) (pa_cons (pv 5) pa_nil)) (pv 1)) (pg_sub (pv 0) pe_int set_U))
    (pss_one (ps_ret (pe_op op_modU (pe_callTy call_intU (by rfl) T.b_int (by decide +kernel) (pa_cons (pv 5) pa_nil)) (pv 1)))))) pss_nil)
    (pss_cons (ps_set (i := 6) sc_law_draw.nd rfl (Or.inl rfl) (pe_op op_modU (pe_callTy call_intU (by rfl) T.b_int (by decide +kernel) (pa_cons (pe_op op_powU (pe_op op_addU (pe_op op_addU (pe_op op_modU (pe_callTy call_intU (by rfl) T.b_int (by decide +kernel) (pa_cons (pv 4) pa_nil)) pe_int) (pe_op op_mulU pe_int (pv 3))) pe_int) pe_int) pa_nil)) pe_int))
    (pss_cons (ps_set (i := 6) sc_law_draw.nd rfl (Or.inl rfl) (pe_op op_modU (pe_callTy call_intU (by rfl) T.b_int (by decide +kernel) (pa_cons (pe_op op_powU (pe_op op_addU (pe_op op_addU (pe_op op_mulU (pv 6) (pe_op op_addU (pe_op op_mulU pe_int (pv 3)) pe_int)) (pe_op op_mulU (pe_op op_mulU pe_int (pv 3)) (pv 3))) pe_int) pe_int) pa_nil)) pe_int))
    (pss_one (ps_ret (pe_op op_modU (pe_callTy call_intU (by rfl) T.b_int (by decide +kernel) (pa_cons (pe_op op_fdivU (pv 6) pe_int) pa_nil)) (pv 1))))))))))))
theorem ok_law_pick {P : Program} {w : World} {K : PySem.W.Frag} {mg : Str → Option Value} {base : Heap} {A : Ad} (T : Txt K mg A)
    (G_law_draw : FnG P w K mg base CX0 1 A.f_law_draw A.d_law_draw ["_law_pen_here", "_law_many"] (sp_law_draw K A)) :
    FnG P w K mg base CX0 3 A.f_law_pick A.d_law_pick ["_law_pen_here", "_law_some"] (sp_law_pick K A) := by
  refine okG T.F_law_pick sc_law_pick (fun vs H Q E h => ?_) (fun cdv A' outer s H vs Q E hr hG h => ⟨(t_law_pick_0 K A), ?_, pure_law_pick h⟩)
  · unfold sp_law_pick at h
    try unfold spPenL at h
    try unfold spDrawL at h
    try unfold spPickL at h
    try unfold spLaw at h
    try unfold spEqP at h
    try unfold spBoolP at h
    try unfold spRowsP at h
    split at h <;> first | rfl | exact h.elim
  · exact (pss_one (ps_ret (pe_ix ix_U (pv 1) (pe_callG G_law_draw (hr.mono (by decide)) hG rfl T.g_law_draw T.F_law_draw.kp T.B_law_draw .nil pass0 (pa_cons (pv 0) (pa_cons (pe_callB call_lenU (by rfl) T.b_len PySem.boot_len (pa_cons (pv 1) pa_nil)) pa_nil))) (fun _ _ => rfl))))
theorem ok_law_yes {P : Program} {w : World} {K : PySem.W.Frag} {mg : Str → Option Value} {base : Heap} {A : Ad} (T : Txt K mg A)
    (G_Enough_init : FnG P w K mg base CX0 1 A.f_Enough_init A.d_Enough_init ["self", "number", "heights", "text"] (sp_Enough_init K A))
    (G_Fits_init : FnG P w K mg base CX0 1 A.f_Fits_init A.d_Fits_init ["self", "number", "rises", "losses", "text"] (sp_Fits_init K A))
    (G_Cut_init : FnG P w K mg base CX0 1 A.f_Cut_init A.d_Cut_init ["self", "number", "heights", "text", "at"] (sp_Cut_init K A)) :
    FnG P w K mg base CX0 3 A.f_law_yes A.d_law_yes ["_law_x", "_law_y", "_law_z"] (sp_law_yes K A) := by
  obtain ⟨gK_Cut_init_at_text_heights_number, k_Cut_init_at_text_heights_number⟩ := T.KW_Cut_init_at_text_heights_number
  obtain ⟨gK_Enough_init_text_heights_number, k_Enough_init_text_heights_number⟩ := T.KW_Enough_init_text_heights_number
  obtain ⟨gK_Fits_init_text_losses_rises_number, k_Fits_init_text_losses_rises_number⟩ := T.KW_Fits_init_text_losses_rises_number
  refine okG T.F_law_yes sc_law_yes (fun vs H Q E h => ?_) (fun cdv A' outer s H vs Q E hr hG h => ⟨(t_law_yes_0 K A), ?_, pure_law_yes T.kf h⟩)
  · unfold sp_law_yes at h
    try unfold spPenL at h
    try unfold spDrawL at h
    try unfold spPickL at h
    try unfold spLaw at h
    try unfold spEqP at h
    try unfold spBoolP at h
    try unfold spRowsP at h
    split at h <;> first | rfl | exact h.elim
  · exact (pss_cons (ps_par (i := 3) (j := 4) rfl sc_law_yes.nd rfl rfl (by decide) rfl rfl (pa_cons (pe_makeG T.M_Enough G_Enough_init (hr.mono (by decide)) hG rfl T.g_Enough T.B_Enough_init .nil pass0 (pa_cons (pv 0) (pa_cons (pv 1) (pa_cons (pv 2) pa_nil)))) (pa_cons (pe_makeKG0 T.M_Enough G_Enough_init (hr.mono (by decide)) hG rfl T.g_Enough k_Enough_init_text_heights_number pass0 (pk_cons (pv 2) (pk_cons (pv 1) (pk_cons (pv 0) pk_nil)))) pa_nil)) rfl)
    (pss_cons (ps_set (i := 5) sc_law_yes.nd rfl (Or.inl rfl) (pe_lstN (pa_cons (pe_tup (pa_cons (pv 3) (pa_cons (pv 4) (pa_cons (pe_lstN (pa_cons (pe_fld (pv 3) rfl) (pa_cons (pe_fld (pv 3) rfl) (pa_cons (pe_fld (pv 3) rfl) pa_nil)))) (pa_cons (pe_lstN (pa_cons (pv 0) (pa_cons (pv 1) (pa_cons (pv 2) pa_nil)))) pa_nil))))) pa_nil)))
    (pss_cons (ps_par (i := 3) (j := 4) rfl sc_law_yes.nd rfl rfl (by decide) rfl rfl (pa_cons (pe_makeG T.M_Fits G_Fits_init (hr.mono (by decide)) hG rfl T.g_Fits T.B_Fits_init .nil pass0 (pa_cons (pv 0) (pa_cons (pv 1) (pa_cons (pv 2) (pa_cons (pv 0) pa_nil))))) (pa_cons (pe_makeKG0 T.M_Fits G_Fits_init (hr.mono (by decide)) hG rfl T.g_Fits k_Fits_init_text_losses_rises_number pass0 (pk_cons (pv 0) (pk_cons (pv 2) (pk_cons (pv 1) (pk_cons (pv 0) pk_nil))))) pa_nil)) rfl)
    (pss_cons (ps_expr (pe_bm PySem.F.plainAttrs_list PySem.F.slot_list_append PySem.F.type_list_append mt_append (pv 5) (pa_cons (pe_tup (pa_cons (pv 3) (pa_cons (pv 4) (pa_cons (pe_lstN (pa_cons (pe_fld (pv 3) rfl) (pa_cons (pe_fld (pv 3) rfl) (pa_cons (pe_fld (pv 3) rfl) (pa_cons (pe_fld (pv 3) rfl) pa_nil))))) (pa_cons (pe_lstN (pa_cons (pv 0) (pa_cons (pv 1) (pa_cons (pv 2) (pa_cons (pv 0) pa_nil))))) pa_nil))))) pa_nil)))
    (pss_cons (ps_par (i := 3) (j := 4) rfl sc_law_yes.nd rfl rfl (by decide) rfl rfl (pa_cons (pe_makeG T.M_Cut G_Cut_init (hr.mono (by decide)) hG rfl T.g_Cut T.B_Cut_init .nil pass0 (pa_cons (pv 0) (pa_cons (pv 1) (pa_cons (pv 2) (pa_cons (pv 0) pa_nil))))) (pa_cons (pe_makeKG0 T.M_Cut G_Cut_init (hr.mono (by decide)) hG rfl T.g_Cut k_Cut_init_at_text_heights_number pass0 (pk_cons (pv 0) (pk_cons (pv 2) (pk_cons (pv 1) (pk_cons (pv 0) pk_nil))))) pa_nil)) rfl)
    (pss_cons (ps_expr (pe_bm PySem.F.plainAttrs_list PySem.F.slot_list_append PySem.F.type_list_append mt_append (pv 5) (pa_cons (pe_tup (pa_cons (pv 3) (pa_cons (pv 4) (pa_cons (pe_lstN (pa_cons (pe_fld (pv 3) rfl) (pa_cons (pe_fld (pv 3) rfl) (pa_cons (pe_fld (pv 3) rfl) (pa_cons (pe_fld (pv 3) rfl) pa_nil))))) (pa_cons (pe_lstN (pa_cons (pv 0) (pa_cons (pv 1) (pa_cons (pv 2) (pa_cons (pv 0) pa_nil))))) pa_nil))))) pa_nil)))
    (pss_one (ps_ret (pv 5)))))))))
theorem ok_law_no {P : Program} {w : World} {K : PySem.W.Frag} {mg : Str → Option Value} {base : Heap} {A : Ad} (T : Txt K mg A)
    (G_Never_init : FnG P w K mg base CX0 1 A.f_Never_init A.d_Never_init ["self", "ahead", "ring", "behind"] (sp_Never_init K A))
    (G_Beyond_init : FnG P w K mg base CX0 1 A.f_Beyond_init A.d_Beyond_init ["self", "ahead", "rising", "between", "falling", "behind"] (sp_Beyond_init K A))
    (G_EndlessCut_init : FnG P w K mg base CX0 1 A.f_EndlessCut_init A.d_EndlessCut_init ["self", "text", "at", "ring", "behind"] (sp_EndlessCut_init K A)) :
    FnG P w K mg base CX0 3 A.f_law_no A.d_law_no ["_law_x", "_law_y", "_law_z"] (sp_law_no K A) := by
  obtain ⟨gK_Beyond_init_behind_falling_between_rising_ahead, k_Beyond_init_behind_falling_between_rising_ahead⟩ := T.KW_Beyond_init_behind_falling_between_rising_ahead
  obtain ⟨gK_EndlessCut_init_behind_ring_at_text, k_EndlessCut_init_behind_ring_at_text⟩ := T.KW_EndlessCut_init_behind_ring_at_text
  obtain ⟨gK_Never_init_behind_ring_ahead, k_Never_init_behind_ring_ahead⟩ := T.KW_Never_init_behind_ring_ahead
  refine okG T.F_law_no sc_law_no (fun vs H Q E h => ?_) (fun cdv A' outer s H vs Q E hr hG h => ⟨(t_law_no_0 K A), ?_, pure_law_no T.kf h⟩)
  · unfold sp_law_no at h
    try unfold spPenL at h
    try unfold spDrawL at h
    try unfold spPickL at h
    try unfold spLaw at h
    try unfold spEqP at h
    try unfold spBoolP at h
    try unfold spRowsP at h
    split at h <;> first | rfl | exact h.elim
  · exact (pss_cons (ps_par (i := 3) (j := 4) rfl sc_law_no.nd rfl rfl (by decide) rfl rfl (pa_cons (pe_makeG T.M_Never G_Never_init (hr.mono (by decide)) hG rfl T.g_Never T.B_Never_init .nil pass0 (pa_cons (pv 0) (pa_cons (pv 1) (pa_cons (pv 2) pa_nil)))) (pa_cons (pe_makeKG0 T.M_Never G_Never_init (hr.mono (by decide)) hG rfl T.g_Never k_Never_init_behind_ring_ahead pass0 (pk_cons (pv 2) (pk_cons (pv 1) (pk_cons (pv 0) pk_nil)))) pa_nil)) rfl)
    (pss_cons (ps_set (i := 5) sc_law_no.nd rfl (Or.inl rfl) (pe_lstN (pa_cons (pe_tup (pa_cons (pv 3) (pa_cons (pv 4) (pa_cons (pe_lstN (pa_cons (pe_fld (pv 3) rfl) (pa_cons (pe_fld (pv 3) rfl) (pa_cons (pe_fld (pv 3) rfl) pa_nil)))) (pa_cons (pe_lstN (pa_cons (pv 0) (pa_cons (pv 1) (pa_cons (pv 2) pa_nil)))) pa_nil))))) pa_nil)))
    (pss_cons (ps_par (i := 3) (j := 4) rfl sc_law_no.nd rfl rfl (by decide) rfl rfl (pa_cons (pe_makeG T.M_Beyond G_Beyond_init (hr.mono (by decide)) hG rfl T.g_Beyond T.B_Beyond_init .nil pass0 (pa_cons (pv 0) (pa_cons (pv 1) (pa_cons (pv 2) (pa_cons (pv 0) (pa_cons (pv 1) pa_nil)))))) (pa_cons (pe_makeKG0 T.M_Beyond G_Beyond_init (hr.mono (by decide)) hG rfl T.g_Beyond k_Beyond_init_behind_falling_between_rising_ahead pass0 (pk_cons (pv 1) (pk_cons (pv 0) (pk_cons (pv 2) (pk_cons (pv 1) (pk_cons (pv 0) pk_nil)))))) pa_nil)) rfl)
    (pss_cons (ps_expr (pe_bm PySem.F.plainAttrs_list PySem.F.slot_list_append PySem.F.type_list_append mt_append (pv 5) (pa_cons (pe_tup (pa_cons (pv 3) (pa_cons (pv 4) (pa_cons (pe_lstN (pa_cons (pe_fld (pv 3) rfl) (pa_cons (pe_fld (pv 3) rfl) (pa_cons (pe_fld (pv 3) rfl) (pa_cons (pe_fld (pv 3) rfl) (pa_cons (pe_fld (pv 3) rfl) pa_nil)))))) (pa_cons (pe_lstN (pa_cons (pv 0) (pa_cons (pv 1) (pa_cons (pv 2) (pa_cons (pv 0) (pa_cons (pv 1) pa_nil)))))) pa_nil))))) pa_nil)))
    (pss_cons (ps_par (i := 3) (j := 4) rfl sc_law_no.nd rfl rfl (by decide) rfl rfl (pa_cons (pe_makeG T.M_EndlessCut G_EndlessCut_init (hr.mono (by decide)) hG rfl T.g_EndlessCut T.B_EndlessCut_init .nil pass0 (pa_cons (pv 0) (pa_cons (pv 1) (pa_cons (pv 2) (pa_cons (pv 0) pa_nil))))) (pa_cons (pe_makeKG0 T.M_EndlessCut G_EndlessCut_init (hr.mono (by decide)) hG rfl T.g_EndlessCut k_EndlessCut_init_behind_ring_at_text pass0 (pk_cons (pv 0) (pk_cons (pv 2) (pk_cons (pv 1) (pk_cons (pv 0) pk_nil))))) pa_nil)) rfl)
    (pss_cons (ps_expr (pe_bm PySem.F.plainAttrs_list PySem.F.slot_list_append PySem.F.type_list_append mt_append (pv 5) (pa_cons (pe_tup (pa_cons (pv 3) (pa_cons (pv 4) (pa_cons (pe_lstN (pa_cons (pe_fld (pv 3) rfl) (pa_cons (pe_fld (pv 3) rfl) (pa_cons (pe_fld (pv 3) rfl) (pa_cons (pe_fld (pv 3) rfl) pa_nil))))) (pa_cons (pe_lstN (pa_cons (pv 0) (pa_cons (pv 1) (pa_cons (pv 2) (pa_cons (pv 0) pa_nil))))) pa_nil))))) pa_nil)))
    (pss_one (ps_ret (pv 5)))))))))
theorem ok_law_plain {P : Program} {w : World} {K : PySem.W.Frag} {mg : Str → Option Value} {base : Heap} {A : Ad} (T : Txt K mg A)
    (G_Table_init : FnG P w K mg base CX0 1 A.f_Table_init A.d_Table_init ["self", "growths"] (sp_Table_init K A))
    (G_Ring_init : FnG P w K mg base CX0 1 A.f_Ring_init A.d_Ring_init ["self", "state", "text"] (sp_Ring_init K A))
    (G_Mean_init : FnG P w K mg base CX0 1 A.f_Mean_init A.d_Mean_init ["self", "rate", "ring", "heights"] (sp_Mean_init K A))
    (G_Lengths_init : FnG P w K mg base CX0 1 A.f_Lengths_init A.d_Lengths_init ["self", "first", "steps", "tails"] (sp_Lengths_init K A)) :
    FnG P w K mg base CX0 3 A.f_law_plain A.d_law_plain ["_law_x", "_law_y", "_law_z"] (sp_law_plain K A) := by
  obtain ⟨gK_Lengths_init_tails_steps_first, k_Lengths_init_tails_steps_first⟩ := T.KW_Lengths_init_tails_steps_first
  obtain ⟨gK_Mean_init_heights_ring_rate, k_Mean_init_heights_ring_rate⟩ := T.KW_Mean_init_heights_ring_rate
  obtain ⟨gK_Ring_init_text_state, k_Ring_init_text_state⟩ := T.KW_Ring_init_text_state
  obtain ⟨gK_Table_init_growths, k_Table_init_growths⟩ := T.KW_Table_init_growths
  refine okG T.F_law_plain sc_law_plain (fun vs H Q E h => ?_) (fun cdv A' outer s H vs Q E hr hG h => ⟨(t_law_plain_0 K A), ?_, pure_law_plain T.kf h⟩)
  · unfold sp_law_plain at h
    try unfold spPenL at h
    try unfold spDrawL at h
    try unfold spPickL at h
    try unfold spLaw at h
    try unfold spEqP at h
    try unfold spBoolP at h
    try unfold spRowsP at h
    split at h <;> first | rfl | exact h.elim
  · exact (pss_cons (ps_par (i := 3) (j := 4) rfl sc_law_plain.nd rfl rfl (by decide) rfl rfl (pa_cons (pe_makeG T.M_Table G_Table_init (hr.mono (by decide)) hG rfl T.g_Table T.B_Table_init .nil pass0 (pa_cons (pv 0) pa_nil)) (pa_cons (pe_makeKG0 T.M_Table G_Table_init (hr.mono (by decide)) hG rfl T.g_Table k_Table_init_growths pass0 (pk_cons (pv 0) pk_nil)) pa_nil)) rfl)
    (pss_cons (ps_set (i := 5) sc_law_plain.nd rfl (Or.inl rfl) (pe_lstN (pa_cons (pe_tup (pa_cons (pv 3) (pa_cons (pv 4) (pa_cons (pe_lstN (pa_cons (pe_fld (pv 3) rfl) pa_nil)) (pa_cons (pe_lstN (pa_cons (pv 0) pa_nil)) pa_nil))))) pa_nil)))
    (pss_cons (ps_par (i := 3) (j := 4) rfl sc_law_plain.nd rfl rfl (by decide) rfl rfl (pa_cons (pe_makeG T.M_Ring G_Ring_init (hr.mono (by decide)) hG rfl T.g_Ring T.B_Ring_init .nil pass0 (pa_cons (pv 0) (pa_cons (pv 1) pa_nil))) (pa_cons (pe_makeKG0 T.M_Ring G_Ring_init (hr.mono (by decide)) hG rfl T.g_Ring k_Ring_init_text_state pass0 (pk_cons (pv 1) (pk_cons (pv 0) pk_nil))) pa_nil)) rfl)
    (pss_cons (ps_expr (pe_bm PySem.F.plainAttrs_list PySem.F.slot_list_append PySem.F.type_list_append mt_append (pv 5) (pa_cons (pe_tup (pa_cons (pv 3) (pa_cons (pv 4) (pa_cons (pe_lstN (pa_cons (pe_fld (pv 3) rfl) (pa_cons (pe_fld (pv 3) rfl) pa_nil))) (pa_cons (pe_lstN (pa_cons (pv 0) (pa_cons (pv 1) pa_nil))) pa_nil))))) pa_nil)))
    (pss_cons (ps_par (i := 3) (j := 4) rfl sc_law_plain.nd rfl rfl (by decide) rfl rfl (pa_cons (pe_makeG T.M_Mean G_Mean_init (hr.mono (by decide)) hG rfl T.g_Mean T.B_Mean_init .nil pass0 (pa_cons (pv 0) (pa_cons (pv 1) (pa_cons (pv 2) pa_nil)))) (pa_cons (pe_makeKG0 T.M_Mean G_Mean_init (hr.mono (by decide)) hG rfl T.g_Mean k_Mean_init_heights_ring_rate pass0 (pk_cons (pv 2) (pk_cons (pv 1) (pk_cons (pv 0) pk_nil)))) pa_nil)) rfl)
    (pss_cons (ps_expr (pe_bm PySem.F.plainAttrs_list PySem.F.slot_list_append PySem.F.type_list_append mt_append (pv 5) (pa_cons (pe_tup (pa_cons (pv 3) (pa_cons (pv 4) (pa_cons (pe_lstN (pa_cons (pe_fld (pv 3) rfl) (pa_cons (pe_fld (pv 3) rfl) (pa_cons (pe_fld (pv 3) rfl) pa_nil)))) (pa_cons (pe_lstN (pa_cons (pv 0) (pa_cons (pv 1) (pa_cons (pv 2) pa_nil)))) pa_nil))))) pa_nil)))
    (pss_cons (ps_par (i := 3) (j := 4) rfl sc_law_plain.nd rfl rfl (by decide) rfl rfl (pa_cons (pe_makeG T.M_Lengths G_Lengths_init (hr.mono (by decide)) hG rfl T.g_Lengths T.B_Lengths_init .nil pass0 (pa_cons (pv 0) (pa_cons (pv 1) (pa_cons (pv 2) pa_nil)))) (pa_cons (pe_makeKG0 T.M_Lengths G_Lengths_init (hr.mono (by decide)) hG rfl T.g_Lengths k_Lengths_init_tails_steps_first pass0 (pk_cons (pv 2) (pk_cons (pv 1) (pk_cons (pv 0) pk_nil)))) pa_nil)) rfl)
    (pss_cons (ps_expr (pe_bm PySem.F.plainAttrs_list PySem.F.slot_list_append PySem.F.type_list_append mt_append (pv 5) (pa_cons (pe_tup (pa_cons (pv 3) (pa_cons (pv 4) (pa_cons (pe_lstN (pa_cons (pe_fld (pv 3) rfl) (pa_cons (pe_fld (pv 3) rfl) (pa_cons (pe_fld (pv 3) rfl) pa_nil)))) (pa_cons (pe_lstN (pa_cons (pv 0) (pa_cons (pv 1) (pa_cons (pv 2) pa_nil)))) pa_nil))))) pa_nil)))
    (pss_one (ps_ret (pv 5)))))))))))
theorem ok_law {P : Program} {w : World} {K : PySem.W.Frag} {mg : Str → Option Value} {base : Heap} {A : Ad} (T : Txt K mg A)
    (G_Enough_eq : FnG P w K mg base CX0 1 A.f_Enough_eq A.d_Enough_eq ["self", "other"] (sp_Enough_eq K A))
    (G_Fits_eq : FnG P w K mg base CX0 1 A.f_Fits_eq A.d_Fits_eq ["self", "other"] (sp_Fits_eq K A))
    (G_Cut_eq : FnG P w K mg base CX0 1 A.f_Cut_eq A.d_Cut_eq ["self", "other"] (sp_Cut_eq K A))
    (G_Never_eq : FnG P w K mg base CX0 1 A.f_Never_eq A.d_Never_eq ["self", "other"] (sp_Never_eq K A))
    (G_Beyond_eq : FnG P w K mg base CX0 1 A.f_Beyond_eq A.d_Beyond_eq ["self", "other"] (sp_Beyond_eq K A))
    (G_EndlessCut_eq : FnG P w K mg base CX0 1 A.f_EndlessCut_eq A.d_EndlessCut_eq ["self", "other"] (sp_EndlessCut_eq K A))
    (G_Table_eq : FnG P w K mg base CX0 1 A.f_Table_eq A.d_Table_eq ["self", "other"] (sp_Table_eq K A))
    (G_Ring_eq : FnG P w K mg base CX0 1 A.f_Ring_eq A.d_Ring_eq ["self", "other"] (sp_Ring_eq K A))
    (G_Mean_eq : FnG P w K mg base CX0 1 A.f_Mean_eq A.d_Mean_eq ["self", "other"] (sp_Mean_eq K A))
    (G_Lengths_eq : FnG P w K mg base CX0 1 A.f_Lengths_eq A.d_Lengths_eq ["self", "other"] (sp_Lengths_eq K A))
    (G_Enough_bool : FnG P w K mg base CX0 1 A.f_Enough_bool A.d_Enough_bool ["self"] (sp_Enough_bool K A))
    (G_Fits_bool : FnG P w K mg base CX0 1 A.f_Fits_bool A.d_Fits_bool ["self"] (sp_Fits_bool K A))
    (G_Cut_bool : FnG P w K mg base CX0 1 A.f_Cut_bool A.d_Cut_bool ["self"] (sp_Cut_bool K A))
    (G_Never_bool : FnG P w K mg base CX0 1 A.f_Never_bool A.d_Never_bool ["self"] (sp_Never_bool K A))
    (G_Beyond_bool : FnG P w K mg base CX0 1 A.f_Beyond_bool A.d_Beyond_bool ["self"] (sp_Beyond_bool K A))
    (G_EndlessCut_bool : FnG P w K mg base CX0 1 A.f_EndlessCut_bool A.d_EndlessCut_bool ["self"] (sp_EndlessCut_bool K A))
    (G_law_pen : FnG P w K mg base CX0 1 A.f_law_pen A.d_law_pen ["_law_script"] (sp_law_pen K A))
    (G_law_pick : FnG P w K mg base CX0 3 A.f_law_pick A.d_law_pick ["_law_pen_here", "_law_some"] (sp_law_pick K A))
    (G_law_yes : FnG P w K mg base CX0 3 A.f_law_yes A.d_law_yes ["_law_x", "_law_y", "_law_z"] (sp_law_yes K A))
    (G_law_no : FnG P w K mg base CX0 3 A.f_law_no A.d_law_no ["_law_x", "_law_y", "_law_z"] (sp_law_no K A))
    (G_law_plain : FnG P w K mg base CX0 3 A.f_law_plain A.d_law_plain ["_law_x", "_law_y", "_law_z"] (sp_law_plain K A)) :
    FnG P w K mg base CX0 5 A.f_law A.d_law ["_law_script"] (sp_law K A) := by
  refine okG T.F_law sc_law (fun vs H Q E h => ?_) (fun cdv A' outer s H vs Q E hr hG h => ⟨(t_law_0 K A), ?_, pure_law T.kf h⟩)
  · unfold sp_law at h
    try unfold spPenL at h
    try unfold spDrawL at h
    try unfold spPickL at h
    try unfold spLaw at h
    try unfold spEqP at h
    try unfold spBoolP at h
    try unfold spRowsP at h
    split at h <;> first | rfl | exact h.elim
  · exact (pss_cons (ps_set (i := 1) sc_law.nd rfl (Or.inr rfl) (pe_callG G_law_pen (hr.mono (by decide)) hG rfl T.g_law_pen T.F_law_pen.kp T.B_law_pen .nil pass0 (pa_cons (pv 0) pa_nil)))
    (pss_cons (ps_set (i := 2) sc_law.nd rfl (Or.inr rfl) (pe_lstN (pa_cons pe_non (pa_cons pe_int (pa_cons pe_int (pa_cons pe_str (pa_cons pe_str (pa_cons (pe_tup (pa_cons pe_int (pa_cons pe_str pa_nil))) (pa_cons (pe_lstN (pa_cons pe_int pa_nil)) (pa_cons (pe_disp (pps_cons pe_str pe_non pps_nil) rfl rfl (fun z => nomatch z) (by decide)) (pa_cons (pe_un un_negU (pe_op op_powU pe_int pe_int)) pa_nil)))))))))))
    (pss_cons (ps_for never0 rfl (pi_range1 rfl T.b_range (pa_cons pe_int pa_nil)) (pg_name (i := 3) sc_law.nd rfl (Or.inl rfl))
    (pss_cons (ps_asg (pe_lc (own := [("_law_again", 18)]) (g := (gName 18)) (tt := tYes) (by rfl) sc_law.nd (pi_range1 rfl T.b_range (pa_cons pe_int pa_nil)) (blkOk_by (own := [("_law_again", 18)]) (N := ["_law_script", "_law_pen_here", "_law_some", "_law_turn", "_law_x", "_law_y", "_law_z", "_law_w", "_law_yes_here", "_law_no_here", "_law_plain_here", "_law_one", "_law_other", "_law_told", "_law_due", "_law_late", "_law_at", "_law_row", "_law_again"]) (sc := defScope s_law) (by decide +kernel)) (fun _ _ _ _ _ => (pg_name (i := 18) sc_law.nd rfl (Or.inl rfl))) (fun _ _ _ _ _ => pts_nil) (fun _ _ _ _ _ => (pe_callG G_law_pick (hr.mono (by decide)) hG rfl T.g_law_pick T.F_law_pick.kp T.B_law_pick .nil pass0 (pa_cons (pv 1) (pa_cons (pv 2) pa_nil))))) (pg_lst rfl (pgs_cons (pg_name (i := 4) sc_law.nd rfl (Or.inl rfl)) (pgs_cons (pg_name (i := 5) sc_law.nd rfl (Or.inl rfl)) (pgs_cons (pg_name (i := 6) sc_law.nd rfl (Or.inl rfl)) (pgs_cons (pg_name (i := 7) sc_law.nd rfl (Or.inl rfl)) pgs_nil))))))
    (pss_cons (ps_par3 (i := 8) (j := 9) (l := 10) rfl sc_law.nd rfl rfl rfl (by decide) (by decide) (by decide) rfl rfl rfl (pa_cons (pe_callG G_law_yes (hr.mono (by decide)) hG rfl T.g_law_yes T.F_law_yes.kp T.B_law_yes .nil pass0 (pa_cons (pv 4) (pa_cons (pv 5) (pa_cons (pv 6) pa_nil)))) (pa_cons (pe_callG G_law_no (hr.mono (by decide)) hG rfl T.g_law_no T.F_law_no.kp T.B_law_no .nil pass0 (pa_cons (pv 4) (pa_cons (pv 5) (pa_cons (pv 6) pa_nil)))) (pa_cons (pe_callG G_law_plain (hr.mono (by decide)) hG rfl T.g_law_plain T.F_law_plain.kp T.B_law_plain .nil pass0 (pa_cons (pv 4) (pa_cons (pv 5) (pa_cons (pv 6) pa_nil)))) pa_nil))) rfl)
    (pss_cons (ps_for never0 rfl (pi_seq (pe_op op_addU (pe_op op_addU (pv 8) (pv 9)) (pv 10))) (pg_tup rfl (pgs_cons (pg_name (i := 11) sc_law.nd rfl (Or.inr rfl)) (pgs_cons (pg_name (i := 12) sc_law.nd rfl (Or.inl rfl)) (pgs_cons (pg_name (i := 13) sc_law.nd rfl (Or.inl rfl)) (pgs_cons (pg_name (i := 14) sc_law.nd rfl (Or.inl rfl)) pgs_nil)))))
    (pss_cons (ps_if (PW.pt (pw_or (pt_cmpR (op_neU hr.units) (pe_callB (call_repr9 hG hr.units) (by rfl) T.b_repr (by decide +kernel) (pa_cons (pv 13) pa_nil)) (pe_callB (call_repr9 hG hr.units) (by rfl) T.b_repr (by decide +kernel) (pa_cons (pv 14) pa_nil)) (nomark _)) (pw_or (pt_cmpR (op_anyR (.cons (op_neK T.nk_Enough (own1G G_Enough_eq (hr.mono (by decide)) hG T.B_Enough_eq pass0) hr.units1) (.cons (op_neK T.nk_Fits (own1G G_Fits_eq (hr.mono (by decide)) hG T.B_Fits_eq pass0) hr.units1) (.cons (op_neK T.nk_Cut (own1G G_Cut_eq (hr.mono (by decide)) hG T.B_Cut_eq pass0) hr.units1) (.cons (op_neK T.nk_Never (own1G G_Never_eq (hr.mono (by decide)) hG T.B_Never_eq pass0) hr.units1) (.cons (op_neK T.nk_Beyond (own1G G_Beyond_eq (hr.mono (by decide)) hG T.B_Beyond_eq pass0) hr.units1) (.cons (op_neK T.nk_EndlessCut (own1G G_EndlessCut_eq (hr.mono (by decide)) hG T.B_EndlessCut_eq pass0) hr.units1) (.cons (op_neK T.nk_Table (own1G G_Table_eq (hr.mono (by decide)) hG T.B_Table_eq pass0) hr.units1) (.cons (op_neK T.nk_Ring (own1G G_Ring_eq (hr.mono (by decide)) hG T.B_Ring_eq pass0) hr.units1) (.cons (op_neK T.nk_Mean (own1G G_Mean_eq (hr.mono (by decide)) hG T.B_Mean_eq pass0) hr.units1) (.cons (op_neK T.nk_Lengths (own1G G_Lengths_eq (hr.mono (by decide)) hG T.B_Lengths_eq pass0) hr.units1) .nil))))))))))) (pv 11) (pv 12) (nomark _)) (pw_or (pt_cmpR (op_anyR (.cons (op_cmp T.q_Enough_eq (ownG G_Enough_eq (hr.mono (by decide)) hG T.B_Enough_eq pass0) hr.units0) (.cons (op_cmp T.q_Fits_eq (ownG G_Fits_eq (hr.mono (by decide)) hG T.B_Fits_eq pass0) hr.units0) (.cons (op_cmp T.q_Cut_eq (ownG G_Cut_eq (hr.mono (by decide)) hG T.B_Cut_eq pass0) hr.units0) (.cons (op_cmp T.q_Never_eq (ownG G_Never_eq (hr.mono (by decide)) hG T.B_Never_eq pass0) hr.units0) (.cons (op_cmp T.q_Beyond_eq (ownG G_Beyond_eq (hr.mono (by decide)) hG T.B_Beyond_eq pass0) hr.units0) (.cons (op_cmp T.q_EndlessCut_eq (ownG G_EndlessCut_eq (hr.mono (by decide)) hG T.B_EndlessCut_eq pass0) hr.units0) (.cons (op_cmp T.q_Table_eq (ownG G_Table_eq (hr.mono (by decide)) hG T.B_Table_eq pass0) hr.units0) (.cons (op_cmp T.q_Ring_eq (ownG G_Ring_eq (hr.mono (by decide)) hG T.B_Ring_eq pass0) hr.units0) (.cons (op_cmp T.q_Mean_eq (ownG G_Mean_eq (hr.mono (by decide)) hG T.B_Mean_eq pass0) hr.units0) (.cons (op_cmp T.q_Lengths_eq (ownG G_Lengths_eq (hr.mono (by decide)) hG T.B_Lengths_eq pass0) hr.units0) .nil))))))))))) (pv 11) (pe_callTy call_tupE (by rfl) T.b_tuple (by decide +kernel) (pa_cons (pv 14) pa_nil)) (nomark _)) (pw_or (pt_cmpR (op_anyR (.cons (op_cmp T.q_Enough_eq (ownG G_Enough_eq (hr.mono (by decide)) hG T.B_Enough_eq pass0) hr.units0) (.cons (op_cmp T.q_Fits_eq (ownG G_Fits_eq (hr.mono (by decide)) hG T.B_Fits_eq pass0) hr.units0) (.cons (op_cmp T.q_Cut_eq (ownG G_Cut_eq (hr.mono (by decide)) hG T.B_Cut_eq pass0) hr.units0) (.cons (op_cmp T.q_Never_eq (ownG G_Never_eq (hr.mono (by decide)) hG T.B_Never_eq pass0) hr.units0) (.cons (op_cmp T.q_Beyond_eq (ownG G_Beyond_eq (hr.mono (by decide)) hG T.B_Beyond_eq pass0) hr.units0) (.cons (op_cmp T.q_EndlessCut_eq (ownG G_EndlessCut_eq (hr.mono (by decide)) hG T.B_EndlessCut_eq pass0) hr.units0) (.cons (op_cmp T.q_Table_eq (ownG G_Table_eq (hr.mono (by decide)) hG T.B_Table_eq pass0) hr.units0) (.cons (op_cmp T.q_Ring_eq (ownG G_Ring_eq (hr.mono (by decide)) hG T.B_Ring_eq pass0) hr.units0) (.cons (op_cmp T.q_Mean_eq (ownG G_Mean_eq (hr.mono (by decide)) hG T.B_Mean_eq pass0) hr.units0) (.cons (op_cmp T.q_Lengths_eq (ownG G_Lengths_eq (hr.mono (by decide)) hG T.B_Lengths_eq pass0) hr.units0) .nil))))))))))) (pv 11) (pv 14) (nomark _)) (pw_or1 (pt_cmpR op_isU (pv 11) pe_non (nomark _)))))))) (pss_one (ps_ret pe_bl)) pss_nil)
    (pss_one (ps_if (pt_cmpR (op_neRow hr.units) (pe_lc (own := [("_law_row", 17)]) (g := (gName 17)) (tt := (tTest (tOp (anyR [(rCmp K A.c_Enough (sp_Enough_eq K A)), (rCmp K A.c_Fits (sp_Fits_eq K A)), (rCmp K A.c_Cut (sp_Cut_eq K A)), (rCmp K A.c_Never (sp_Never_eq K A)), (rCmp K A.c_Beyond (sp_Beyond_eq K A)), (rCmp K A.c_EndlessCut (sp_EndlessCut_eq K A)), (rCmp K A.c_Table (sp_Table_eq K A)), (rCmp K A.c_Ring (sp_Ring_eq K A)), (rCmp K A.c_Mean (sp_Mean_eq K A)), (rCmp K A.c_Lengths (sp_Lengths_eq K A))]) (tOp (rIx K) (tVar 17) (tC (.int 0))) (tVar 11)))) (by rfl) sc_law.nd (pi_seq (pe_op op_addU (pe_op op_addU (pv 8) (pv 9)) (pv 10))) (blkOk_by (own := [("_law_row", 17)]) (N := ["_law_script", "_law_pen_here", "_law_some", "_law_turn", "_law_x", "_law_y", "_law_z", "_law_w", "_law_yes_here", "_law_no_here", "_law_plain_here", "_law_one", "_law_other", "_law_told", "_law_due", "_law_late", "_law_at", "_law_row", "_law_again"]) (sc := defScope s_law) (by decide +kernel)) (fun _ _ _ _ _ => (pg_name (i := 17) sc_law.nd rfl (Or.inl rfl))) (fun _ _ _ _ _ => (pts_one (pt_cmpR (op_anyR (.cons (op_cmp T.q_Enough_eq (ownG G_Enough_eq (hr.mono (by decide)) hG T.B_Enough_eq pass0) hr.units0) (.cons (op_cmp T.q_Fits_eq (ownG G_Fits_eq (hr.mono (by decide)) hG T.B_Fits_eq pass0) hr.units0) (.cons (op_cmp T.q_Cut_eq (ownG G_Cut_eq (hr.mono (by decide)) hG T.B_Cut_eq pass0) hr.units0) (.cons (op_cmp T.q_Never_eq (ownG G_Never_eq (hr.mono (by decide)) hG T.B_Never_eq pass0) hr.units0) (.cons (op_cmp T.q_Beyond_eq (ownG G_Beyond_eq (hr.mono (by decide)) hG T.B_Beyond_eq pass0) hr.units0) (.cons (op_cmp T.q_EndlessCut_eq (ownG G_EndlessCut_eq (hr.mono (by decide)) hG T.B_EndlessCut_eq pass0) hr.units0) (.cons (op_cmp T.q_Table_eq (ownG G_Table_eq (hr.mono (by decide)) hG T.B_Table_eq pass0) hr.units0) (.cons (op_cmp T.q_Ring_eq (ownG G_Ring_eq (hr.mono (by decide)) hG T.B_Ring_eq pass0) hr.units0) (.cons (op_cmp T.q_Mean_eq (ownG G_Mean_eq (hr.mono (by decide)) hG T.B_Mean_eq pass0) hr.units0) (.cons (op_cmp T.q_Lengths_eq (ownG G_Lengths_eq (hr.mono (by decide)) hG T.B_Lengths_eq pass0) hr.units0) .nil))))))))))) (pe_ix ix_seq (pv 17) pe_int (fun _ _ => rfl)) (pv 11) (nomark _)))) (fun _ _ _ _ _ => (pv 17))) (pe_lstN (pa_cons (pe_tup (pa_cons (pv 11) (pa_cons (pv 12) (pa_cons (pv 13) (pa_cons (pv 14) pa_nil))))) pa_nil)) (nomark _)) (pss_one (ps_ret pe_bl)) pss_nil))))
    (pss_cons (ps_for never0 rfl (pi_seq (pe_op op_addU (pv 8) (pv 9))) (pg_tup rfl (pgs_cons (pg_name (i := 11) sc_law.nd rfl (Or.inr rfl)) (pgs_cons (pg_name (i := 12) sc_law.nd rfl (Or.inl rfl)) (pgs_cons (pg_name (i := 13) sc_law.nd rfl (Or.inl rfl)) (pgs_cons (pg_name (i := 14) sc_law.nd rfl (Or.inl rfl)) pgs_nil)))))
    (pss_one (ps_if (pt_not (pt_val (pe_callB call_isiU (by rfl) T.b_isinstance (by decide +kernel) (pa_cons (pv 11) (pa_cons (pe_glob rfl T.g_Verdict rfl) pa_nil))))) (pss_one (ps_ret pe_bl)) pss_nil)))
    (pss_cons (ps_if (pt_cmpR (op_neU hr.units) (pe_lc (own := [("_law_row", 17)]) (g := (gName 17)) (tt := tYes) (by rfl) sc_law.nd (pi_seq (pe_op op_addU (pv 8) (pv 9))) (blkOk_by (own := [("_law_row", 17)]) (N := ["_law_script", "_law_pen_here", "_law_some", "_law_turn", "_law_x", "_law_y", "_law_z", "_law_w", "_law_yes_here", "_law_no_here", "_law_plain_here", "_law_one", "_law_other", "_law_told", "_law_due", "_law_late", "_law_at", "_law_row", "_law_again"]) (sc := defScope s_law) (by decide +kernel)) (fun _ _ _ _ _ => (pg_name (i := 17) sc_law.nd rfl (Or.inl rfl))) (fun _ _ _ _ _ => pts_nil) (fun _ _ _ _ _ => (pe_callTy (call_anyC (.cons (call_boolO T.bo_Enough (own2G G_Enough_bool (hr.mono (by decide)) hG T.B_Enough_bool pass0)) (.cons (call_boolO T.bo_Fits (own2G G_Fits_bool (hr.mono (by decide)) hG T.B_Fits_bool pass0)) (.cons (call_boolO T.bo_Cut (own2G G_Cut_bool (hr.mono (by decide)) hG T.B_Cut_bool pass0)) (.cons (call_boolO T.bo_Never (own2G G_Never_bool (hr.mono (by decide)) hG T.B_Never_bool pass0)) (.cons (call_boolO T.bo_Beyond (own2G G_Beyond_bool (hr.mono (by decide)) hG T.B_Beyond_bool pass0)) (.cons (call_boolO T.bo_EndlessCut (own2G G_EndlessCut_bool (hr.mono (by decide)) hG T.B_EndlessCut_bool pass0)) .nil))))))) (by rfl) T.b_bool (by decide +kernel) (pa_cons (pe_ix ix_seq (pv 17) pe_int (fun _ _ => rfl)) pa_nil)))) (pe_op op_addU (pe_op op_rep (pe_lstN (pa_cons pe_bl pa_nil)) pe_int) (pe_op op_rep (pe_lstN (pa_cons pe_bl pa_nil)) pe_int)) (nomark _)) (pss_one (ps_ret pe_bl)) pss_nil)
    (pss_cons (ps_set (i := 15) sc_law.nd rfl (Or.inl rfl) (pe_op op_addU (pe_op op_addU (pe_callG G_law_yes (hr.mono (by decide)) hG rfl T.g_law_yes T.F_law_yes.kp T.B_law_yes .nil pass0 (pa_cons (pv 7) (pa_cons (pv 5) (pa_cons (pv 6) pa_nil)))) (pe_callG G_law_no (hr.mono (by decide)) hG rfl T.g_law_no T.F_law_no.kp T.B_law_no .nil pass0 (pa_cons (pv 7) (pa_cons (pv 5) (pa_cons (pv 6) pa_nil))))) (pe_callG G_law_plain (hr.mono (by decide)) hG rfl T.g_law_plain T.F_law_plain.kp T.B_law_plain .nil pass0 (pa_cons (pv 7) (pa_cons (pv 5) (pa_cons (pv 6) pa_nil))))))
    (pss_one (ps_for never0 rfl (pi_enum (by rfl) T.b_enumerate (pa_cons (pe_op op_addU (pe_op op_addU (pv 8) (pv 9)) (pv 10)) pa_nil)) (pg_tup rfl (pgs_cons (pg_name (i := 16) sc_law.nd rfl (Or.inl rfl)) (pgs_cons (pg_name (i := 17) sc_law.nd rfl (Or.inl rfl)) pgs_nil)))
    (pss_one (ps_if (pt_cmpR (op_neU hr.units) (pe_cmpR (op_anyR (.cons (op_cmp T.q_Enough_eq (ownG G_Enough_eq (hr.mono (by decide)) hG T.B_Enough_eq pass0) hr.units0) (.cons (op_cmp T.q_Fits_eq (ownG G_Fits_eq (hr.mono (by decide)) hG T.B_Fits_eq pass0) hr.units0) (.cons (op_cmp T.q_Cut_eq (ownG G_Cut_eq (hr.mono (by decide)) hG T.B_Cut_eq pass0) hr.units0) (.cons (op_cmp T.q_Never_eq (ownG G_Never_eq (hr.mono (by decide)) hG T.B_Never_eq pass0) hr.units0) (.cons (op_cmp T.q_Beyond_eq (ownG G_Beyond_eq (hr.mono (by decide)) hG T.B_Beyond_eq pass0) hr.units0) (.cons (op_cmp T.q_EndlessCut_eq (ownG G_EndlessCut_eq (hr.mono (by decide)) hG T.B_EndlessCut_eq pass0) hr.units0) (.cons (op_cmp T.q_Table_eq (ownG G_Table_eq (hr.mono (by decide)) hG T.B_Table_eq pass0) hr.units0) (.cons (op_cmp T.q_Ring_eq (ownG G_Ring_eq (hr.mono (by decide)) hG T.B_Ring_eq pass0) hr.units0) (.cons (op_cmp T.q_Mean_eq (ownG G_Mean_eq (hr.mono (by decide)) hG T.B_Mean_eq pass0) hr.units0) (.cons (op_cmp T.q_Lengths_eq (ownG G_Lengths_eq (hr.mono (by decide)) hG T.B_Lengths_eq pass0) hr.units0) .nil))))))))))) (pe_ix ix_seq (pv 17) pe_int (fun _ _ => rfl)) (pe_ix ix_seq (pe_ix ix_seq (pv 15) (pv 16) (fun _ _ => rfl)) pe_int (fun _ _ => rfl)) (nomark _)) (pe_cmpR (op_eq9 hr.units) (pv 4) (pv 7) (nomark _)) (nomark _)) (pss_one (ps_ret pe_bl)) pss_nil)))))))))))
    (pss_one (ps_ret pe_bl)))))

theorem ok_all {P : Program} {w : World} {K : PySem.W.Frag} {mg : Str → Option Value} {base : Heap} {A : Ad} (T : Txt K mg A) : FnG P w K mg base CX0 5 A.f_law A.d_law ["_law_script"] (sp_law K A) := by
  have G_Enough_init : FnG P w K mg base CX0 1 A.f_Enough_init A.d_Enough_init ["self", "number", "heights", "text"] (sp_Enough_init K A) := ok_Enough_init T
  have G_Fits_init : FnG P w K mg base CX0 1 A.f_Fits_init A.d_Fits_init ["self", "number", "rises", "losses", "text"] (sp_Fits_init K A) := ok_Fits_init T
  have G_Cut_init : FnG P w K mg base CX0 1 A.f_Cut_init A.d_Cut_init ["self", "number", "heights", "text", "at"] (sp_Cut_init K A) := ok_Cut_init T
  have G_Never_init : FnG P w K mg base CX0 1 A.f_Never_init A.d_Never_init ["self", "ahead", "ring", "behind"] (sp_Never_init K A) := ok_Never_init T
  have G_Beyond_init : FnG P w K mg base CX0 1 A.f_Beyond_init A.d_Beyond_init ["self", "ahead", "rising", "between", "falling", "behind"] (sp_Beyond_init K A) := ok_Beyond_init T
  have G_EndlessCut_init : FnG P w K mg base CX0 1 A.f_EndlessCut_init A.d_EndlessCut_init ["self", "text", "at", "ring", "behind"] (sp_EndlessCut_init K A) := ok_EndlessCut_init T
  have G_Table_init : FnG P w K mg base CX0 1 A.f_Table_init A.d_Table_init ["self", "growths"] (sp_Table_init K A) := ok_Table_init T
  have G_Ring_init : FnG P w K mg base CX0 1 A.f_Ring_init A.d_Ring_init ["self", "state", "text"] (sp_Ring_init K A) := ok_Ring_init T
  have G_Mean_init : FnG P w K mg base CX0 1 A.f_Mean_init A.d_Mean_init ["self", "rate", "ring", "heights"] (sp_Mean_init K A) := ok_Mean_init T
  have G_Lengths_init : FnG P w K mg base CX0 1 A.f_Lengths_init A.d_Lengths_init ["self", "first", "steps", "tails"] (sp_Lengths_init K A) := ok_Lengths_init T
  have G_Enough_eq : FnG P w K mg base CX0 1 A.f_Enough_eq A.d_Enough_eq ["self", "other"] (sp_Enough_eq K A) := ok_Enough_eq T
  have G_Fits_eq : FnG P w K mg base CX0 1 A.f_Fits_eq A.d_Fits_eq ["self", "other"] (sp_Fits_eq K A) := ok_Fits_eq T
  have G_Cut_eq : FnG P w K mg base CX0 1 A.f_Cut_eq A.d_Cut_eq ["self", "other"] (sp_Cut_eq K A) := ok_Cut_eq T
  have G_Never_eq : FnG P w K mg base CX0 1 A.f_Never_eq A.d_Never_eq ["self", "other"] (sp_Never_eq K A) := ok_Never_eq T
  have G_Beyond_eq : FnG P w K mg base CX0 1 A.f_Beyond_eq A.d_Beyond_eq ["self", "other"] (sp_Beyond_eq K A) := ok_Beyond_eq T
  have G_EndlessCut_eq : FnG P w K mg base CX0 1 A.f_EndlessCut_eq A.d_EndlessCut_eq ["self", "other"] (sp_EndlessCut_eq K A) := ok_EndlessCut_eq T
  have G_Table_eq : FnG P w K mg base CX0 1 A.f_Table_eq A.d_Table_eq ["self", "other"] (sp_Table_eq K A) := ok_Table_eq T
  have G_Ring_eq : FnG P w K mg base CX0 1 A.f_Ring_eq A.d_Ring_eq ["self", "other"] (sp_Ring_eq K A) := ok_Ring_eq T
  have G_Mean_eq : FnG P w K mg base CX0 1 A.f_Mean_eq A.d_Mean_eq ["self", "other"] (sp_Mean_eq K A) := ok_Mean_eq T
  have G_Lengths_eq : FnG P w K mg base CX0 1 A.f_Lengths_eq A.d_Lengths_eq ["self", "other"] (sp_Lengths_eq K A) := ok_Lengths_eq T
  have G_Enough_bool : FnG P w K mg base CX0 1 A.f_Enough_bool A.d_Enough_bool ["self"] (sp_Enough_bool K A) := ok_Enough_bool T
  have G_Fits_bool : FnG P w K mg base CX0 1 A.f_Fits_bool A.d_Fits_bool ["self"] (sp_Fits_bool K A) := ok_Fits_bool T
  have G_Cut_bool : FnG P w K mg base CX0 1 A.f_Cut_bool A.d_Cut_bool ["self"] (sp_Cut_bool K A) := ok_Cut_bool T
  have G_Never_bool : FnG P w K mg base CX0 1 A.f_Never_bool A.d_Never_bool ["self"] (sp_Never_bool K A) := ok_Never_bool T
  have G_Beyond_bool : FnG P w K mg base CX0 1 A.f_Beyond_bool A.d_Beyond_bool ["self"] (sp_Beyond_bool K A) := ok_Beyond_bool T
  have G_EndlessCut_bool : FnG P w K mg base CX0 1 A.f_EndlessCut_bool A.d_EndlessCut_bool ["self"] (sp_EndlessCut_bool K A) := ok_EndlessCut_bool T
  have G_law_pen : FnG P w K mg base CX0 1 A.f_law_pen A.d_law_pen ["_law_script"] (sp_law_pen K A) := ok_law_pen T
  have G_law_draw : FnG P w K mg base CX0 1 A.f_law_draw A.d_law_draw ["_law_pen_here", "_law_many"] (sp_law_draw K A) := ok_law_draw T
  have G_law_pick : FnG P w K mg base CX0 3 A.f_law_pick A.d_law_pick ["_law_pen_here", "_law_some"] (sp_law_pick K A) := ok_law_pick T G_law_draw
  have G_law_yes : FnG P w K mg base CX0 3 A.f_law_yes A.d_law_yes ["_law_x", "_law_y", "_law_z"] (sp_law_yes K A) := ok_law_yes T G_Enough_init G_Fits_init G_Cut_init
  have G_law_no : FnG P w K mg base CX0 3 A.f_law_no A.d_law_no ["_law_x", "_law_y", "_law_z"] (sp_law_no K A) := ok_law_no T G_Never_init G_Beyond_init G_EndlessCut_init
  have G_law_plain : FnG P w K mg base CX0 3 A.f_law_plain A.d_law_plain ["_law_x", "_law_y", "_law_z"] (sp_law_plain K A) := ok_law_plain T G_Table_init G_Ring_init G_Mean_init G_Lengths_init
  have G_law : FnG P w K mg base CX0 5 A.f_law A.d_law ["_law_script"] (sp_law K A) := ok_law T G_Enough_eq G_Fits_eq G_Cut_eq G_Never_eq G_Beyond_eq G_EndlessCut_eq G_Table_eq G_Ring_eq G_Mean_eq G_Lengths_eq G_Enough_bool G_Fits_bool G_Cut_bool G_Never_bool G_Beyond_bool G_EndlessCut_bool G_law_pen G_law_pick G_law_yes G_law_no G_law_plain
  exact G_law

end HG

namespace HG
open PySem L2
theorem sub_mro {K : PySem.W.Frag} {C : Addr} {cd : ClassData} {l : List Value} {b : Value} (h : PySem.W.clsIn K C = some cd) (e : cd.mro = l) (ne : l.isEmpty = false) : PySem.W.subIn K (.ref C) b = some (l.contains b) := by
  show PySem.W.mroIn K C b = _
  unfold PySem.W.mroIn
  rw [h]
  show (if cd.mro.isEmpty then none else some (cd.mro.contains b)) = _
  rw [e, ne]
  rfl
theorem kit_sub {K : PySem.W.Frag} {C D : Addr} {b : Bool} (hne : C ≠ D) (hc : PySem.W.isClsIn K D = true) (ht : PySem.W.typeIn K (.ref D) = some (.type "type")) (hs : PySem.W.subIn K (.ref C) (.ref D) = some b) : PySem.W.kitOne K (.ref C) (.ref D) = some b := by
  have hne : (Value.ref C == Value.ref D) = false := Bool.eq_false_iff.mpr fun q => hne (by injection (beq_iff_eq.mp q))
  have hc' : (PySem.W.clsIn K D).isSome = true := hc
  unfold PySem.W.kitOne PySem.W.kitCls
  simp only [hne, hc', ht, hs, Bool.false_eq_true, if_false, beq_self_eq_true, Bool.and_self, if_true]
theorem ty_sub {K : PySem.W.Frag} {C : Addr} {T : String} {l : List Value} (h : fastBuiltinMro T = some l) (n : ∀ v ∈ l, ∃ t, v = .type t) : PySem.W.subIn K (.type T) (.ref C) = some false := by
  show (fastBuiltinMro T).map (·.contains (.ref C)) = some false
  rw [h]
  show some (l.contains (.ref C)) = some false
  have : l.contains (Value.ref C) = false := by
    rw [Bool.eq_false_iff]
    intro q
    rw [List.contains_iff_mem] at q
    obtain ⟨t, e⟩ := n _ q
    cases e
  rw [this]
def P10.idx : P10 → Nat
  | .Enough => 0 | .Fits => 1 | .Cut => 2 | .Never => 3 | .Beyond => 4 | .EndlessCut => 5 | .Table => 6 | .Ring => 7 | .Mean => 8 | .Lengths => 9
theorem P10.at_ (A : Ad) (i : P10) : (P10.all.map (P10.c A) ++ [A.c_Verdict])[i.idx]? = some (i.c A) := by cases i <;> rfl
theorem P10.idx_inj (i j : P10) (h : i.idx = j.idx) : i = j := by cases i <;> cases j <;> first | rfl | cases h
theorem P10.idx_lt (i : P10) : i.idx < 10 := by cases i <;> decide
theorem nd_ne {l : List Addr} (nd : l.Nodup) {a b : Nat} {x y : Addr} (ha : l[a]? = some x) (hb : l[b]? = some y) (h : a ≠ b) : x ≠ y := by
  obtain ⟨h1, rfl⟩ := List.getElem?_eq_some_iff.mp ha
  obtain ⟨h2, rfl⟩ := List.getElem?_eq_some_iff.mp hb
  rcases Nat.lt_or_gt_of_ne h with q | q
  · exact List.pairwise_iff_getElem.mp nd a b h1 h2 q
  · exact fun e => List.pairwise_iff_getElem.mp nd b a h2 h1 q e.symm
theorem kf_mk {K : PySem.W.Frag} {A : Ad} (nd : (P10.all.map (P10.c A) ++ [A.c_Verdict]).Nodup) (hcl : ∀ i : P10, Cls K (i.c A)) (ha : ∀ i : P10, PySem.W.findIn K (.ref (i.c A)) "__class__" = some (some (.builtin "object.__class__")))
    (hn : PySem.W.specialIn K (.builtin "object.__class__") "__get__" = some (some (.builtin "getset_descriptor.__get__"))) (htk : PySem.W.takesIn K (.builtin "object.__class__") = some true) (hm : ∀ i : P10, PySem.W.mroIn K (i.c A) (.type "object") = some true)
    (na : ∀ i : P10, ∀ n ∈ i.names, NoAttr K (i.c A) n) (hcd : ∀ i : P10, ∃ cd : ClassData, PySem.W.clsIn K (i.c A) = some cd ∧ cd.mro = .ref (i.c A) :: (if i.verd = true then [.ref A.c_Verdict, .type "object"] else [.type "object"]))
    (ty : ∀ i : P10, PySem.W.typeIn K (.ref (i.c A)) = some (.type "type")) (vc : PySem.W.isClsIn K A.c_Verdict = true) (vt : PySem.W.typeIn K (.ref A.c_Verdict) = some (.type "type")) : KF K A := by
  have ne : ∀ i j : P10, i ≠ j → i.c A ≠ j.c A := fun i j h => nd_ne nd (P10.at_ A i) (P10.at_ A j) fun e => h (P10.idx_inj i j e)
  have nv : ∀ i : P10, i.c A ≠ A.c_Verdict := fun i => nd_ne nd (P10.at_ A i) (b := 10) rfl (by have := i.idx_lt; omega)
  have ic : ∀ i : P10, PySem.W.isClsIn K (i.c A) = true := fun i => by
    obtain ⟨cd, h, _⟩ := hcd i
    unfold PySem.W.isClsIn
    rw [h]; rfl
  have sub : ∀ i j : P10, i ≠ j → PySem.W.subIn K (.ref (i.c A)) (.ref (j.c A)) = some false := fun i j h => by
    obtain ⟨cd, h1, h2⟩ := hcd i
    rw [sub_mro h1 h2 (by rfl)]
    have n1 := ne j i (Ne.symm h)
    have n2 := nv j
    cases hv : i.verd <;> simp [n1, n2]
  have tl : ∀ t ∈ ["tuple", "list"], ∀ i : P10, PySem.W.subIn K (.type t) (.ref (i.c A)) = some false := fun t ht i => by
    rcases List.mem_cons.mp ht with rfl | ht
    · exact ty_sub (l := [.type "tuple", .type "object"]) (by decide +kernel) (by simp)
    · rcases List.mem_cons.mp ht with rfl | ht
      · exact ty_sub (l := [.type "list", .type "object"]) (by decide +kernel) (by simp)
      · exact (List.not_mem_nil ht).elim
  refine ⟨fun i => ⟨hcl i, ha i, hn, htk, hm i⟩, na, fun i j => ?_, fun i hv => ?_, fun i t ht => kit_tr (ic i) (ty i) (tl t ht i), fun i j => ?_, fun i t ht => ?_⟩
  · by_cases e : i = j
    · subst e
      rw [decide_eq_true rfl]
      exact kit_rr
    · rw [decide_eq_false e]
      exact kit_sub (ne i j e) (ic j) (ty j) (sub i j e)
  · obtain ⟨cd, h1, h2⟩ := hcd i
    refine kit_sub (nv i) vc vt ?_
    rw [sub_mro h1 h2 (by rfl), hv]
    simp
  · unfold PySem.W.notFirst
    by_cases e : i = j
    · subst e
      simp
    · rw [sub j i (Ne.symm e)]
      simp
  · unfold PySem.W.notFirst
    rw [tl t ht i]
    simp
theorem na1 {K : PySem.W.Frag} {C : Addr} {n0 : Str} (h0 : PySem.W.findIn K (.ref C) n0 = some none) : ∀ n ∈ [n0], NoAttr K C n := by
  simp only [List.forall_mem_cons]
  exact ⟨h0, fun _ z => (List.not_mem_nil z).elim⟩
theorem na2 {K : PySem.W.Frag} {C : Addr} {n0 n1 : Str} (h0 : PySem.W.findIn K (.ref C) n0 = some none) (h1 : PySem.W.findIn K (.ref C) n1 = some none) : ∀ n ∈ [n0, n1], NoAttr K C n := by
  simp only [List.forall_mem_cons]
  exact ⟨h0, h1, fun _ z => (List.not_mem_nil z).elim⟩
theorem na3 {K : PySem.W.Frag} {C : Addr} {n0 n1 n2 : Str} (h0 : PySem.W.findIn K (.ref C) n0 = some none) (h1 : PySem.W.findIn K (.ref C) n1 = some none) (h2 : PySem.W.findIn K (.ref C) n2 = some none) : ∀ n ∈ [n0, n1, n2], NoAttr K C n := by
  simp only [List.forall_mem_cons]
  exact ⟨h0, h1, h2, fun _ z => (List.not_mem_nil z).elim⟩
theorem na4 {K : PySem.W.Frag} {C : Addr} {n0 n1 n2 n3 : Str} (h0 : PySem.W.findIn K (.ref C) n0 = some none) (h1 : PySem.W.findIn K (.ref C) n1 = some none) (h2 : PySem.W.findIn K (.ref C) n2 = some none) (h3 : PySem.W.findIn K (.ref C) n3 = some none) : ∀ n ∈ [n0, n1, n2, n3], NoAttr K C n := by
  simp only [List.forall_mem_cons]
  exact ⟨h0, h1, h2, h3, fun _ z => (List.not_mem_nil z).elim⟩
theorem na5 {K : PySem.W.Frag} {C : Addr} {n0 n1 n2 n3 n4 : Str} (h0 : PySem.W.findIn K (.ref C) n0 = some none) (h1 : PySem.W.findIn K (.ref C) n1 = some none) (h2 : PySem.W.findIn K (.ref C) n2 = some none) (h3 : PySem.W.findIn K (.ref C) n3 = some none) (h4 : PySem.W.findIn K (.ref C) n4 = some none) : ∀ n ∈ [n0, n1, n2, n3, n4], NoAttr K C n := by
  simp only [List.forall_mem_cons]
  exact ⟨h0, h1, h2, h3, h4, fun _ z => (List.not_mem_nil z).elim⟩
theorem all_mk {l : PySem.W.OpenLaw} {w : World} {K : PySem.W.Frag} {h : Heap} {mg : Str → Option Value} {fa : Addr} {c_Enough c_Fits c_Cut c_Never c_Beyond c_EndlessCut c_Table c_Ring c_Mean c_Lengths c_Verdict f_Enough_init f_Fits_init f_Cut_init f_Never_init f_Beyond_init f_EndlessCut_init f_Table_init f_Ring_init f_Mean_init f_Lengths_init f_Enough_eq f_Fits_eq f_Cut_eq f_Never_eq f_Beyond_eq f_EndlessCut_eq f_Table_eq f_Ring_eq f_Mean_eq f_Lengths_eq f_Enough_bool f_Fits_bool f_Cut_bool f_Never_bool f_Beyond_bool f_EndlessCut_bool f_law_pen f_law_draw f_law_pick f_law_yes f_law_no f_law_plain f_law : Addr} (X : K.In h) (G : h.Ns mainGlobals mg) (hfa : mg "law" = some (.ref fa))
    {od_Enough_init an_Enough_init od_Fits_init an_Fits_init od_Cut_init an_Cut_init od_Never_init an_Never_init od_Beyond_init an_Beyond_init od_EndlessCut_init an_EndlessCut_init od_Table_init an_Table_init od_Ring_init an_Ring_init od_Mean_init an_Mean_init od_Lengths_init an_Lengths_init od_Enough_eq an_Enough_eq od_Fits_eq an_Fits_eq od_Cut_eq an_Cut_eq od_Never_eq an_Never_eq od_Beyond_eq an_Beyond_eq od_EndlessCut_eq an_EndlessCut_eq od_Table_eq an_Table_eq od_Ring_eq an_Ring_eq od_Mean_eq an_Mean_eq od_Lengths_eq an_Lengths_eq od_Enough_bool an_Enough_bool od_Fits_bool an_Fits_bool od_Cut_bool an_Cut_bool od_Never_bool an_Never_bool od_Beyond_bool an_Beyond_bool od_EndlessCut_bool an_EndlessCut_bool od_law_pen an_law_pen od_law_draw an_law_draw od_law_pick an_law_pick od_law_yes an_law_yes od_law_no an_law_no od_law_plain an_law_plain od_law an_law : Option Addr} {sl_Enough_init sl_Fits_init sl_Cut_init sl_Never_init sl_Beyond_init sl_EndlessCut_init sl_Table_init sl_Ring_init sl_Mean_init sl_Lengths_init sl_Enough_eq sl_Fits_eq sl_Cut_eq sl_Never_eq sl_Beyond_eq sl_EndlessCut_eq sl_Table_eq sl_Ring_eq sl_Mean_eq sl_Lengths_eq sl_Enough_bool sl_Fits_bool sl_Cut_bool sl_Never_bool sl_Beyond_bool sl_EndlessCut_bool sl_law_pen sl_law_draw sl_law_pick sl_law_yes sl_law_no sl_law_plain sl_law : Array (Option Value)} {oc_Enough_init kV_Enough_init dc_Enough_init pm_Enough_init cd_Enough_init ct_Enough_init oc_Fits_init kV_Fits_init dc_Fits_init pm_Fits_init cd_Fits_init ct_Fits_init oc_Cut_init kV_Cut_init dc_Cut_init pm_Cut_init cd_Cut_init ct_Cut_init oc_Never_init kV_Never_init dc_Never_init pm_Never_init cd_Never_init ct_Never_init oc_Beyond_init kV_Beyond_init dc_Beyond_init pm_Beyond_init cd_Beyond_init ct_Beyond_init oc_EndlessCut_init kV_EndlessCut_init dc_EndlessCut_init pm_EndlessCut_init cd_EndlessCut_init ct_EndlessCut_init oc_Table_init kV_Table_init dc_Table_init pm_Table_init cd_Table_init ct_Table_init oc_Ring_init kV_Ring_init dc_Ring_init pm_Ring_init cd_Ring_init ct_Ring_init oc_Mean_init kV_Mean_init dc_Mean_init pm_Mean_init cd_Mean_init ct_Mean_init oc_Lengths_init kV_Lengths_init dc_Lengths_init pm_Lengths_init cd_Lengths_init ct_Lengths_init oc_Enough_eq kV_Enough_eq dc_Enough_eq pm_Enough_eq cd_Enough_eq ct_Enough_eq oc_Fits_eq kV_Fits_eq dc_Fits_eq pm_Fits_eq cd_Fits_eq ct_Fits_eq oc_Cut_eq kV_Cut_eq dc_Cut_eq pm_Cut_eq cd_Cut_eq ct_Cut_eq oc_Never_eq kV_Never_eq dc_Never_eq pm_Never_eq cd_Never_eq ct_Never_eq oc_Beyond_eq kV_Beyond_eq dc_Beyond_eq pm_Beyond_eq cd_Beyond_eq ct_Beyond_eq oc_EndlessCut_eq kV_EndlessCut_eq dc_EndlessCut_eq pm_EndlessCut_eq cd_EndlessCut_eq ct_EndlessCut_eq oc_Table_eq kV_Table_eq dc_Table_eq pm_Table_eq cd_Table_eq ct_Table_eq oc_Ring_eq kV_Ring_eq dc_Ring_eq pm_Ring_eq cd_Ring_eq ct_Ring_eq oc_Mean_eq kV_Mean_eq dc_Mean_eq pm_Mean_eq cd_Mean_eq ct_Mean_eq oc_Lengths_eq kV_Lengths_eq dc_Lengths_eq pm_Lengths_eq cd_Lengths_eq ct_Lengths_eq oc_Enough_bool kV_Enough_bool dc_Enough_bool pm_Enough_bool cd_Enough_bool ct_Enough_bool oc_Fits_bool kV_Fits_bool dc_Fits_bool pm_Fits_bool cd_Fits_bool ct_Fits_bool oc_Cut_bool kV_Cut_bool dc_Cut_bool pm_Cut_bool cd_Cut_bool ct_Cut_bool oc_Never_bool kV_Never_bool dc_Never_bool pm_Never_bool cd_Never_bool ct_Never_bool oc_Beyond_bool kV_Beyond_bool dc_Beyond_bool pm_Beyond_bool cd_Beyond_bool ct_Beyond_bool oc_EndlessCut_bool kV_EndlessCut_bool dc_EndlessCut_bool pm_EndlessCut_bool cd_EndlessCut_bool ct_EndlessCut_bool oc_law_pen kV_law_pen dc_law_pen pm_law_pen cd_law_pen ct_law_pen oc_law_draw kV_law_draw dc_law_draw pm_law_draw cd_law_draw ct_law_draw oc_law_pick kV_law_pick dc_law_pick pm_law_pick cd_law_pick ct_law_pick oc_law_yes kV_law_yes dc_law_yes pm_law_yes cd_law_yes ct_law_yes oc_law_no kV_law_no dc_law_no pm_law_no cd_law_no ct_law_no oc_law_plain kV_law_plain dc_law_plain pm_law_plain cd_law_plain ct_law_plain oc_law kV_law dc_law pm_law cd_law ct_law : Value} {cd_Enough : ClassData} {cd_Fits : ClassData} {cd_Cut : ClassData} {cd_Never : ClassData} {cd_Beyond : ClassData} {cd_EndlessCut : ClassData} {cd_Table : ClassData} {cd_Ring : ClassData} {cd_Mean : ClassData} {cd_Lengths : ClassData}
    (aC_Enough : PySem.W.nsIn K mainGlobals "Enough" = some (some (.ref c_Enough)))
    (aC_Fits : PySem.W.nsIn K mainGlobals "Fits" = some (some (.ref c_Fits)))
    (aC_Cut : PySem.W.nsIn K mainGlobals "Cut" = some (some (.ref c_Cut)))
    (aC_Never : PySem.W.nsIn K mainGlobals "Never" = some (some (.ref c_Never)))
    (aC_Beyond : PySem.W.nsIn K mainGlobals "Beyond" = some (some (.ref c_Beyond)))
    (aC_EndlessCut : PySem.W.nsIn K mainGlobals "EndlessCut" = some (some (.ref c_EndlessCut)))
    (aC_Table : PySem.W.nsIn K mainGlobals "Table" = some (some (.ref c_Table)))
    (aC_Ring : PySem.W.nsIn K mainGlobals "Ring" = some (some (.ref c_Ring)))
    (aC_Mean : PySem.W.nsIn K mainGlobals "Mean" = some (some (.ref c_Mean)))
    (aC_Lengths : PySem.W.nsIn K mainGlobals "Lengths" = some (some (.ref c_Lengths)))
    (aC_Verdict : PySem.W.nsIn K mainGlobals "Verdict" = some (some (.ref c_Verdict)))
    (a_Enough_init : PySem.W.findIn K (.ref c_Enough) "__init__" = some (some (.ref f_Enough_init)))
    (i_Enough_init : PySem.W.isFn K (.ref f_Enough_init) = true)
    (l_Enough_init : K.lookup f_Enough_init = some ⟨oc_Enough_init, od_Enough_init, .func (PySem.W.fnOf "__init__" "Enough.__init__" (defArgs s_Enough_init) (defBody s_Enough_init) (defScope s_Enough_init) .none kV_Enough_init dc_Enough_init pm_Enough_init an_Enough_init cd_Enough_init ct_Enough_init), sl_Enough_init⟩)
    (c_Enough_init : PySem.W.codeIn K cd_Enough_init "Enough.__init__" = true)
    (k_Enough_init : PySem.W.keepIn K (.ref f_Enough_init) = true)
    (a_Fits_init : PySem.W.findIn K (.ref c_Fits) "__init__" = some (some (.ref f_Fits_init)))
    (i_Fits_init : PySem.W.isFn K (.ref f_Fits_init) = true)
    (l_Fits_init : K.lookup f_Fits_init = some ⟨oc_Fits_init, od_Fits_init, .func (PySem.W.fnOf "__init__" "Fits.__init__" (defArgs s_Fits_init) (defBody s_Fits_init) (defScope s_Fits_init) .none kV_Fits_init dc_Fits_init pm_Fits_init an_Fits_init cd_Fits_init ct_Fits_init), sl_Fits_init⟩)
    (c_Fits_init : PySem.W.codeIn K cd_Fits_init "Fits.__init__" = true)
    (k_Fits_init : PySem.W.keepIn K (.ref f_Fits_init) = true)
    (a_Cut_init : PySem.W.findIn K (.ref c_Cut) "__init__" = some (some (.ref f_Cut_init)))
    (i_Cut_init : PySem.W.isFn K (.ref f_Cut_init) = true)
    (l_Cut_init : K.lookup f_Cut_init = some ⟨oc_Cut_init, od_Cut_init, .func (PySem.W.fnOf "__init__" "Cut.__init__" (defArgs s_Cut_init) (defBody s_Cut_init) (defScope s_Cut_init) .none kV_Cut_init dc_Cut_init pm_Cut_init an_Cut_init cd_Cut_init ct_Cut_init), sl_Cut_init⟩)
    (c_Cut_init : PySem.W.codeIn K cd_Cut_init "Cut.__init__" = true)
    (k_Cut_init : PySem.W.keepIn K (.ref f_Cut_init) = true)
    (a_Never_init : PySem.W.findIn K (.ref c_Never) "__init__" = some (some (.ref f_Never_init)))
    (i_Never_init : PySem.W.isFn K (.ref f_Never_init) = true)
    (l_Never_init : K.lookup f_Never_init = some ⟨oc_Never_init, od_Never_init, .func (PySem.W.fnOf "__init__" "Never.__init__" (defArgs s_Never_init) (defBody s_Never_init) (defScope s_Never_init) .none kV_Never_init dc_Never_init pm_Never_init an_Never_init cd_Never_init ct_Never_init), sl_Never_init⟩)
    (c_Never_init : PySem.W.codeIn K cd_Never_init "Never.__init__" = true)
    (k_Never_init : PySem.W.keepIn K (.ref f_Never_init) = true)
    (a_Beyond_init : PySem.W.findIn K (.ref c_Beyond) "__init__" = some (some (.ref f_Beyond_init)))
    (i_Beyond_init : PySem.W.isFn K (.ref f_Beyond_init) = true)
    (l_Beyond_init : K.lookup f_Beyond_init = some ⟨oc_Beyond_init, od_Beyond_init, .func (PySem.W.fnOf "__init__" "Beyond.__init__" (defArgs s_Beyond_init) (defBody s_Beyond_init) (defScope s_Beyond_init) .none kV_Beyond_init dc_Beyond_init pm_Beyond_init an_Beyond_init cd_Beyond_init ct_Beyond_init), sl_Beyond_init⟩)
    (c_Beyond_init : PySem.W.codeIn K cd_Beyond_init "Beyond.__init__" = true)
    (k_Beyond_init : PySem.W.keepIn K (.ref f_Beyond_init) = true)
    (a_EndlessCut_init : PySem.W.findIn K (.ref c_EndlessCut) "__init__" = some (some (.ref f_EndlessCut_init)))
    (i_EndlessCut_init : PySem.W.isFn K (.ref f_EndlessCut_init) = true)
    (l_EndlessCut_init : K.lookup f_EndlessCut_init = some ⟨oc_EndlessCut_init, od_EndlessCut_init, .func (PySem.W.fnOf "__init__" "EndlessCut.__init__" (defArgs s_EndlessCut_init) (defBody s_EndlessCut_init) (defScope s_EndlessCut_init) .none kV_EndlessCut_init dc_EndlessCut_init pm_EndlessCut_init an_EndlessCut_init cd_EndlessCut_init ct_EndlessCut_init), sl_EndlessCut_init⟩)
    (c_EndlessCut_init : PySem.W.codeIn K cd_EndlessCut_init "EndlessCut.__init__" = true)
    (k_EndlessCut_init : PySem.W.keepIn K (.ref f_EndlessCut_init) = true)
    (a_Table_init : PySem.W.findIn K (.ref c_Table) "__init__" = some (some (.ref f_Table_init)))
    (i_Table_init : PySem.W.isFn K (.ref f_Table_init) = true)
    (l_Table_init : K.lookup f_Table_init = some ⟨oc_Table_init, od_Table_init, .func (PySem.W.fnOf "__init__" "Table.__init__" (defArgs s_Table_init) (defBody s_Table_init) (defScope s_Table_init) .none kV_Table_init dc_Table_init pm_Table_init an_Table_init cd_Table_init ct_Table_init), sl_Table_init⟩)
    (c_Table_init : PySem.W.codeIn K cd_Table_init "Table.__init__" = true)
    (k_Table_init : PySem.W.keepIn K (.ref f_Table_init) = true)
    (a_Ring_init : PySem.W.findIn K (.ref c_Ring) "__init__" = some (some (.ref f_Ring_init)))
    (i_Ring_init : PySem.W.isFn K (.ref f_Ring_init) = true)
    (l_Ring_init : K.lookup f_Ring_init = some ⟨oc_Ring_init, od_Ring_init, .func (PySem.W.fnOf "__init__" "Ring.__init__" (defArgs s_Ring_init) (defBody s_Ring_init) (defScope s_Ring_init) .none kV_Ring_init dc_Ring_init pm_Ring_init an_Ring_init cd_Ring_init ct_Ring_init), sl_Ring_init⟩)
    (c_Ring_init : PySem.W.codeIn K cd_Ring_init "Ring.__init__" = true)
    (k_Ring_init : PySem.W.keepIn K (.ref f_Ring_init) = true)
    (a_Mean_init : PySem.W.findIn K (.ref c_Mean) "__init__" = some (some (.ref f_Mean_init)))
    (i_Mean_init : PySem.W.isFn K (.ref f_Mean_init) = true)
    (l_Mean_init : K.lookup f_Mean_init = some ⟨oc_Mean_init, od_Mean_init, .func (PySem.W.fnOf "__init__" "Mean.__init__" (defArgs s_Mean_init) (defBody s_Mean_init) (defScope s_Mean_init) .none kV_Mean_init dc_Mean_init pm_Mean_init an_Mean_init cd_Mean_init ct_Mean_init), sl_Mean_init⟩)
    (c_Mean_init : PySem.W.codeIn K cd_Mean_init "Mean.__init__" = true)
    (k_Mean_init : PySem.W.keepIn K (.ref f_Mean_init) = true)
    (a_Lengths_init : PySem.W.findIn K (.ref c_Lengths) "__init__" = some (some (.ref f_Lengths_init)))
    (i_Lengths_init : PySem.W.isFn K (.ref f_Lengths_init) = true)
    (l_Lengths_init : K.lookup f_Lengths_init = some ⟨oc_Lengths_init, od_Lengths_init, .func (PySem.W.fnOf "__init__" "Lengths.__init__" (defArgs s_Lengths_init) (defBody s_Lengths_init) (defScope s_Lengths_init) .none kV_Lengths_init dc_Lengths_init pm_Lengths_init an_Lengths_init cd_Lengths_init ct_Lengths_init), sl_Lengths_init⟩)
    (c_Lengths_init : PySem.W.codeIn K cd_Lengths_init "Lengths.__init__" = true)
    (k_Lengths_init : PySem.W.keepIn K (.ref f_Lengths_init) = true)
    (a_Enough_eq : PySem.W.findIn K (.ref c_Enough) "__eq__" = some (some (.ref f_Enough_eq)))
    (i_Enough_eq : PySem.W.isFn K (.ref f_Enough_eq) = true)
    (l_Enough_eq : K.lookup f_Enough_eq = some ⟨oc_Enough_eq, od_Enough_eq, .func (PySem.W.fnOf "__eq__" "Enough.__eq__" (defArgs s_Enough_eq) (defBody s_Enough_eq) (defScope s_Enough_eq) .none kV_Enough_eq dc_Enough_eq pm_Enough_eq an_Enough_eq cd_Enough_eq ct_Enough_eq), sl_Enough_eq⟩)
    (c_Enough_eq : PySem.W.codeIn K cd_Enough_eq "Enough.__eq__" = true)
    (k_Enough_eq : PySem.W.keepIn K (.ref f_Enough_eq) = true)
    (a_Fits_eq : PySem.W.findIn K (.ref c_Fits) "__eq__" = some (some (.ref f_Fits_eq)))
    (i_Fits_eq : PySem.W.isFn K (.ref f_Fits_eq) = true)
    (l_Fits_eq : K.lookup f_Fits_eq = some ⟨oc_Fits_eq, od_Fits_eq, .func (PySem.W.fnOf "__eq__" "Fits.__eq__" (defArgs s_Fits_eq) (defBody s_Fits_eq) (defScope s_Fits_eq) .none kV_Fits_eq dc_Fits_eq pm_Fits_eq an_Fits_eq cd_Fits_eq ct_Fits_eq), sl_Fits_eq⟩)
    (c_Fits_eq : PySem.W.codeIn K cd_Fits_eq "Fits.__eq__" = true)
    (k_Fits_eq : PySem.W.keepIn K (.ref f_Fits_eq) = true)
    (a_Cut_eq : PySem.W.findIn K (.ref c_Cut) "__eq__" = some (some (.ref f_Cut_eq)))
    (i_Cut_eq : PySem.W.isFn K (.ref f_Cut_eq) = true)
    (l_Cut_eq : K.lookup f_Cut_eq = some ⟨oc_Cut_eq, od_Cut_eq, .func (PySem.W.fnOf "__eq__" "Cut.__eq__" (defArgs s_Cut_eq) (defBody s_Cut_eq) (defScope s_Cut_eq) .none kV_Cut_eq dc_Cut_eq pm_Cut_eq an_Cut_eq cd_Cut_eq ct_Cut_eq), sl_Cut_eq⟩)
    (c_Cut_eq : PySem.W.codeIn K cd_Cut_eq "Cut.__eq__" = true)
    (k_Cut_eq : PySem.W.keepIn K (.ref f_Cut_eq) = true)
    (a_Never_eq : PySem.W.findIn K (.ref c_Never) "__eq__" = some (some (.ref f_Never_eq)))
    (i_Never_eq : PySem.W.isFn K (.ref f_Never_eq) = true)
    (l_Never_eq : K.lookup f_Never_eq = some ⟨oc_Never_eq, od_Never_eq, .func (PySem.W.fnOf "__eq__" "Never.__eq__" (defArgs s_Never_eq) (defBody s_Never_eq) (defScope s_Never_eq) .none kV_Never_eq dc_Never_eq pm_Never_eq an_Never_eq cd_Never_eq ct_Never_eq), sl_Never_eq⟩)
    (c_Never_eq : PySem.W.codeIn K cd_Never_eq "Never.__eq__" = true)
    (k_Never_eq : PySem.W.keepIn K (.ref f_Never_eq) = true)
    (a_Beyond_eq : PySem.W.findIn K (.ref c_Beyond) "__eq__" = some (some (.ref f_Beyond_eq)))
    (i_Beyond_eq : PySem.W.isFn K (.ref f_Beyond_eq) = true)
    (l_Beyond_eq : K.lookup f_Beyond_eq = some ⟨oc_Beyond_eq, od_Beyond_eq, .func (PySem.W.fnOf "__eq__" "Beyond.__eq__" (defArgs s_Beyond_eq) (defBody s_Beyond_eq) (defScope s_Beyond_eq) .none kV_Beyond_eq dc_Beyond_eq pm_Beyond_eq an_Beyond_eq cd_Beyond_eq ct_Beyond_eq), sl_Beyond_eq⟩)
    (c_Beyond_eq : PySem.W.codeIn K cd_Beyond_eq "Beyond.__eq__" = true)
    (k_Beyond_eq : PySem.W.keepIn K (.ref f_Beyond_eq) = true)
    (a_EndlessCut_eq : PySem.W.findIn K (.ref c_EndlessCut) "__eq__" = some (some (.ref f_EndlessCut_eq)))
    (i_EndlessCut_eq : PySem.W.isFn K (.ref f_EndlessCut_eq) = true)
    (l_EndlessCut_eq : K.lookup f_EndlessCut_eq = some ⟨oc_EndlessCut_eq, od_EndlessCut_eq, .func (PySem.W.fnOf "__eq__" "EndlessCut.__eq__" (defArgs s_EndlessCut_eq) (defBody s_EndlessCut_eq) (defScope s_EndlessCut_eq) .none kV_EndlessCut_eq dc_EndlessCut_eq pm_EndlessCut_eq an_EndlessCut_eq cd_EndlessCut_eq ct_EndlessCut_eq), sl_EndlessCut_eq⟩)
    (c_EndlessCut_eq : PySem.W.codeIn K cd_EndlessCut_eq "EndlessCut.__eq__" = true)
    (k_EndlessCut_eq : PySem.W.keepIn K (.ref f_EndlessCut_eq) = true)
    (a_Table_eq : PySem.W.findIn K (.ref c_Table) "__eq__" = some (some (.ref f_Table_eq)))
    (i_Table_eq : PySem.W.isFn K (.ref f_Table_eq) = true)
    (l_Table_eq : K.lookup f_Table_eq = some ⟨oc_Table_eq, od_Table_eq, .func (PySem.W.fnOf "__eq__" "Table.__eq__" (defArgs s_Table_eq) (defBody s_Table_eq) (defScope s_Table_eq) .none kV_Table_eq dc_Table_eq pm_Table_eq an_Table_eq cd_Table_eq ct_Table_eq), sl_Table_eq⟩)
    (c_Table_eq : PySem.W.codeIn K cd_Table_eq "Table.__eq__" = true)
    (k_Table_eq : PySem.W.keepIn K (.ref f_Table_eq) = true)
    (a_Ring_eq : PySem.W.findIn K (.ref c_Ring) "__eq__" = some (some (.ref f_Ring_eq)))
    (i_Ring_eq : PySem.W.isFn K (.ref f_Ring_eq) = true)
    (l_Ring_eq : K.lookup f_Ring_eq = some ⟨oc_Ring_eq, od_Ring_eq, .func (PySem.W.fnOf "__eq__" "Ring.__eq__" (defArgs s_Ring_eq) (defBody s_Ring_eq) (defScope s_Ring_eq) .none kV_Ring_eq dc_Ring_eq pm_Ring_eq an_Ring_eq cd_Ring_eq ct_Ring_eq), sl_Ring_eq⟩)
    (c_Ring_eq : PySem.W.codeIn K cd_Ring_eq "Ring.__eq__" = true)
    (k_Ring_eq : PySem.W.keepIn K (.ref f_Ring_eq) = true)
    (a_Mean_eq : PySem.W.findIn K (.ref c_Mean) "__eq__" = some (some (.ref f_Mean_eq)))
    (i_Mean_eq : PySem.W.isFn K (.ref f_Mean_eq) = true)
    (l_Mean_eq : K.lookup f_Mean_eq = some ⟨oc_Mean_eq, od_Mean_eq, .func (PySem.W.fnOf "__eq__" "Mean.__eq__" (defArgs s_Mean_eq) (defBody s_Mean_eq) (defScope s_Mean_eq) .none kV_Mean_eq dc_Mean_eq pm_Mean_eq an_Mean_eq cd_Mean_eq ct_Mean_eq), sl_Mean_eq⟩)
    (c_Mean_eq : PySem.W.codeIn K cd_Mean_eq "Mean.__eq__" = true)
    (k_Mean_eq : PySem.W.keepIn K (.ref f_Mean_eq) = true)
    (a_Lengths_eq : PySem.W.findIn K (.ref c_Lengths) "__eq__" = some (some (.ref f_Lengths_eq)))
    (i_Lengths_eq : PySem.W.isFn K (.ref f_Lengths_eq) = true)
    (l_Lengths_eq : K.lookup f_Lengths_eq = some ⟨oc_Lengths_eq, od_Lengths_eq, .func (PySem.W.fnOf "__eq__" "Lengths.__eq__" (defArgs s_Lengths_eq) (defBody s_Lengths_eq) (defScope s_Lengths_eq) .none kV_Lengths_eq dc_Lengths_eq pm_Lengths_eq an_Lengths_eq cd_Lengths_eq ct_Lengths_eq), sl_Lengths_eq⟩)
    (c_Lengths_eq : PySem.W.codeIn K cd_Lengths_eq "Lengths.__eq__" = true)
    (k_Lengths_eq : PySem.W.keepIn K (.ref f_Lengths_eq) = true)
    (a_Enough_bool : PySem.W.findIn K (.ref c_Enough) "__bool__" = some (some (.ref f_Enough_bool)))
    (i_Enough_bool : PySem.W.isFn K (.ref f_Enough_bool) = true)
    (l_Enough_bool : K.lookup f_Enough_bool = some ⟨oc_Enough_bool, od_Enough_bool, .func (PySem.W.fnOf "__bool__" "Enough.__bool__" (defArgs s_Enough_bool) (defBody s_Enough_bool) (defScope s_Enough_bool) .none kV_Enough_bool dc_Enough_bool pm_Enough_bool an_Enough_bool cd_Enough_bool ct_Enough_bool), sl_Enough_bool⟩)
    (c_Enough_bool : PySem.W.codeIn K cd_Enough_bool "Enough.__bool__" = true)
    (k_Enough_bool : PySem.W.keepIn K (.ref f_Enough_bool) = true)
    (a_Fits_bool : PySem.W.findIn K (.ref c_Fits) "__bool__" = some (some (.ref f_Fits_bool)))
    (i_Fits_bool : PySem.W.isFn K (.ref f_Fits_bool) = true)
    (l_Fits_bool : K.lookup f_Fits_bool = some ⟨oc_Fits_bool, od_Fits_bool, .func (PySem.W.fnOf "__bool__" "Fits.__bool__" (defArgs s_Fits_bool) (defBody s_Fits_bool) (defScope s_Fits_bool) .none kV_Fits_bool dc_Fits_bool pm_Fits_bool an_Fits_bool cd_Fits_bool ct_Fits_bool), sl_Fits_bool⟩)
    (c_Fits_bool : PySem.W.codeIn K cd_Fits_bool "Fits.__bool__" = true)
    (k_Fits_bool : PySem.W.keepIn K (.ref f_Fits_bool) = true)
    (a_Cut_bool : PySem.W.findIn K (.ref c_Cut) "__bool__" = some (some (.ref f_Cut_bool)))
    (i_Cut_bool : PySem.W.isFn K (.ref f_Cut_bool) = true)
    (l_Cut_bool : K.lookup f_Cut_bool = some ⟨oc_Cut_bool, od_Cut_bool, .func (PySem.W.fnOf "__bool__" "Cut.__bool__" (defArgs s_Cut_bool) (defBody s_Cut_bool) (defScope s_Cut_bool) .none kV_Cut_bool dc_Cut_bool pm_Cut_bool an_Cut_bool cd_Cut_bool ct_Cut_bool), sl_Cut_bool⟩)
    (c_Cut_bool : PySem.W.codeIn K cd_Cut_bool "Cut.__bool__" = true)
    (k_Cut_bool : PySem.W.keepIn K (.ref f_Cut_bool) = true)
    (a_Never_bool : PySem.W.findIn K (.ref c_Never) "__bool__" = some (some (.ref f_Never_bool)))
    (i_Never_bool : PySem.W.isFn K (.ref f_Never_bool) = true)
    (l_Never_bool : K.lookup f_Never_bool = some ⟨oc_Never_bool, od_Never_bool, .func (PySem.W.fnOf "__bool__" "Never.__bool__" (defArgs s_Never_bool) (defBody s_Never_bool) (defScope s_Never_bool) .none kV_Never_bool dc_Never_bool pm_Never_bool an_Never_bool cd_Never_bool ct_Never_bool), sl_Never_bool⟩)
    (c_Never_bool : PySem.W.codeIn K cd_Never_bool "Never.__bool__" = true)
    (k_Never_bool : PySem.W.keepIn K (.ref f_Never_bool) = true)
    (a_Beyond_bool : PySem.W.findIn K (.ref c_Beyond) "__bool__" = some (some (.ref f_Beyond_bool)))
    (i_Beyond_bool : PySem.W.isFn K (.ref f_Beyond_bool) = true)
    (l_Beyond_bool : K.lookup f_Beyond_bool = some ⟨oc_Beyond_bool, od_Beyond_bool, .func (PySem.W.fnOf "__bool__" "Beyond.__bool__" (defArgs s_Beyond_bool) (defBody s_Beyond_bool) (defScope s_Beyond_bool) .none kV_Beyond_bool dc_Beyond_bool pm_Beyond_bool an_Beyond_bool cd_Beyond_bool ct_Beyond_bool), sl_Beyond_bool⟩)
    (c_Beyond_bool : PySem.W.codeIn K cd_Beyond_bool "Beyond.__bool__" = true)
    (k_Beyond_bool : PySem.W.keepIn K (.ref f_Beyond_bool) = true)
    (a_EndlessCut_bool : PySem.W.findIn K (.ref c_EndlessCut) "__bool__" = some (some (.ref f_EndlessCut_bool)))
    (i_EndlessCut_bool : PySem.W.isFn K (.ref f_EndlessCut_bool) = true)
    (l_EndlessCut_bool : K.lookup f_EndlessCut_bool = some ⟨oc_EndlessCut_bool, od_EndlessCut_bool, .func (PySem.W.fnOf "__bool__" "EndlessCut.__bool__" (defArgs s_EndlessCut_bool) (defBody s_EndlessCut_bool) (defScope s_EndlessCut_bool) .none kV_EndlessCut_bool dc_EndlessCut_bool pm_EndlessCut_bool an_EndlessCut_bool cd_EndlessCut_bool ct_EndlessCut_bool), sl_EndlessCut_bool⟩)
    (c_EndlessCut_bool : PySem.W.codeIn K cd_EndlessCut_bool "EndlessCut.__bool__" = true)
    (k_EndlessCut_bool : PySem.W.keepIn K (.ref f_EndlessCut_bool) = true)
    (a_law_pen : PySem.W.nsIn K mainGlobals "_law_pen" = some (some (.ref f_law_pen)))
    (l_law_pen : K.lookup f_law_pen = some ⟨oc_law_pen, od_law_pen, .func (PySem.W.fnOf "_law_pen" "_law_pen" (defArgs s_law_pen) (defBody s_law_pen) (defScope s_law_pen) .none kV_law_pen dc_law_pen pm_law_pen an_law_pen cd_law_pen ct_law_pen), sl_law_pen⟩)
    (c_law_pen : PySem.W.codeIn K cd_law_pen "_law_pen" = true)
    (k_law_pen : PySem.W.keepIn K (.ref f_law_pen) = true)
    (a_law_draw : PySem.W.nsIn K mainGlobals "_law_draw" = some (some (.ref f_law_draw)))
    (l_law_draw : K.lookup f_law_draw = some ⟨oc_law_draw, od_law_draw, .func (PySem.W.fnOf "_law_draw" "_law_draw" (defArgs s_law_draw) (defBody s_law_draw) (defScope s_law_draw) .none kV_law_draw dc_law_draw pm_law_draw an_law_draw cd_law_draw ct_law_draw), sl_law_draw⟩)
    (c_law_draw : PySem.W.codeIn K cd_law_draw "_law_draw" = true)
    (k_law_draw : PySem.W.keepIn K (.ref f_law_draw) = true)
    (a_law_pick : PySem.W.nsIn K mainGlobals "_law_pick" = some (some (.ref f_law_pick)))
    (l_law_pick : K.lookup f_law_pick = some ⟨oc_law_pick, od_law_pick, .func (PySem.W.fnOf "_law_pick" "_law_pick" (defArgs s_law_pick) (defBody s_law_pick) (defScope s_law_pick) .none kV_law_pick dc_law_pick pm_law_pick an_law_pick cd_law_pick ct_law_pick), sl_law_pick⟩)
    (c_law_pick : PySem.W.codeIn K cd_law_pick "_law_pick" = true)
    (k_law_pick : PySem.W.keepIn K (.ref f_law_pick) = true)
    (a_law_yes : PySem.W.nsIn K mainGlobals "_law_yes" = some (some (.ref f_law_yes)))
    (l_law_yes : K.lookup f_law_yes = some ⟨oc_law_yes, od_law_yes, .func (PySem.W.fnOf "_law_yes" "_law_yes" (defArgs s_law_yes) (defBody s_law_yes) (defScope s_law_yes) .none kV_law_yes dc_law_yes pm_law_yes an_law_yes cd_law_yes ct_law_yes), sl_law_yes⟩)
    (c_law_yes : PySem.W.codeIn K cd_law_yes "_law_yes" = true)
    (k_law_yes : PySem.W.keepIn K (.ref f_law_yes) = true)
    (a_law_no : PySem.W.nsIn K mainGlobals "_law_no" = some (some (.ref f_law_no)))
    (l_law_no : K.lookup f_law_no = some ⟨oc_law_no, od_law_no, .func (PySem.W.fnOf "_law_no" "_law_no" (defArgs s_law_no) (defBody s_law_no) (defScope s_law_no) .none kV_law_no dc_law_no pm_law_no an_law_no cd_law_no ct_law_no), sl_law_no⟩)
    (c_law_no : PySem.W.codeIn K cd_law_no "_law_no" = true)
    (k_law_no : PySem.W.keepIn K (.ref f_law_no) = true)
    (a_law_plain : PySem.W.nsIn K mainGlobals "_law_plain" = some (some (.ref f_law_plain)))
    (l_law_plain : K.lookup f_law_plain = some ⟨oc_law_plain, od_law_plain, .func (PySem.W.fnOf "_law_plain" "_law_plain" (defArgs s_law_plain) (defBody s_law_plain) (defScope s_law_plain) .none kV_law_plain dc_law_plain pm_law_plain an_law_plain cd_law_plain ct_law_plain), sl_law_plain⟩)
    (c_law_plain : PySem.W.codeIn K cd_law_plain "_law_plain" = true)
    (k_law_plain : PySem.W.keepIn K (.ref f_law_plain) = true)
    (a_law : PySem.W.nsIn K mainGlobals "law" = some (some (.ref f_law)))
    (l_law : K.lookup f_law = some ⟨oc_law, od_law, .func (PySem.W.fnOf "law" "law" (defArgs s_law) (defBody s_law) (defScope s_law) .none kV_law dc_law pm_law an_law cd_law ct_law), sl_law⟩)
    (c_law : PySem.W.codeIn K cd_law "law" = true)
    (k_law : PySem.W.keepIn K (.ref f_law) = true)
    (hn : PySem.W.specialIn K (.builtin "object.__class__") "__get__" = some (some (.builtin "getset_descriptor.__get__")))
    (htk : PySem.W.takesIn K (.builtin "object.__class__") = some true)
    (vc : PySem.W.isClsIn K c_Verdict = true)
    (vt : PySem.W.typeIn K (.ref c_Verdict) = some (.type "type"))
    (de_nd : [c_Enough, c_Fits, c_Cut, c_Never, c_Beyond, c_EndlessCut, c_Table, c_Ring, c_Mean, c_Lengths, c_Verdict].Nodup)
    (pg_Enough : PySem.W.plainGet K c_Enough Str.empty = true)
    (hd_Enough : PySem.W.hasDictIn K c_Enough = true)
    (po_Enough : PySem.W.plainOver K c_Enough = true)
    (sa_Enough : PySem.W.findIn K (.ref c_Enough) "__setattr__" = some (some (.builtin "object.__setattr__")))
    (mk_Enough : PySem.W.makesIn K c_Enough = true)
    (kc_Enough : PySem.W.keepIn K (.ref c_Enough) = true)
    (ha_Enough : PySem.W.findIn K (.ref c_Enough) "__class__" = some (some (.builtin "object.__class__")))
    (hm_Enough : PySem.W.mroIn K c_Enough (.type "object") = some true)
    (tyC_Enough : PySem.W.typeIn K (.ref c_Enough) = some (.type "type"))
    (hcd_Enough : PySem.W.clsIn K c_Enough = some cd_Enough)
    (rf_mro_Enough : cd_Enough.mro = [.ref c_Enough, .ref c_Verdict, .type "object"])
    (ny_Enough : PySem.W.findIn K (.ref c_Enough) "__ne__" = some (some (.builtin "object.__ne__")))
    (na_Enough_number : PySem.W.findIn K (.ref c_Enough) "number" = some none)
    (na_Enough_heights : PySem.W.findIn K (.ref c_Enough) "heights" = some none)
    (na_Enough_text : PySem.W.findIn K (.ref c_Enough) "text" = some none)
    (pg_Fits : PySem.W.plainGet K c_Fits Str.empty = true)
    (hd_Fits : PySem.W.hasDictIn K c_Fits = true)
    (po_Fits : PySem.W.plainOver K c_Fits = true)
    (sa_Fits : PySem.W.findIn K (.ref c_Fits) "__setattr__" = some (some (.builtin "object.__setattr__")))
    (mk_Fits : PySem.W.makesIn K c_Fits = true)
    (kc_Fits : PySem.W.keepIn K (.ref c_Fits) = true)
    (ha_Fits : PySem.W.findIn K (.ref c_Fits) "__class__" = some (some (.builtin "object.__class__")))
    (hm_Fits : PySem.W.mroIn K c_Fits (.type "object") = some true)
    (tyC_Fits : PySem.W.typeIn K (.ref c_Fits) = some (.type "type"))
    (hcd_Fits : PySem.W.clsIn K c_Fits = some cd_Fits)
    (rf_mro_Fits : cd_Fits.mro = [.ref c_Fits, .ref c_Verdict, .type "object"])
    (ny_Fits : PySem.W.findIn K (.ref c_Fits) "__ne__" = some (some (.builtin "object.__ne__")))
    (na_Fits_number : PySem.W.findIn K (.ref c_Fits) "number" = some none)
    (na_Fits_rises : PySem.W.findIn K (.ref c_Fits) "rises" = some none)
    (na_Fits_losses : PySem.W.findIn K (.ref c_Fits) "losses" = some none)
    (na_Fits_text : PySem.W.findIn K (.ref c_Fits) "text" = some none)
    (pg_Cut : PySem.W.plainGet K c_Cut Str.empty = true)
    (hd_Cut : PySem.W.hasDictIn K c_Cut = true)
    (po_Cut : PySem.W.plainOver K c_Cut = true)
    (sa_Cut : PySem.W.findIn K (.ref c_Cut) "__setattr__" = some (some (.builtin "object.__setattr__")))
    (mk_Cut : PySem.W.makesIn K c_Cut = true)
    (kc_Cut : PySem.W.keepIn K (.ref c_Cut) = true)
    (ha_Cut : PySem.W.findIn K (.ref c_Cut) "__class__" = some (some (.builtin "object.__class__")))
    (hm_Cut : PySem.W.mroIn K c_Cut (.type "object") = some true)
    (tyC_Cut : PySem.W.typeIn K (.ref c_Cut) = some (.type "type"))
    (hcd_Cut : PySem.W.clsIn K c_Cut = some cd_Cut)
    (rf_mro_Cut : cd_Cut.mro = [.ref c_Cut, .ref c_Verdict, .type "object"])
    (ny_Cut : PySem.W.findIn K (.ref c_Cut) "__ne__" = some (some (.builtin "object.__ne__")))
    (na_Cut_number : PySem.W.findIn K (.ref c_Cut) "number" = some none)
    (na_Cut_heights : PySem.W.findIn K (.ref c_Cut) "heights" = some none)
    (na_Cut_text : PySem.W.findIn K (.ref c_Cut) "text" = some none)
    (na_Cut_at : PySem.W.findIn K (.ref c_Cut) "at" = some none)
    (pg_Never : PySem.W.plainGet K c_Never Str.empty = true)
    (hd_Never : PySem.W.hasDictIn K c_Never = true)
    (po_Never : PySem.W.plainOver K c_Never = true)
    (sa_Never : PySem.W.findIn K (.ref c_Never) "__setattr__" = some (some (.builtin "object.__setattr__")))
    (mk_Never : PySem.W.makesIn K c_Never = true)
    (kc_Never : PySem.W.keepIn K (.ref c_Never) = true)
    (ha_Never : PySem.W.findIn K (.ref c_Never) "__class__" = some (some (.builtin "object.__class__")))
    (hm_Never : PySem.W.mroIn K c_Never (.type "object") = some true)
    (tyC_Never : PySem.W.typeIn K (.ref c_Never) = some (.type "type"))
    (hcd_Never : PySem.W.clsIn K c_Never = some cd_Never)
    (rf_mro_Never : cd_Never.mro = [.ref c_Never, .ref c_Verdict, .type "object"])
    (ny_Never : PySem.W.findIn K (.ref c_Never) "__ne__" = some (some (.builtin "object.__ne__")))
    (na_Never_ahead : PySem.W.findIn K (.ref c_Never) "ahead" = some none)
    (na_Never_ring : PySem.W.findIn K (.ref c_Never) "ring" = some none)
    (na_Never_behind : PySem.W.findIn K (.ref c_Never) "behind" = some none)
    (pg_Beyond : PySem.W.plainGet K c_Beyond Str.empty = true)
    (hd_Beyond : PySem.W.hasDictIn K c_Beyond = true)
    (po_Beyond : PySem.W.plainOver K c_Beyond = true)
    (sa_Beyond : PySem.W.findIn K (.ref c_Beyond) "__setattr__" = some (some (.builtin "object.__setattr__")))
    (mk_Beyond : PySem.W.makesIn K c_Beyond = true)
    (kc_Beyond : PySem.W.keepIn K (.ref c_Beyond) = true)
    (ha_Beyond : PySem.W.findIn K (.ref c_Beyond) "__class__" = some (some (.builtin "object.__class__")))
    (hm_Beyond : PySem.W.mroIn K c_Beyond (.type "object") = some true)
    (tyC_Beyond : PySem.W.typeIn K (.ref c_Beyond) = some (.type "type"))
    (hcd_Beyond : PySem.W.clsIn K c_Beyond = some cd_Beyond)
    (rf_mro_Beyond : cd_Beyond.mro = [.ref c_Beyond, .ref c_Verdict, .type "object"])
    (ny_Beyond : PySem.W.findIn K (.ref c_Beyond) "__ne__" = some (some (.builtin "object.__ne__")))
    (na_Beyond_ahead : PySem.W.findIn K (.ref c_Beyond) "ahead" = some none)
    (na_Beyond_rising : PySem.W.findIn K (.ref c_Beyond) "rising" = some none)
    (na_Beyond_between : PySem.W.findIn K (.ref c_Beyond) "between" = some none)
    (na_Beyond_falling : PySem.W.findIn K (.ref c_Beyond) "falling" = some none)
    (na_Beyond_behind : PySem.W.findIn K (.ref c_Beyond) "behind" = some none)
    (pg_EndlessCut : PySem.W.plainGet K c_EndlessCut Str.empty = true)
    (hd_EndlessCut : PySem.W.hasDictIn K c_EndlessCut = true)
    (po_EndlessCut : PySem.W.plainOver K c_EndlessCut = true)
    (sa_EndlessCut : PySem.W.findIn K (.ref c_EndlessCut) "__setattr__" = some (some (.builtin "object.__setattr__")))
    (mk_EndlessCut : PySem.W.makesIn K c_EndlessCut = true)
    (kc_EndlessCut : PySem.W.keepIn K (.ref c_EndlessCut) = true)
    (ha_EndlessCut : PySem.W.findIn K (.ref c_EndlessCut) "__class__" = some (some (.builtin "object.__class__")))
    (hm_EndlessCut : PySem.W.mroIn K c_EndlessCut (.type "object") = some true)
    (tyC_EndlessCut : PySem.W.typeIn K (.ref c_EndlessCut) = some (.type "type"))
    (hcd_EndlessCut : PySem.W.clsIn K c_EndlessCut = some cd_EndlessCut)
    (rf_mro_EndlessCut : cd_EndlessCut.mro = [.ref c_EndlessCut, .ref c_Verdict, .type "object"])
    (ny_EndlessCut : PySem.W.findIn K (.ref c_EndlessCut) "__ne__" = some (some (.builtin "object.__ne__")))
    (na_EndlessCut_text : PySem.W.findIn K (.ref c_EndlessCut) "text" = some none)
    (na_EndlessCut_at : PySem.W.findIn K (.ref c_EndlessCut) "at" = some none)
    (na_EndlessCut_ring : PySem.W.findIn K (.ref c_EndlessCut) "ring" = some none)
    (na_EndlessCut_behind : PySem.W.findIn K (.ref c_EndlessCut) "behind" = some none)
    (pg_Table : PySem.W.plainGet K c_Table Str.empty = true)
    (hd_Table : PySem.W.hasDictIn K c_Table = true)
    (po_Table : PySem.W.plainOver K c_Table = true)
    (sa_Table : PySem.W.findIn K (.ref c_Table) "__setattr__" = some (some (.builtin "object.__setattr__")))
    (mk_Table : PySem.W.makesIn K c_Table = true)
    (kc_Table : PySem.W.keepIn K (.ref c_Table) = true)
    (ha_Table : PySem.W.findIn K (.ref c_Table) "__class__" = some (some (.builtin "object.__class__")))
    (hm_Table : PySem.W.mroIn K c_Table (.type "object") = some true)
    (tyC_Table : PySem.W.typeIn K (.ref c_Table) = some (.type "type"))
    (hcd_Table : PySem.W.clsIn K c_Table = some cd_Table)
    (rf_mro_Table : cd_Table.mro = [.ref c_Table, .type "object"])
    (ny_Table : PySem.W.findIn K (.ref c_Table) "__ne__" = some (some (.builtin "object.__ne__")))
    (na_Table_growths : PySem.W.findIn K (.ref c_Table) "growths" = some none)
    (pg_Ring : PySem.W.plainGet K c_Ring Str.empty = true)
    (hd_Ring : PySem.W.hasDictIn K c_Ring = true)
    (po_Ring : PySem.W.plainOver K c_Ring = true)
    (sa_Ring : PySem.W.findIn K (.ref c_Ring) "__setattr__" = some (some (.builtin "object.__setattr__")))
    (mk_Ring : PySem.W.makesIn K c_Ring = true)
    (kc_Ring : PySem.W.keepIn K (.ref c_Ring) = true)
    (ha_Ring : PySem.W.findIn K (.ref c_Ring) "__class__" = some (some (.builtin "object.__class__")))
    (hm_Ring : PySem.W.mroIn K c_Ring (.type "object") = some true)
    (tyC_Ring : PySem.W.typeIn K (.ref c_Ring) = some (.type "type"))
    (hcd_Ring : PySem.W.clsIn K c_Ring = some cd_Ring)
    (rf_mro_Ring : cd_Ring.mro = [.ref c_Ring, .type "object"])
    (ny_Ring : PySem.W.findIn K (.ref c_Ring) "__ne__" = some (some (.builtin "object.__ne__")))
    (na_Ring_state : PySem.W.findIn K (.ref c_Ring) "state" = some none)
    (na_Ring_text : PySem.W.findIn K (.ref c_Ring) "text" = some none)
    (pg_Mean : PySem.W.plainGet K c_Mean Str.empty = true)
    (hd_Mean : PySem.W.hasDictIn K c_Mean = true)
    (po_Mean : PySem.W.plainOver K c_Mean = true)
    (sa_Mean : PySem.W.findIn K (.ref c_Mean) "__setattr__" = some (some (.builtin "object.__setattr__")))
    (mk_Mean : PySem.W.makesIn K c_Mean = true)
    (kc_Mean : PySem.W.keepIn K (.ref c_Mean) = true)
    (ha_Mean : PySem.W.findIn K (.ref c_Mean) "__class__" = some (some (.builtin "object.__class__")))
    (hm_Mean : PySem.W.mroIn K c_Mean (.type "object") = some true)
    (tyC_Mean : PySem.W.typeIn K (.ref c_Mean) = some (.type "type"))
    (hcd_Mean : PySem.W.clsIn K c_Mean = some cd_Mean)
    (rf_mro_Mean : cd_Mean.mro = [.ref c_Mean, .type "object"])
    (ny_Mean : PySem.W.findIn K (.ref c_Mean) "__ne__" = some (some (.builtin "object.__ne__")))
    (na_Mean_rate : PySem.W.findIn K (.ref c_Mean) "rate" = some none)
    (na_Mean_ring : PySem.W.findIn K (.ref c_Mean) "ring" = some none)
    (na_Mean_heights : PySem.W.findIn K (.ref c_Mean) "heights" = some none)
    (pg_Lengths : PySem.W.plainGet K c_Lengths Str.empty = true)
    (hd_Lengths : PySem.W.hasDictIn K c_Lengths = true)
    (po_Lengths : PySem.W.plainOver K c_Lengths = true)
    (sa_Lengths : PySem.W.findIn K (.ref c_Lengths) "__setattr__" = some (some (.builtin "object.__setattr__")))
    (mk_Lengths : PySem.W.makesIn K c_Lengths = true)
    (kc_Lengths : PySem.W.keepIn K (.ref c_Lengths) = true)
    (ha_Lengths : PySem.W.findIn K (.ref c_Lengths) "__class__" = some (some (.builtin "object.__class__")))
    (hm_Lengths : PySem.W.mroIn K c_Lengths (.type "object") = some true)
    (tyC_Lengths : PySem.W.typeIn K (.ref c_Lengths) = some (.type "type"))
    (hcd_Lengths : PySem.W.clsIn K c_Lengths = some cd_Lengths)
    (rf_mro_Lengths : cd_Lengths.mro = [.ref c_Lengths, .type "object"])
    (ny_Lengths : PySem.W.findIn K (.ref c_Lengths) "__ne__" = some (some (.builtin "object.__ne__")))
    (na_Lengths_first : PySem.W.findIn K (.ref c_Lengths) "first" = some none)
    (na_Lengths_steps : PySem.W.findIn K (.ref c_Lengths) "steps" = some none)
    (na_Lengths_tails : PySem.W.findIn K (.ref c_Lengths) "tails" = some none)
    (zb_abs : PySem.W.nsIn K mainGlobals "abs" = some none)
    (zb_bool : PySem.W.nsIn K mainGlobals "bool" = some none)
    (zb_enumerate : PySem.W.nsIn K mainGlobals "enumerate" = some none)
    (zb_int : PySem.W.nsIn K mainGlobals "int" = some none)
    (zb_isinstance : PySem.W.nsIn K mainGlobals "isinstance" = some none)
    (zb_len : PySem.W.nsIn K mainGlobals "len" = some none)
    (zb_list : PySem.W.nsIn K mainGlobals "list" = some none)
    (zb_range : PySem.W.nsIn K mainGlobals "range" = some none)
    (zb_repr : PySem.W.nsIn K mainGlobals "repr" = some none)
    (zb_tuple : PySem.W.nsIn K mainGlobals "tuple" = some none)
    : ∃ fd : FuncData, (∀ (s : Shared) (v : Value), BindsTo s fd ⟨[v], []⟩ [("_law_script", v)]) ∧ ∀ base : Heap, K.In base → base.Ns mainGlobals mg → FnG l.prog w K mg base CX0 5 fa fd ["_law_script"] (spLaw K) := by
  have e := hfa.symm.trans (PySem.W.mg_of X G a_law)
  cases e
  have F_Enough_init := fun_mk (st := s_Enough_init) l_Enough_init c_Enough_init k_Enough_init
  have B_Enough_init := F_Enough_init.binds (ps := ["self", "number", "heights", "text"]) fun _ _ _ _ _ _ us hl => match us, hl with | [_, _, _, _], _ => rfl
  have F_Fits_init := fun_mk (st := s_Fits_init) l_Fits_init c_Fits_init k_Fits_init
  have B_Fits_init := F_Fits_init.binds (ps := ["self", "number", "rises", "losses", "text"]) fun _ _ _ _ _ _ us hl => match us, hl with | [_, _, _, _, _], _ => rfl
  have F_Cut_init := fun_mk (st := s_Cut_init) l_Cut_init c_Cut_init k_Cut_init
  have B_Cut_init := F_Cut_init.binds (ps := ["self", "number", "heights", "text", "at"]) fun _ _ _ _ _ _ us hl => match us, hl with | [_, _, _, _, _], _ => rfl
  have F_Never_init := fun_mk (st := s_Never_init) l_Never_init c_Never_init k_Never_init
  have B_Never_init := F_Never_init.binds (ps := ["self", "ahead", "ring", "behind"]) fun _ _ _ _ _ _ us hl => match us, hl with | [_, _, _, _], _ => rfl
  have F_Beyond_init := fun_mk (st := s_Beyond_init) l_Beyond_init c_Beyond_init k_Beyond_init
  have B_Beyond_init := F_Beyond_init.binds (ps := ["self", "ahead", "rising", "between", "falling", "behind"]) fun _ _ _ _ _ _ us hl => match us, hl with | [_, _, _, _, _, _], _ => rfl
  have F_EndlessCut_init := fun_mk (st := s_EndlessCut_init) l_EndlessCut_init c_EndlessCut_init k_EndlessCut_init
  have B_EndlessCut_init := F_EndlessCut_init.binds (ps := ["self", "text", "at", "ring", "behind"]) fun _ _ _ _ _ _ us hl => match us, hl with | [_, _, _, _, _], _ => rfl
  have F_Table_init := fun_mk (st := s_Table_init) l_Table_init c_Table_init k_Table_init
  have B_Table_init := F_Table_init.binds (ps := ["self", "growths"]) fun _ _ _ _ _ _ us hl => match us, hl with | [_, _], _ => rfl
  have F_Ring_init := fun_mk (st := s_Ring_init) l_Ring_init c_Ring_init k_Ring_init
  have B_Ring_init := F_Ring_init.binds (ps := ["self", "state", "text"]) fun _ _ _ _ _ _ us hl => match us, hl with | [_, _, _], _ => rfl
  have F_Mean_init := fun_mk (st := s_Mean_init) l_Mean_init c_Mean_init k_Mean_init
  have B_Mean_init := F_Mean_init.binds (ps := ["self", "rate", "ring", "heights"]) fun _ _ _ _ _ _ us hl => match us, hl with | [_, _, _, _], _ => rfl
  have F_Lengths_init := fun_mk (st := s_Lengths_init) l_Lengths_init c_Lengths_init k_Lengths_init
  have B_Lengths_init := F_Lengths_init.binds (ps := ["self", "first", "steps", "tails"]) fun _ _ _ _ _ _ us hl => match us, hl with | [_, _, _, _], _ => rfl
  have F_Enough_eq := fun_mk (st := s_Enough_eq) l_Enough_eq c_Enough_eq k_Enough_eq
  have B_Enough_eq := F_Enough_eq.binds (ps := ["self", "other"]) fun _ _ _ _ _ _ us hl => match us, hl with | [_, _], _ => rfl
  have F_Fits_eq := fun_mk (st := s_Fits_eq) l_Fits_eq c_Fits_eq k_Fits_eq
  have B_Fits_eq := F_Fits_eq.binds (ps := ["self", "other"]) fun _ _ _ _ _ _ us hl => match us, hl with | [_, _], _ => rfl
  have F_Cut_eq := fun_mk (st := s_Cut_eq) l_Cut_eq c_Cut_eq k_Cut_eq
  have B_Cut_eq := F_Cut_eq.binds (ps := ["self", "other"]) fun _ _ _ _ _ _ us hl => match us, hl with | [_, _], _ => rfl
  have F_Never_eq := fun_mk (st := s_Never_eq) l_Never_eq c_Never_eq k_Never_eq
  have B_Never_eq := F_Never_eq.binds (ps := ["self", "other"]) fun _ _ _ _ _ _ us hl => match us, hl with | [_, _], _ => rfl
  have F_Beyond_eq := fun_mk (st := s_Beyond_eq) l_Beyond_eq c_Beyond_eq k_Beyond_eq
  have B_Beyond_eq := F_Beyond_eq.binds (ps := ["self", "other"]) fun _ _ _ _ _ _ us hl => match us, hl with | [_, _], _ => rfl
  have F_EndlessCut_eq := fun_mk (st := s_EndlessCut_eq) l_EndlessCut_eq c_EndlessCut_eq k_EndlessCut_eq
  have B_EndlessCut_eq := F_EndlessCut_eq.binds (ps := ["self", "other"]) fun _ _ _ _ _ _ us hl => match us, hl with | [_, _], _ => rfl
  have F_Table_eq := fun_mk (st := s_Table_eq) l_Table_eq c_Table_eq k_Table_eq
  have B_Table_eq := F_Table_eq.binds (ps := ["self", "other"]) fun _ _ _ _ _ _ us hl => match us, hl with | [_, _], _ => rfl
  have F_Ring_eq := fun_mk (st := s_Ring_eq) l_Ring_eq c_Ring_eq k_Ring_eq
  have B_Ring_eq := F_Ring_eq.binds (ps := ["self", "other"]) fun _ _ _ _ _ _ us hl => match us, hl with | [_, _], _ => rfl
  have F_Mean_eq := fun_mk (st := s_Mean_eq) l_Mean_eq c_Mean_eq k_Mean_eq
  have B_Mean_eq := F_Mean_eq.binds (ps := ["self", "other"]) fun _ _ _ _ _ _ us hl => match us, hl with | [_, _], _ => rfl
  have F_Lengths_eq := fun_mk (st := s_Lengths_eq) l_Lengths_eq c_Lengths_eq k_Lengths_eq
  have B_Lengths_eq := F_Lengths_eq.binds (ps := ["self", "other"]) fun _ _ _ _ _ _ us hl => match us, hl with | [_, _], _ => rfl
  have F_Enough_bool := fun_mk (st := s_Enough_bool) l_Enough_bool c_Enough_bool k_Enough_bool
  have B_Enough_bool := F_Enough_bool.binds (ps := ["self"]) fun _ _ _ _ _ _ us hl => match us, hl with | [_], _ => rfl
  have F_Fits_bool := fun_mk (st := s_Fits_bool) l_Fits_bool c_Fits_bool k_Fits_bool
  have B_Fits_bool := F_Fits_bool.binds (ps := ["self"]) fun _ _ _ _ _ _ us hl => match us, hl with | [_], _ => rfl
  have F_Cut_bool := fun_mk (st := s_Cut_bool) l_Cut_bool c_Cut_bool k_Cut_bool
  have B_Cut_bool := F_Cut_bool.binds (ps := ["self"]) fun _ _ _ _ _ _ us hl => match us, hl with | [_], _ => rfl
  have F_Never_bool := fun_mk (st := s_Never_bool) l_Never_bool c_Never_bool k_Never_bool
  have B_Never_bool := F_Never_bool.binds (ps := ["self"]) fun _ _ _ _ _ _ us hl => match us, hl with | [_], _ => rfl
  have F_Beyond_bool := fun_mk (st := s_Beyond_bool) l_Beyond_bool c_Beyond_bool k_Beyond_bool
  have B_Beyond_bool := F_Beyond_bool.binds (ps := ["self"]) fun _ _ _ _ _ _ us hl => match us, hl with | [_], _ => rfl
  have F_EndlessCut_bool := fun_mk (st := s_EndlessCut_bool) l_EndlessCut_bool c_EndlessCut_bool k_EndlessCut_bool
  have B_EndlessCut_bool := F_EndlessCut_bool.binds (ps := ["self"]) fun _ _ _ _ _ _ us hl => match us, hl with | [_], _ => rfl
  have F_law_pen := fun_mk (st := s_law_pen) l_law_pen c_law_pen k_law_pen
  have B_law_pen := F_law_pen.binds (ps := ["_law_script"]) fun _ _ _ _ _ _ us hl => match us, hl with | [_], _ => rfl
  have F_law_draw := fun_mk (st := s_law_draw) l_law_draw c_law_draw k_law_draw
  have B_law_draw := F_law_draw.binds (ps := ["_law_pen_here", "_law_many"]) fun _ _ _ _ _ _ us hl => match us, hl with | [_, _], _ => rfl
  have F_law_pick := fun_mk (st := s_law_pick) l_law_pick c_law_pick k_law_pick
  have B_law_pick := F_law_pick.binds (ps := ["_law_pen_here", "_law_some"]) fun _ _ _ _ _ _ us hl => match us, hl with | [_, _], _ => rfl
  have F_law_yes := fun_mk (st := s_law_yes) l_law_yes c_law_yes k_law_yes
  have B_law_yes := F_law_yes.binds (ps := ["_law_x", "_law_y", "_law_z"]) fun _ _ _ _ _ _ us hl => match us, hl with | [_, _, _], _ => rfl
  have F_law_no := fun_mk (st := s_law_no) l_law_no c_law_no k_law_no
  have B_law_no := F_law_no.binds (ps := ["_law_x", "_law_y", "_law_z"]) fun _ _ _ _ _ _ us hl => match us, hl with | [_, _, _], _ => rfl
  have F_law_plain := fun_mk (st := s_law_plain) l_law_plain c_law_plain k_law_plain
  have B_law_plain := F_law_plain.binds (ps := ["_law_x", "_law_y", "_law_z"]) fun _ _ _ _ _ _ us hl => match us, hl with | [_, _, _], _ => rfl
  have F_law := fun_mk (st := s_law) l_law c_law k_law
  let A : Ad := { c_Enough := c_Enough, c_Fits := c_Fits, c_Cut := c_Cut, c_Never := c_Never, c_Beyond := c_Beyond, c_EndlessCut := c_EndlessCut, c_Table := c_Table, c_Ring := c_Ring, c_Mean := c_Mean, c_Lengths := c_Lengths, c_Verdict := c_Verdict, f_Enough_init := f_Enough_init, f_Fits_init := f_Fits_init, f_Cut_init := f_Cut_init, f_Never_init := f_Never_init, f_Beyond_init := f_Beyond_init, f_EndlessCut_init := f_EndlessCut_init, f_Table_init := f_Table_init, f_Ring_init := f_Ring_init, f_Mean_init := f_Mean_init, f_Lengths_init := f_Lengths_init, f_Enough_eq := f_Enough_eq, f_Fits_eq := f_Fits_eq, f_Cut_eq := f_Cut_eq, f_Never_eq := f_Never_eq, f_Beyond_eq := f_Beyond_eq, f_EndlessCut_eq := f_EndlessCut_eq, f_Table_eq := f_Table_eq, f_Ring_eq := f_Ring_eq, f_Mean_eq := f_Mean_eq, f_Lengths_eq := f_Lengths_eq, f_Enough_bool := f_Enough_bool, f_Fits_bool := f_Fits_bool, f_Cut_bool := f_Cut_bool, f_Never_bool := f_Never_bool, f_Beyond_bool := f_Beyond_bool, f_EndlessCut_bool := f_EndlessCut_bool, f_law_pen := f_law_pen, f_law_draw := f_law_draw, f_law_pick := f_law_pick, f_law_yes := f_law_yes, f_law_no := f_law_no, f_law_plain := f_law_plain, f_law := fa, d_Enough_init := PySem.W.fnOf "__init__" "Enough.__init__" (defArgs s_Enough_init) (defBody s_Enough_init) (defScope s_Enough_init) .none kV_Enough_init dc_Enough_init pm_Enough_init an_Enough_init cd_Enough_init ct_Enough_init, d_Fits_init := PySem.W.fnOf "__init__" "Fits.__init__" (defArgs s_Fits_init) (defBody s_Fits_init) (defScope s_Fits_init) .none kV_Fits_init dc_Fits_init pm_Fits_init an_Fits_init cd_Fits_init ct_Fits_init, d_Cut_init := PySem.W.fnOf "__init__" "Cut.__init__" (defArgs s_Cut_init) (defBody s_Cut_init) (defScope s_Cut_init) .none kV_Cut_init dc_Cut_init pm_Cut_init an_Cut_init cd_Cut_init ct_Cut_init, d_Never_init := PySem.W.fnOf "__init__" "Never.__init__" (defArgs s_Never_init) (defBody s_Never_init) (defScope s_Never_init) .none kV_Never_init dc_Never_init pm_Never_init an_Never_init cd_Never_init ct_Never_init, d_Beyond_init := PySem.W.fnOf "__init__" "Beyond.__init__" (defArgs s_Beyond_init) (defBody s_Beyond_init) (defScope s_Beyond_init) .none kV_Beyond_init dc_Beyond_init pm_Beyond_init an_Beyond_init cd_Beyond_init ct_Beyond_init, d_EndlessCut_init := PySem.W.fnOf "__init__" "EndlessCut.__init__" (defArgs s_EndlessCut_init) (defBody s_EndlessCut_init) (defScope s_EndlessCut_init) .none kV_EndlessCut_init dc_EndlessCut_init pm_EndlessCut_init an_EndlessCut_init cd_EndlessCut_init ct_EndlessCut_init, d_Table_init := PySem.W.fnOf "__init__" "Table.__init__" (defArgs s_Table_init) (defBody s_Table_init) (defScope s_Table_init) .none kV_Table_init dc_Table_init pm_Table_init an_Table_init cd_Table_init ct_Table_init, d_Ring_init := PySem.W.fnOf "__init__" "Ring.__init__" (defArgs s_Ring_init) (defBody s_Ring_init) (defScope s_Ring_init) .none kV_Ring_init dc_Ring_init pm_Ring_init an_Ring_init cd_Ring_init ct_Ring_init, d_Mean_init := PySem.W.fnOf "__init__" "Mean.__init__" (defArgs s_Mean_init) (defBody s_Mean_init) (defScope s_Mean_init) .none kV_Mean_init dc_Mean_init pm_Mean_init an_Mean_init cd_Mean_init ct_Mean_init, d_Lengths_init := PySem.W.fnOf "__init__" "Lengths.__init__" (defArgs s_Lengths_init) (defBody s_Lengths_init) (defScope s_Lengths_init) .none kV_Lengths_init dc_Lengths_init pm_Lengths_init an_Lengths_init cd_Lengths_init ct_Lengths_init, d_Enough_eq := PySem.W.fnOf "__eq__" "Enough.__eq__" (defArgs s_Enough_eq) (defBody s_Enough_eq) (defScope s_Enough_eq) .none kV_Enough_eq dc_Enough_eq pm_Enough_eq an_Enough_eq cd_Enough_eq ct_Enough_eq, d_Fits_eq := PySem.W.fnOf "__eq__" "Fits.__eq__" (defArgs s_Fits_eq) (defBody s_Fits_eq) (defScope s_Fits_eq) .none kV_Fits_eq dc_Fits_eq pm_Fits_eq an_Fits_eq cd_Fits_eq ct_Fits_eq, d_Cut_eq := PySem.W.fnOf "__eq__" "Cut.__eq__" (defArgs s_Cut_eq) (defBody s_Cut_eq) (defScope s_Cut_eq) .none kV_Cut_eq dc_Cut_eq pm_Cut_eq an_Cut_eq cd_Cut_eq ct_Cut_eq, d_Never_eq := PySem.W.fnOf "__eq__" "Never.__eq__" (defArgs s_Never_eq) (defBody s_Never_eq) (defScope s_Never_eq) .none kV_Never_eq dc_Never_eq pm_Never_eq an_Never_eq cd_Never_eq ct_Never_eq, d_Beyond_eq := PySem.W.fnOf "__eq__" "Beyond.__eq__" (defArgs s_Beyond_eq) (defBody s_Beyond_eq) (defScope s_Beyond_eq) .none kV_Beyond_eq dc_Beyond_eq pm_Beyond_eq an_Beyond_eq cd_Beyond_eq ct_Beyond_eq, d_EndlessCut_eq := PySem.W.fnOf "__eq__" "EndlessCut.__eq__" (defArgs s_EndlessCut_eq) (defBody s_EndlessCut_eq) (defScope s_EndlessCut_eq) .none kV_EndlessCut_eq dc_EndlessCut_eq pm_EndlessCut_eq an_EndlessCut_eq cd_EndlessCut_eq ct_EndlessCut_eq, d_Table_eq := PySem.W.fnOf "__eq__" "Table.__eq__" (defArgs s_Table_eq) (defBody s_Table_eq) (defScope s_Table_eq) .none kV_Table_eq dc_Table_eq pm_Table_eq an_Table_eq cd_Table_eq ct_Table_eq, d_Ring_eq := PySem.W.fnOf "__eq__" "Ring.__eq__" (defArgs s_Ring_eq) (defBody s_Ring_eq) (defScope s_Ring_eq) .none kV_Ring_eq dc_Ring_eq pm_Ring_eq an_Ring_eq cd_Ring_eq ct_Ring_eq, d_Mean_eq := PySem.W.fnOf "__eq__" "Mean.__eq__" (defArgs s_Mean_eq) (defBody s_Mean_eq) (defScope s_Mean_eq) .none kV_Mean_eq dc_Mean_eq pm_Mean_eq an_Mean_eq cd_Mean_eq ct_Mean_eq, d_Lengths_eq := PySem.W.fnOf "__eq__" "Lengths.__eq__" (defArgs s_Lengths_eq) (defBody s_Lengths_eq) (defScope s_Lengths_eq) .none kV_Lengths_eq dc_Lengths_eq pm_Lengths_eq an_Lengths_eq cd_Lengths_eq ct_Lengths_eq, d_Enough_bool := PySem.W.fnOf "__bool__" "Enough.__bool__" (defArgs s_Enough_bool) (defBody s_Enough_bool) (defScope s_Enough_bool) .none kV_Enough_bool dc_Enough_bool pm_Enough_bool an_Enough_bool cd_Enough_bool ct_Enough_bool, d_Fits_bool := PySem.W.fnOf "__bool__" "Fits.__bool__" (defArgs s_Fits_bool) (defBody s_Fits_bool) (defScope s_Fits_bool) .none kV_Fits_bool dc_Fits_bool pm_Fits_bool an_Fits_bool cd_Fits_bool ct_Fits_bool, d_Cut_bool := PySem.W.fnOf "__bool__" "Cut.__bool__" (defArgs s_Cut_bool) (defBody s_Cut_bool) (defScope s_Cut_bool) .none kV_Cut_bool dc_Cut_bool pm_Cut_bool an_Cut_bool cd_Cut_bool ct_Cut_bool, d_Never_bool := PySem.W.fnOf "__bool__" "Never.__bool__" (defArgs s_Never_bool) (defBody s_Never_bool) (defScope s_Never_bool) .none kV_Never_bool dc_Never_bool pm_Never_bool an_Never_bool cd_Never_bool ct_Never_bool, d_Beyond_bool := PySem.W.fnOf "__bool__" "Beyond.__bool__" (defArgs s_Beyond_bool) (defBody s_Beyond_bool) (defScope s_Beyond_bool) .none kV_Beyond_bool dc_Beyond_bool pm_Beyond_bool an_Beyond_bool cd_Beyond_bool ct_Beyond_bool, d_EndlessCut_bool := PySem.W.fnOf "__bool__" "EndlessCut.__bool__" (defArgs s_EndlessCut_bool) (defBody s_EndlessCut_bool) (defScope s_EndlessCut_bool) .none kV_EndlessCut_bool dc_EndlessCut_bool pm_EndlessCut_bool an_EndlessCut_bool cd_EndlessCut_bool ct_EndlessCut_bool, d_law_pen := PySem.W.fnOf "_law_pen" "_law_pen" (defArgs s_law_pen) (defBody s_law_pen) (defScope s_law_pen) .none kV_law_pen dc_law_pen pm_law_pen an_law_pen cd_law_pen ct_law_pen, d_law_draw := PySem.W.fnOf "_law_draw" "_law_draw" (defArgs s_law_draw) (defBody s_law_draw) (defScope s_law_draw) .none kV_law_draw dc_law_draw pm_law_draw an_law_draw cd_law_draw ct_law_draw, d_law_pick := PySem.W.fnOf "_law_pick" "_law_pick" (defArgs s_law_pick) (defBody s_law_pick) (defScope s_law_pick) .none kV_law_pick dc_law_pick pm_law_pick an_law_pick cd_law_pick ct_law_pick, d_law_yes := PySem.W.fnOf "_law_yes" "_law_yes" (defArgs s_law_yes) (defBody s_law_yes) (defScope s_law_yes) .none kV_law_yes dc_law_yes pm_law_yes an_law_yes cd_law_yes ct_law_yes, d_law_no := PySem.W.fnOf "_law_no" "_law_no" (defArgs s_law_no) (defBody s_law_no) (defScope s_law_no) .none kV_law_no dc_law_no pm_law_no an_law_no cd_law_no ct_law_no, d_law_plain := PySem.W.fnOf "_law_plain" "_law_plain" (defArgs s_law_plain) (defBody s_law_plain) (defScope s_law_plain) .none kV_law_plain dc_law_plain pm_law_plain an_law_plain cd_law_plain ct_law_plain, d_law := PySem.W.fnOf "law" "law" (defArgs s_law) (defBody s_law) (defScope s_law) .none kV_law dc_law pm_law an_law cd_law ct_law }
  have T : Txt K mg A := {
    kf := kf_mk de_nd (fun i => match i with | .Enough => ⟨pg_Enough, hd_Enough, po_Enough, sa_Enough⟩ | .Fits => ⟨pg_Fits, hd_Fits, po_Fits, sa_Fits⟩ | .Cut => ⟨pg_Cut, hd_Cut, po_Cut, sa_Cut⟩ | .Never => ⟨pg_Never, hd_Never, po_Never, sa_Never⟩ | .Beyond => ⟨pg_Beyond, hd_Beyond, po_Beyond, sa_Beyond⟩ | .EndlessCut => ⟨pg_EndlessCut, hd_EndlessCut, po_EndlessCut, sa_EndlessCut⟩ | .Table => ⟨pg_Table, hd_Table, po_Table, sa_Table⟩ | .Ring => ⟨pg_Ring, hd_Ring, po_Ring, sa_Ring⟩ | .Mean => ⟨pg_Mean, hd_Mean, po_Mean, sa_Mean⟩ | .Lengths => ⟨pg_Lengths, hd_Lengths, po_Lengths, sa_Lengths⟩) (fun i => match i with | .Enough => ha_Enough | .Fits => ha_Fits | .Cut => ha_Cut | .Never => ha_Never | .Beyond => ha_Beyond | .EndlessCut => ha_EndlessCut | .Table => ha_Table | .Ring => ha_Ring | .Mean => ha_Mean | .Lengths => ha_Lengths) hn htk (fun i => match i with | .Enough => hm_Enough | .Fits => hm_Fits | .Cut => hm_Cut | .Never => hm_Never | .Beyond => hm_Beyond | .EndlessCut => hm_EndlessCut | .Table => hm_Table | .Ring => hm_Ring | .Mean => hm_Mean | .Lengths => hm_Lengths) (fun i => match i with | .Enough => na3 na_Enough_number na_Enough_heights na_Enough_text | .Fits => na4 na_Fits_number na_Fits_rises na_Fits_losses na_Fits_text | .Cut => na4 na_Cut_number na_Cut_heights na_Cut_text na_Cut_at | .Never => na3 na_Never_ahead na_Never_ring na_Never_behind | .Beyond => na5 na_Beyond_ahead na_Beyond_rising na_Beyond_between na_Beyond_falling na_Beyond_behind | .EndlessCut => na4 na_EndlessCut_text na_EndlessCut_at na_EndlessCut_ring na_EndlessCut_behind | .Table => na1 na_Table_growths | .Ring => na2 na_Ring_state na_Ring_text | .Mean => na3 na_Mean_rate na_Mean_ring na_Mean_heights | .Lengths => na3 na_Lengths_first na_Lengths_steps na_Lengths_tails) (fun i => match i with | .Enough => ⟨cd_Enough, hcd_Enough, rf_mro_Enough⟩ | .Fits => ⟨cd_Fits, hcd_Fits, rf_mro_Fits⟩ | .Cut => ⟨cd_Cut, hcd_Cut, rf_mro_Cut⟩ | .Never => ⟨cd_Never, hcd_Never, rf_mro_Never⟩ | .Beyond => ⟨cd_Beyond, hcd_Beyond, rf_mro_Beyond⟩ | .EndlessCut => ⟨cd_EndlessCut, hcd_EndlessCut, rf_mro_EndlessCut⟩ | .Table => ⟨cd_Table, hcd_Table, rf_mro_Table⟩ | .Ring => ⟨cd_Ring, hcd_Ring, rf_mro_Ring⟩ | .Mean => ⟨cd_Mean, hcd_Mean, rf_mro_Mean⟩ | .Lengths => ⟨cd_Lengths, hcd_Lengths, rf_mro_Lengths⟩) (fun i => match i with | .Enough => tyC_Enough | .Fits => tyC_Fits | .Cut => tyC_Cut | .Never => tyC_Never | .Beyond => tyC_Beyond | .EndlessCut => tyC_EndlessCut | .Table => tyC_Table | .Ring => tyC_Ring | .Mean => tyC_Mean | .Lengths => tyC_Lengths) vc vt
    b_abs := PySem.W.mg_none_of X G zb_abs
    b_bool := PySem.W.mg_none_of X G zb_bool
    b_enumerate := PySem.W.mg_none_of X G zb_enumerate
    b_int := PySem.W.mg_none_of X G zb_int
    b_isinstance := PySem.W.mg_none_of X G zb_isinstance
    b_len := PySem.W.mg_none_of X G zb_len
    b_list := PySem.W.mg_none_of X G zb_list
    b_range := PySem.W.mg_none_of X G zb_range
    b_repr := PySem.W.mg_none_of X G zb_repr
    b_tuple := PySem.W.mg_none_of X G zb_tuple
    g_Enough := PySem.W.mg_of X G aC_Enough
    M_Enough := ⟨mk_Enough, a_Enough_init, i_Enough_init, kc_Enough⟩
    g_Fits := PySem.W.mg_of X G aC_Fits
    M_Fits := ⟨mk_Fits, a_Fits_init, i_Fits_init, kc_Fits⟩
    g_Cut := PySem.W.mg_of X G aC_Cut
    M_Cut := ⟨mk_Cut, a_Cut_init, i_Cut_init, kc_Cut⟩
    g_Never := PySem.W.mg_of X G aC_Never
    M_Never := ⟨mk_Never, a_Never_init, i_Never_init, kc_Never⟩
    g_Beyond := PySem.W.mg_of X G aC_Beyond
    M_Beyond := ⟨mk_Beyond, a_Beyond_init, i_Beyond_init, kc_Beyond⟩
    g_EndlessCut := PySem.W.mg_of X G aC_EndlessCut
    M_EndlessCut := ⟨mk_EndlessCut, a_EndlessCut_init, i_EndlessCut_init, kc_EndlessCut⟩
    g_Table := PySem.W.mg_of X G aC_Table
    M_Table := ⟨mk_Table, a_Table_init, i_Table_init, kc_Table⟩
    g_Ring := PySem.W.mg_of X G aC_Ring
    M_Ring := ⟨mk_Ring, a_Ring_init, i_Ring_init, kc_Ring⟩
    g_Mean := PySem.W.mg_of X G aC_Mean
    M_Mean := ⟨mk_Mean, a_Mean_init, i_Mean_init, kc_Mean⟩
    g_Lengths := PySem.W.mg_of X G aC_Lengths
    M_Lengths := ⟨mk_Lengths, a_Lengths_init, i_Lengths_init, kc_Lengths⟩
    g_Verdict := PySem.W.mg_of X G aC_Verdict
    F_Enough_init := F_Enough_init
    B_Enough_init := B_Enough_init
    F_Fits_init := F_Fits_init
    B_Fits_init := B_Fits_init
    F_Cut_init := F_Cut_init
    B_Cut_init := B_Cut_init
    F_Never_init := F_Never_init
    B_Never_init := B_Never_init
    F_Beyond_init := F_Beyond_init
    B_Beyond_init := B_Beyond_init
    F_EndlessCut_init := F_EndlessCut_init
    B_EndlessCut_init := B_EndlessCut_init
    F_Table_init := F_Table_init
    B_Table_init := B_Table_init
    F_Ring_init := F_Ring_init
    B_Ring_init := B_Ring_init
    F_Mean_init := F_Mean_init
    B_Mean_init := B_Mean_init
    F_Lengths_init := F_Lengths_init
    B_Lengths_init := B_Lengths_init
    F_Enough_eq := F_Enough_eq
    B_Enough_eq := B_Enough_eq
    F_Fits_eq := F_Fits_eq
    B_Fits_eq := B_Fits_eq
    F_Cut_eq := F_Cut_eq
    B_Cut_eq := B_Cut_eq
    F_Never_eq := F_Never_eq
    B_Never_eq := B_Never_eq
    F_Beyond_eq := F_Beyond_eq
    B_Beyond_eq := B_Beyond_eq
    F_EndlessCut_eq := F_EndlessCut_eq
    B_EndlessCut_eq := B_EndlessCut_eq
    F_Table_eq := F_Table_eq
    B_Table_eq := B_Table_eq
    F_Ring_eq := F_Ring_eq
    B_Ring_eq := B_Ring_eq
    F_Mean_eq := F_Mean_eq
    B_Mean_eq := B_Mean_eq
    F_Lengths_eq := F_Lengths_eq
    B_Lengths_eq := B_Lengths_eq
    F_Enough_bool := F_Enough_bool
    B_Enough_bool := B_Enough_bool
    F_Fits_bool := F_Fits_bool
    B_Fits_bool := B_Fits_bool
    F_Cut_bool := F_Cut_bool
    B_Cut_bool := B_Cut_bool
    F_Never_bool := F_Never_bool
    B_Never_bool := B_Never_bool
    F_Beyond_bool := F_Beyond_bool
    B_Beyond_bool := B_Beyond_bool
    F_EndlessCut_bool := F_EndlessCut_bool
    B_EndlessCut_bool := B_EndlessCut_bool
    g_law_pen := PySem.W.mg_of X G a_law_pen
    F_law_pen := F_law_pen
    B_law_pen := B_law_pen
    g_law_draw := PySem.W.mg_of X G a_law_draw
    F_law_draw := F_law_draw
    B_law_draw := B_law_draw
    g_law_pick := PySem.W.mg_of X G a_law_pick
    F_law_pick := F_law_pick
    B_law_pick := B_law_pick
    g_law_yes := PySem.W.mg_of X G a_law_yes
    F_law_yes := F_law_yes
    B_law_yes := B_law_yes
    g_law_no := PySem.W.mg_of X G a_law_no
    F_law_no := F_law_no
    B_law_no := B_law_no
    g_law_plain := PySem.W.mg_of X G a_law_plain
    F_law_plain := F_law_plain
    B_law_plain := B_law_plain
    F_law := F_law
    nk_Enough := ⟨hm_Enough, ny_Enough, a_Enough_eq, i_Enough_eq⟩
    q_Enough_eq := ⟨a_Enough_eq, i_Enough_eq⟩
    bo_Enough := ⟨a_Enough_bool, i_Enough_bool⟩
    nk_Fits := ⟨hm_Fits, ny_Fits, a_Fits_eq, i_Fits_eq⟩
    q_Fits_eq := ⟨a_Fits_eq, i_Fits_eq⟩
    bo_Fits := ⟨a_Fits_bool, i_Fits_bool⟩
    nk_Cut := ⟨hm_Cut, ny_Cut, a_Cut_eq, i_Cut_eq⟩
    q_Cut_eq := ⟨a_Cut_eq, i_Cut_eq⟩
    bo_Cut := ⟨a_Cut_bool, i_Cut_bool⟩
    nk_Never := ⟨hm_Never, ny_Never, a_Never_eq, i_Never_eq⟩
    q_Never_eq := ⟨a_Never_eq, i_Never_eq⟩
    bo_Never := ⟨a_Never_bool, i_Never_bool⟩
    nk_Beyond := ⟨hm_Beyond, ny_Beyond, a_Beyond_eq, i_Beyond_eq⟩
    q_Beyond_eq := ⟨a_Beyond_eq, i_Beyond_eq⟩
    bo_Beyond := ⟨a_Beyond_bool, i_Beyond_bool⟩
    nk_EndlessCut := ⟨hm_EndlessCut, ny_EndlessCut, a_EndlessCut_eq, i_EndlessCut_eq⟩
    q_EndlessCut_eq := ⟨a_EndlessCut_eq, i_EndlessCut_eq⟩
    bo_EndlessCut := ⟨a_EndlessCut_bool, i_EndlessCut_bool⟩
    nk_Table := ⟨hm_Table, ny_Table, a_Table_eq, i_Table_eq⟩
    q_Table_eq := ⟨a_Table_eq, i_Table_eq⟩
    nk_Ring := ⟨hm_Ring, ny_Ring, a_Ring_eq, i_Ring_eq⟩
    q_Ring_eq := ⟨a_Ring_eq, i_Ring_eq⟩
    nk_Mean := ⟨hm_Mean, ny_Mean, a_Mean_eq, i_Mean_eq⟩
    q_Mean_eq := ⟨a_Mean_eq, i_Mean_eq⟩
    nk_Lengths := ⟨hm_Lengths, ny_Lengths, a_Lengths_eq, i_Lengths_eq⟩
    q_Lengths_eq := ⟨a_Lengths_eq, i_Lengths_eq⟩
    KW_Beyond_init_behind_falling_between_rising_ahead := ⟨_, fun_kb F_Beyond_init (ps := ["self", "ahead", "rising", "between", "falling", "behind"]) 1 ["behind", "falling", "between", "rising", "ahead"] (fun us ws => us ++ ((ws.drop 4).take 1 ++ ((ws.drop 3).take 1 ++ ((ws.drop 2).take 1 ++ ((ws.drop 1).take 1 ++ ((ws.drop 0).take 1)))))) (fun r1 r2 => r1.append ((((r2.drop 4).take 1).append (((r2.drop 3).take 1).append (((r2.drop 2).take 1).append (((r2.drop 1).take 1).append ((r2.drop 0).take 1))))))) (fun _ _ _ _ _ _ us ws h1 h2 => match us, ws, h1, h2 with | [_], [_, _, _, _, _], _, _ => rfl)⟩
    KW_Cut_init_at_text_heights_number := ⟨_, fun_kb F_Cut_init (ps := ["self", "number", "heights", "text", "at"]) 1 ["at", "text", "heights", "number"] (fun us ws => us ++ ((ws.drop 3).take 1 ++ ((ws.drop 2).take 1 ++ ((ws.drop 1).take 1 ++ ((ws.drop 0).take 1))))) (fun r1 r2 => r1.append ((((r2.drop 3).take 1).append (((r2.drop 2).take 1).append (((r2.drop 1).take 1).append ((r2.drop 0).take 1)))))) (fun _ _ _ _ _ _ us ws h1 h2 => match us, ws, h1, h2 with | [_], [_, _, _, _], _, _ => rfl)⟩
    KW_EndlessCut_init_behind_ring_at_text := ⟨_, fun_kb F_EndlessCut_init (ps := ["self", "text", "at", "ring", "behind"]) 1 ["behind", "ring", "at", "text"] (fun us ws => us ++ ((ws.drop 3).take 1 ++ ((ws.drop 2).take 1 ++ ((ws.drop 1).take 1 ++ ((ws.drop 0).take 1))))) (fun r1 r2 => r1.append ((((r2.drop 3).take 1).append (((r2.drop 2).take 1).append (((r2.drop 1).take 1).append ((r2.drop 0).take 1)))))) (fun _ _ _ _ _ _ us ws h1 h2 => match us, ws, h1, h2 with | [_], [_, _, _, _], _, _ => rfl)⟩
    KW_Enough_init_text_heights_number := ⟨_, fun_kb F_Enough_init (ps := ["self", "number", "heights", "text"]) 1 ["text", "heights", "number"] (fun us ws => us ++ ((ws.drop 2).take 1 ++ ((ws.drop 1).take 1 ++ ((ws.drop 0).take 1)))) (fun r1 r2 => r1.append ((((r2.drop 2).take 1).append (((r2.drop 1).take 1).append ((r2.drop 0).take 1))))) (fun _ _ _ _ _ _ us ws h1 h2 => match us, ws, h1, h2 with | [_], [_, _, _], _, _ => rfl)⟩
    KW_Fits_init_text_losses_rises_number := ⟨_, fun_kb F_Fits_init (ps := ["self", "number", "rises", "losses", "text"]) 1 ["text", "losses", "rises", "number"] (fun us ws => us ++ ((ws.drop 3).take 1 ++ ((ws.drop 2).take 1 ++ ((ws.drop 1).take 1 ++ ((ws.drop 0).take 1))))) (fun r1 r2 => r1.append ((((r2.drop 3).take 1).append (((r2.drop 2).take 1).append (((r2.drop 1).take 1).append ((r2.drop 0).take 1)))))) (fun _ _ _ _ _ _ us ws h1 h2 => match us, ws, h1, h2 with | [_], [_, _, _, _], _, _ => rfl)⟩
    KW_Lengths_init_tails_steps_first := ⟨_, fun_kb F_Lengths_init (ps := ["self", "first", "steps", "tails"]) 1 ["tails", "steps", "first"] (fun us ws => us ++ ((ws.drop 2).take 1 ++ ((ws.drop 1).take 1 ++ ((ws.drop 0).take 1)))) (fun r1 r2 => r1.append ((((r2.drop 2).take 1).append (((r2.drop 1).take 1).append ((r2.drop 0).take 1))))) (fun _ _ _ _ _ _ us ws h1 h2 => match us, ws, h1, h2 with | [_], [_, _, _], _, _ => rfl)⟩
    KW_Mean_init_heights_ring_rate := ⟨_, fun_kb F_Mean_init (ps := ["self", "rate", "ring", "heights"]) 1 ["heights", "ring", "rate"] (fun us ws => us ++ ((ws.drop 2).take 1 ++ ((ws.drop 1).take 1 ++ ((ws.drop 0).take 1)))) (fun r1 r2 => r1.append ((((r2.drop 2).take 1).append (((r2.drop 1).take 1).append ((r2.drop 0).take 1))))) (fun _ _ _ _ _ _ us ws h1 h2 => match us, ws, h1, h2 with | [_], [_, _, _], _, _ => rfl)⟩
    KW_Never_init_behind_ring_ahead := ⟨_, fun_kb F_Never_init (ps := ["self", "ahead", "ring", "behind"]) 1 ["behind", "ring", "ahead"] (fun us ws => us ++ ((ws.drop 2).take 1 ++ ((ws.drop 1).take 1 ++ ((ws.drop 0).take 1)))) (fun r1 r2 => r1.append ((((r2.drop 2).take 1).append (((r2.drop 1).take 1).append ((r2.drop 0).take 1))))) (fun _ _ _ _ _ _ us ws h1 h2 => match us, ws, h1, h2 with | [_], [_, _, _], _, _ => rfl)⟩
    KW_Ring_init_text_state := ⟨_, fun_kb F_Ring_init (ps := ["self", "state", "text"]) 1 ["text", "state"] (fun us ws => us ++ ((ws.drop 1).take 1 ++ ((ws.drop 0).take 1))) (fun r1 r2 => r1.append ((((r2.drop 1).take 1).append ((r2.drop 0).take 1)))) (fun _ _ _ _ _ _ us ws h1 h2 => match us, ws, h1, h2 with | [_], [_, _], _, _ => rfl)⟩
    KW_Table_init_growths := ⟨_, fun_kb F_Table_init (ps := ["self", "growths"]) 1 ["growths"] (fun us ws => us ++ ((ws.drop 0).take 1)) (fun r1 r2 => r1.append (((r2.drop 0).take 1))) (fun _ _ _ _ _ _ us ws h1 h2 => match us, ws, h1, h2 with | [_], [_], _, _ => rfl)⟩
  }
  exact ⟨_, fun s v => .of_eq rfl, fun base _ _ => ok_all T⟩

theorem walk {l : PySem.W.OpenLaw} {q : Program} {loose : List Str} {XP : (Str → Option Value) → Heap → Prop} {YP : World → Heap → Prop} {d : DefRec} {K : Params → PySem.W.Frag} (hn : l.most = some 63) (hdf : d.params.defaults = [])
    (hY : ∀ (w : World) (h : Heap), YP w h → (K w.params).In h)
    (F : ∀ (w : World) (mg : Str → Option Value) (fa : Addr) (h : Heap), (K w.params).In h → h.Ns mainGlobals mg → mg d.name = some (.ref fa) →
      ∃ fd : FuncData, (∀ (s : Shared) (u : Value), BindsTo s fd ⟨[u], []⟩ [("_law_script", u)]) ∧ ∀ base : Heap, (K w.params).In base → base.Ns mainGlobals mg → FnG l.prog w (K w.params) mg base CX0 5 fa fd ["_law_script"] (spLaw (K w.params))) :
    PySem.W.WalkO q loose XP YP l.row.toRowW d [] (fun f vs => PySem.call f vs) :=
  walkG (n := 63) (k := 5) (x := "_law_script") (CX := fun _ => CX0) (sp := fun w => spLaw (K w.params)) hn (by decide) hdf ⟨rfl, by decide, by decide⟩ hY F (fun w H a ns hl hS hH => ⟨⟨ns, hS⟩, fun _ => rfl⟩) fun _ _ _ _ _ z => z

end HG

namespace HGH
open PySem
def ns0 : List PySem.Str := ["Table", "Verdict", "Enough", "Never", "Fits", "Beyond", "Cut", "EndlessCut", "Ring", "Mean", "Lengths", "_law_pen"]
def ns1 : List PySem.Str := ["_law_draw", "_law_pick", "_law_yes", "_law_no", "_law_plain"]
def names : List PySem.Str := ns0 ++ ns1
end HGH
open PySem PySem.W PySem.Calls PyProof.Rows
local macro_rules | `(tactic| o_head ($f $k $a $e)) => `(tactic| refine HandSHeadRun.head_any (r := (OpenLaw.row PySem.Challenge.rw_headgap_k02_papers_keep_values)) (q := view ((OpenLaw.row PySem.Challenge.rw_headgap_k02_papers_keep_values)).prog [25]) (H := $f $k $a $e) (ob := fun s => List.map (HandSHeadRun.getT s) $a) (M := 14000) (loose := HGH.names) (d := HandSHeadRun.topDef ((OpenLaw.row PySem.Challenge.rw_headgap_k02_papers_keep_values)).prog 25) (kwd := []) (fun s => List.map_congr_left fun a _ => HandSHeadRun.getT_eq s a) (by kernel_rfl) (fun s => by kernel_rfl) ?_ (by kernel_rfl) (by kernel_rfl) (by kernel_rfl) (by rfl) (by first | assumption | decide +kernel) (by decide +kernel) ⟨rfl, rfl, rfl, rfl, rfl, by decide +kernel⟩ ?_ ?_)
set_option maxRecDepth 100000 in
set_option maxHeartbeats 0 in
theorem PySem.Challenge.cw_headgap_k02_papers_keep_values_holds : PySem.Challenge.rw_headgap_k02_papers_keep_values.Holds := by
  w_on; o_law; k_head; rotate_left; (focus w_witness2); rotate_left; (focus (intro w os; kernel_rfl))
  k_fill
  refine HG.walk (l := PySem.Challenge.rw_headgap_k02_papers_keep_values) rfl rfl (fun w h Y => PySem.W.kIn_of Y) ?F
  case F =>
    intro w mg fa h KX G hmg
    refine' HG.all_mk KX G hmg ?aC_Enough ?aC_Fits ?aC_Cut ?aC_Never ?aC_Beyond ?aC_EndlessCut ?aC_Table ?aC_Ring ?aC_Mean ?aC_Lengths ?aC_Verdict ?a_Enough_init ?i_Enough_init ?l_Enough_init ?c_Enough_init ?k_Enough_init ?a_Fits_init ?i_Fits_init ?l_Fits_init ?c_Fits_init ?k_Fits_init ?a_Cut_init ?i_Cut_init ?l_Cut_init ?c_Cut_init ?k_Cut_init ?a_Never_init ?i_Never_init ?l_Never_init ?c_Never_init ?k_Never_init ?a_Beyond_init ?i_Beyond_init ?l_Beyond_init ?c_Beyond_init ?k_Beyond_init ?a_EndlessCut_init ?i_EndlessCut_init ?l_EndlessCut_init ?c_EndlessCut_init ?k_EndlessCut_init ?a_Table_init ?i_Table_init ?l_Table_init ?c_Table_init ?k_Table_init ?a_Ring_init ?i_Ring_init ?l_Ring_init ?c_Ring_init ?k_Ring_init ?a_Mean_init ?i_Mean_init ?l_Mean_init ?c_Mean_init ?k_Mean_init ?a_Lengths_init ?i_Lengths_init ?l_Lengths_init ?c_Lengths_init ?k_Lengths_init ?a_Enough_eq ?i_Enough_eq ?l_Enough_eq ?c_Enough_eq ?k_Enough_eq ?a_Fits_eq ?i_Fits_eq ?l_Fits_eq ?c_Fits_eq ?k_Fits_eq ?a_Cut_eq ?i_Cut_eq ?l_Cut_eq ?c_Cut_eq ?k_Cut_eq ?a_Never_eq ?i_Never_eq ?l_Never_eq ?c_Never_eq ?k_Never_eq ?a_Beyond_eq ?i_Beyond_eq ?l_Beyond_eq ?c_Beyond_eq ?k_Beyond_eq ?a_EndlessCut_eq ?i_EndlessCut_eq ?l_EndlessCut_eq ?c_EndlessCut_eq ?k_EndlessCut_eq ?a_Table_eq ?i_Table_eq ?l_Table_eq ?c_Table_eq ?k_Table_eq ?a_Ring_eq ?i_Ring_eq ?l_Ring_eq ?c_Ring_eq ?k_Ring_eq ?a_Mean_eq ?i_Mean_eq ?l_Mean_eq ?c_Mean_eq ?k_Mean_eq ?a_Lengths_eq ?i_Lengths_eq ?l_Lengths_eq ?c_Lengths_eq ?k_Lengths_eq ?a_Enough_bool ?i_Enough_bool ?l_Enough_bool ?c_Enough_bool ?k_Enough_bool ?a_Fits_bool ?i_Fits_bool ?l_Fits_bool ?c_Fits_bool ?k_Fits_bool ?a_Cut_bool ?i_Cut_bool ?l_Cut_bool ?c_Cut_bool ?k_Cut_bool ?a_Never_bool ?i_Never_bool ?l_Never_bool ?c_Never_bool ?k_Never_bool ?a_Beyond_bool ?i_Beyond_bool ?l_Beyond_bool ?c_Beyond_bool ?k_Beyond_bool ?a_EndlessCut_bool ?i_EndlessCut_bool ?l_EndlessCut_bool ?c_EndlessCut_bool ?k_EndlessCut_bool ?a_law_pen ?l_law_pen ?c_law_pen ?k_law_pen ?a_law_draw ?l_law_draw ?c_law_draw ?k_law_draw ?a_law_pick ?l_law_pick ?c_law_pick ?k_law_pick ?a_law_yes ?l_law_yes ?c_law_yes ?k_law_yes ?a_law_no ?l_law_no ?c_law_no ?k_law_no ?a_law_plain ?l_law_plain ?c_law_plain ?k_law_plain ?a_law ?l_law ?c_law ?k_law ?hn ?htk ?vc ?vt ?de_nd ?pg_Enough ?hd_Enough ?po_Enough ?sa_Enough ?mk_Enough ?kc_Enough ?ha_Enough ?hm_Enough ?tyC_Enough ?hcd_Enough ?rf_mro_Enough ?ny_Enough ?na_Enough_number ?na_Enough_heights ?na_Enough_text ?pg_Fits ?hd_Fits ?po_Fits ?sa_Fits ?mk_Fits ?kc_Fits ?ha_Fits ?hm_Fits ?tyC_Fits ?hcd_Fits ?rf_mro_Fits ?ny_Fits ?na_Fits_number ?na_Fits_rises ?na_Fits_losses ?na_Fits_text ?pg_Cut ?hd_Cut ?po_Cut ?sa_Cut ?mk_Cut ?kc_Cut ?ha_Cut ?hm_Cut ?tyC_Cut ?hcd_Cut ?rf_mro_Cut ?ny_Cut ?na_Cut_number ?na_Cut_heights ?na_Cut_text ?na_Cut_at ?pg_Never ?hd_Never ?po_Never ?sa_Never ?mk_Never ?kc_Never ?ha_Never ?hm_Never ?tyC_Never ?hcd_Never ?rf_mro_Never ?ny_Never ?na_Never_ahead ?na_Never_ring ?na_Never_behind ?pg_Beyond ?hd_Beyond ?po_Beyond ?sa_Beyond ?mk_Beyond ?kc_Beyond ?ha_Beyond ?hm_Beyond ?tyC_Beyond ?hcd_Beyond ?rf_mro_Beyond ?ny_Beyond ?na_Beyond_ahead ?na_Beyond_rising ?na_Beyond_between ?na_Beyond_falling ?na_Beyond_behind ?pg_EndlessCut ?hd_EndlessCut ?po_EndlessCut ?sa_EndlessCut ?mk_EndlessCut ?kc_EndlessCut ?ha_EndlessCut ?hm_EndlessCut ?tyC_EndlessCut ?hcd_EndlessCut ?rf_mro_EndlessCut ?ny_EndlessCut ?na_EndlessCut_text ?na_EndlessCut_at ?na_EndlessCut_ring ?na_EndlessCut_behind ?pg_Table ?hd_Table ?po_Table ?sa_Table ?mk_Table ?kc_Table ?ha_Table ?hm_Table ?tyC_Table ?hcd_Table ?rf_mro_Table ?ny_Table ?na_Table_growths ?pg_Ring ?hd_Ring ?po_Ring ?sa_Ring ?mk_Ring ?kc_Ring ?ha_Ring ?hm_Ring ?tyC_Ring ?hcd_Ring ?rf_mro_Ring ?ny_Ring ?na_Ring_state ?na_Ring_text ?pg_Mean ?hd_Mean ?po_Mean ?sa_Mean ?mk_Mean ?kc_Mean ?ha_Mean ?hm_Mean ?tyC_Mean ?hcd_Mean ?rf_mro_Mean ?ny_Mean ?na_Mean_rate ?na_Mean_ring ?na_Mean_heights ?pg_Lengths ?hd_Lengths ?po_Lengths ?sa_Lengths ?mk_Lengths ?kc_Lengths ?ha_Lengths ?hm_Lengths ?tyC_Lengths ?hcd_Lengths ?rf_mro_Lengths ?ny_Lengths ?na_Lengths_first ?na_Lengths_steps ?na_Lengths_tails ?zb_abs ?zb_bool ?zb_enumerate ?zb_int ?zb_isinstance ?zb_len ?zb_list ?zb_range ?zb_repr ?zb_tuple
    (case aC_Enough => as_aux_lemma => k_is)
    (case aC_Fits => as_aux_lemma => k_is)
    (case aC_Cut => as_aux_lemma => k_is)
    (case aC_Never => as_aux_lemma => k_is)
    (case aC_Beyond => as_aux_lemma => k_is)
    (case aC_EndlessCut => as_aux_lemma => k_is)
    (case aC_Table => as_aux_lemma => k_is)
    (case aC_Ring => as_aux_lemma => k_is)
    (case aC_Mean => as_aux_lemma => k_is)
    (case aC_Lengths => as_aux_lemma => k_is)
    (case aC_Verdict => as_aux_lemma => k_is)
    (case a_Enough_init => as_aux_lemma => k_is)
    (case i_Enough_init => as_aux_lemma => k_is)
    (case l_Enough_init => as_aux_lemma => k_is)
    (case c_Enough_init => as_aux_lemma => k_is)
    (case k_Enough_init => as_aux_lemma => k_is)
    (case a_Fits_init => as_aux_lemma => k_is)
    (case i_Fits_init => as_aux_lemma => k_is)
    (case l_Fits_init => as_aux_lemma => k_is)
    (case c_Fits_init => as_aux_lemma => k_is)
    (case k_Fits_init => as_aux_lemma => k_is)
    (case a_Cut_init => as_aux_lemma => k_is)
    (case i_Cut_init => as_aux_lemma => k_is)
    (case l_Cut_init => as_aux_lemma => k_is)
    (case c_Cut_init => as_aux_lemma => k_is)
    (case k_Cut_init => as_aux_lemma => k_is)
    (case a_Never_init => as_aux_lemma => k_is)
    (case i_Never_init => as_aux_lemma => k_is)
    (case l_Never_init => as_aux_lemma => k_is)
    (case c_Never_init => as_aux_lemma => k_is)
    (case k_Never_init => as_aux_lemma => k_is)
    (case a_Beyond_init => as_aux_lemma => k_is)
    (case i_Beyond_init => as_aux_lemma => k_is)
    (case l_Beyond_init => as_aux_lemma => k_is)
    (case c_Beyond_init => as_aux_lemma => k_is)
    (case k_Beyond_init => as_aux_lemma => k_is)
    (case a_EndlessCut_init => as_aux_lemma => k_is)
    (case i_EndlessCut_init => as_aux_lemma => k_is)
    (case l_EndlessCut_init => as_aux_lemma => k_is)
    (case c_EndlessCut_init => as_aux_lemma => k_is)
    (case k_EndlessCut_init => as_aux_lemma => k_is)
    (case a_Table_init => as_aux_lemma => k_is)
    (case i_Table_init => as_aux_lemma => k_is)
    (case l_Table_init => as_aux_lemma => k_is)
    (case c_Table_init => as_aux_lemma => k_is)
    (case k_Table_init => as_aux_lemma => k_is)
    (case a_Ring_init => as_aux_lemma => k_is)
    (case i_Ring_init => as_aux_lemma => k_is)
    (case l_Ring_init => as_aux_lemma => k_is)
    (case c_Ring_init => as_aux_lemma => k_is)
    (case k_Ring_init => as_aux_lemma => k_is)
    (case a_Mean_init => as_aux_lemma => k_is)
    (case i_Mean_init => as_aux_lemma => k_is)
    (case l_Mean_init => as_aux_lemma => k_is)
    (case c_Mean_init => as_aux_lemma => k_is)
    (case k_Mean_init => as_aux_lemma => k_is)
    (case a_Lengths_init => as_aux_lemma => k_is)
    (case i_Lengths_init => as_aux_lemma => k_is)
    (case l_Lengths_init => as_aux_lemma => k_is)
    (case c_Lengths_init => as_aux_lemma => k_is)
    (case k_Lengths_init => as_aux_lemma => k_is)
    (case a_Enough_eq => as_aux_lemma => k_is)
    (case i_Enough_eq => as_aux_lemma => k_is)
    (case l_Enough_eq => as_aux_lemma => k_is)
    (case c_Enough_eq => as_aux_lemma => k_is)
    (case k_Enough_eq => as_aux_lemma => k_is)
    (case a_Fits_eq => as_aux_lemma => k_is)
    (case i_Fits_eq => as_aux_lemma => k_is)
    (case l_Fits_eq => as_aux_lemma => k_is)
    (case c_Fits_eq => as_aux_lemma => k_is)
    (case k_Fits_eq => as_aux_lemma => k_is)
    (case a_Cut_eq => as_aux_lemma => k_is)
    (case i_Cut_eq => as_aux_lemma => k_is)
    (case l_Cut_eq => as_aux_lemma => k_is)
    (case c_Cut_eq => as_aux_lemma => k_is)
    (case k_Cut_eq => as_aux_lemma => k_is)
    (case a_Never_eq => as_aux_lemma => k_is)
    (case i_Never_eq => as_aux_lemma => k_is)
    (case l_Never_eq => as_aux_lemma => k_is)
    (case c_Never_eq => as_aux_lemma => k_is)
    (case k_Never_eq => as_aux_lemma => k_is)
    (case a_Beyond_eq => as_aux_lemma => k_is)
    (case i_Beyond_eq => as_aux_lemma => k_is)
    (case l_Beyond_eq => as_aux_lemma => k_is)
    (case c_Beyond_eq => as_aux_lemma => k_is)
    (case k_Beyond_eq => as_aux_lemma => k_is)
    (case a_EndlessCut_eq => as_aux_lemma => k_is)
    (case i_EndlessCut_eq => as_aux_lemma => k_is)
    (case l_EndlessCut_eq => as_aux_lemma => k_is)
    (case c_EndlessCut_eq => as_aux_lemma => k_is)
    (case k_EndlessCut_eq => as_aux_lemma => k_is)
    (case a_Table_eq => as_aux_lemma => k_is)
    (case i_Table_eq => as_aux_lemma => k_is)
    (case l_Table_eq => as_aux_lemma => k_is)
    (case c_Table_eq => as_aux_lemma => k_is)
    (case k_Table_eq => as_aux_lemma => k_is)
    (case a_Ring_eq => as_aux_lemma => k_is)
    (case i_Ring_eq => as_aux_lemma => k_is)
    (case l_Ring_eq => as_aux_lemma => k_is)
    (case c_Ring_eq => as_aux_lemma => k_is)
    (case k_Ring_eq => as_aux_lemma => k_is)
    (case a_Mean_eq => as_aux_lemma => k_is)
    (case i_Mean_eq => as_aux_lemma => k_is)
    (case l_Mean_eq => as_aux_lemma => k_is)
    (case c_Mean_eq => as_aux_lemma => k_is)
    (case k_Mean_eq => as_aux_lemma => k_is)
    (case a_Lengths_eq => as_aux_lemma => k_is)
    (case i_Lengths_eq => as_aux_lemma => k_is)
    (case l_Lengths_eq => as_aux_lemma => k_is)
    (case c_Lengths_eq => as_aux_lemma => k_is)
    (case k_Lengths_eq => as_aux_lemma => k_is)
    (case a_Enough_bool => as_aux_lemma => k_is)
    (case i_Enough_bool => as_aux_lemma => k_is)
    (case l_Enough_bool => as_aux_lemma => k_is)
    (case c_Enough_bool => as_aux_lemma => k_is)
    (case k_Enough_bool => as_aux_lemma => k_is)
    (case a_Fits_bool => as_aux_lemma => k_is)
    (case i_Fits_bool => as_aux_lemma => k_is)
    (case l_Fits_bool => as_aux_lemma => k_is)
    (case c_Fits_bool => as_aux_lemma => k_is)
    (case k_Fits_bool => as_aux_lemma => k_is)
    (case a_Cut_bool => as_aux_lemma => k_is)
    (case i_Cut_bool => as_aux_lemma => k_is)
    (case l_Cut_bool => as_aux_lemma => k_is)
    (case c_Cut_bool => as_aux_lemma => k_is)
    (case k_Cut_bool => as_aux_lemma => k_is)
    (case a_Never_bool => as_aux_lemma => k_is)
    (case i_Never_bool => as_aux_lemma => k_is)
    (case l_Never_bool => as_aux_lemma => k_is)
    (case c_Never_bool => as_aux_lemma => k_is)
    (case k_Never_bool => as_aux_lemma => k_is)
    (case a_Beyond_bool => as_aux_lemma => k_is)
    (case i_Beyond_bool => as_aux_lemma => k_is)
    (case l_Beyond_bool => as_aux_lemma => k_is)
    (case c_Beyond_bool => as_aux_lemma => k_is)
    (case k_Beyond_bool => as_aux_lemma => k_is)
    (case a_EndlessCut_bool => as_aux_lemma => k_is)
    (case i_EndlessCut_bool => as_aux_lemma => k_is)
    (case l_EndlessCut_bool => as_aux_lemma => k_is)
    (case c_EndlessCut_bool => as_aux_lemma => k_is)
    (case k_EndlessCut_bool => as_aux_lemma => k_is)
    (case a_law_pen => as_aux_lemma => k_is)
    (case l_law_pen => as_aux_lemma => k_is)
    (case c_law_pen => as_aux_lemma => k_is)
    (case k_law_pen => as_aux_lemma => k_is)
    (case a_law_draw => as_aux_lemma => k_is)
    (case l_law_draw => as_aux_lemma => k_is)
    (case c_law_draw => as_aux_lemma => k_is)
    (case k_law_draw => as_aux_lemma => k_is)
    (case a_law_pick => as_aux_lemma => k_is)
    (case l_law_pick => as_aux_lemma => k_is)
    (case c_law_pick => as_aux_lemma => k_is)
    (case k_law_pick => as_aux_lemma => k_is)
    (case a_law_yes => as_aux_lemma => k_is)
    (case l_law_yes => as_aux_lemma => k_is)
    (case c_law_yes => as_aux_lemma => k_is)
    (case k_law_yes => as_aux_lemma => k_is)
    (case a_law_no => as_aux_lemma => k_is)
    (case l_law_no => as_aux_lemma => k_is)
    (case c_law_no => as_aux_lemma => k_is)
    (case k_law_no => as_aux_lemma => k_is)
    (case a_law_plain => as_aux_lemma => k_is)
    (case l_law_plain => as_aux_lemma => k_is)
    (case c_law_plain => as_aux_lemma => k_is)
    (case k_law_plain => as_aux_lemma => k_is)
    (case a_law => as_aux_lemma => k_is)
    (case l_law => as_aux_lemma => k_is)
    (case c_law => as_aux_lemma => k_is)
    (case k_law => as_aux_lemma => k_is)
    (case hn => as_aux_lemma => k_is)
    (case htk => as_aux_lemma => k_is)
    (case vc => as_aux_lemma => k_is)
    (case vt => as_aux_lemma => k_is)
    (case de_nd => decide +kernel)
    (case pg_Enough => as_aux_lemma => k_is)
    (case hd_Enough => as_aux_lemma => k_is)
    (case po_Enough => as_aux_lemma => k_is)
    (case sa_Enough => as_aux_lemma => k_is)
    (case mk_Enough => as_aux_lemma => k_is)
    (case kc_Enough => as_aux_lemma => k_is)
    (case ha_Enough => as_aux_lemma => k_is)
    (case hm_Enough => as_aux_lemma => k_is)
    (case tyC_Enough => as_aux_lemma => k_is)
    (case hcd_Enough => as_aux_lemma => k_is)
    (case rf_mro_Enough => rfl)
    (case ny_Enough => as_aux_lemma => k_is)
    (case na_Enough_number => as_aux_lemma => k_is)
    (case na_Enough_heights => as_aux_lemma => k_is)
    (case na_Enough_text => as_aux_lemma => k_is)
    (case pg_Fits => as_aux_lemma => k_is)
    (case hd_Fits => as_aux_lemma => k_is)
    (case po_Fits => as_aux_lemma => k_is)
    (case sa_Fits => as_aux_lemma => k_is)
    (case mk_Fits => as_aux_lemma => k_is)
    (case kc_Fits => as_aux_lemma => k_is)
    (case ha_Fits => as_aux_lemma => k_is)
    (case hm_Fits => as_aux_lemma => k_is)
    (case tyC_Fits => as_aux_lemma => k_is)
    (case hcd_Fits => as_aux_lemma => k_is)
    (case rf_mro_Fits => rfl)
    (case ny_Fits => as_aux_lemma => k_is)
    (case na_Fits_number => as_aux_lemma => k_is)
    (case na_Fits_rises => as_aux_lemma => k_is)
    (case na_Fits_losses => as_aux_lemma => k_is)
    (case na_Fits_text => as_aux_lemma => k_is)
    (case pg_Cut => as_aux_lemma => k_is)
    (case hd_Cut => as_aux_lemma => k_is)
    (case po_Cut => as_aux_lemma => k_is)
    (case sa_Cut => as_aux_lemma => k_is)
    (case mk_Cut => as_aux_lemma => k_is)
    (case kc_Cut => as_aux_lemma => k_is)
    (case ha_Cut => as_aux_lemma => k_is)
    (case hm_Cut => as_aux_lemma => k_is)
    (case tyC_Cut => as_aux_lemma => k_is)
    (case hcd_Cut => as_aux_lemma => k_is)
    (case rf_mro_Cut => rfl)
    (case ny_Cut => as_aux_lemma => k_is)
    (case na_Cut_number => as_aux_lemma => k_is)
    (case na_Cut_heights => as_aux_lemma => k_is)
    (case na_Cut_text => as_aux_lemma => k_is)
    (case na_Cut_at => as_aux_lemma => k_is)
    (case pg_Never => as_aux_lemma => k_is)
    (case hd_Never => as_aux_lemma => k_is)
    (case po_Never => as_aux_lemma => k_is)
    (case sa_Never => as_aux_lemma => k_is)
    (case mk_Never => as_aux_lemma => k_is)
    (case kc_Never => as_aux_lemma => k_is)
    (case ha_Never => as_aux_lemma => k_is)
    (case hm_Never => as_aux_lemma => k_is)
    (case tyC_Never => as_aux_lemma => k_is)
    (case hcd_Never => as_aux_lemma => k_is)
    (case rf_mro_Never => rfl)
    (case ny_Never => as_aux_lemma => k_is)
    (case na_Never_ahead => as_aux_lemma => k_is)
    (case na_Never_ring => as_aux_lemma => k_is)
    (case na_Never_behind => as_aux_lemma => k_is)
    (case pg_Beyond => as_aux_lemma => k_is)
    (case hd_Beyond => as_aux_lemma => k_is)
    (case po_Beyond => as_aux_lemma => k_is)
    (case sa_Beyond => as_aux_lemma => k_is)
    (case mk_Beyond => as_aux_lemma => k_is)
    (case kc_Beyond => as_aux_lemma => k_is)
    (case ha_Beyond => as_aux_lemma => k_is)
    (case hm_Beyond => as_aux_lemma => k_is)
    (case tyC_Beyond => as_aux_lemma => k_is)
    (case hcd_Beyond => as_aux_lemma => k_is)
    (case rf_mro_Beyond => rfl)
    (case ny_Beyond => as_aux_lemma => k_is)
    (case na_Beyond_ahead => as_aux_lemma => k_is)
    (case na_Beyond_rising => as_aux_lemma => k_is)
    (case na_Beyond_between => as_aux_lemma => k_is)
    (case na_Beyond_falling => as_aux_lemma => k_is)
    (case na_Beyond_behind => as_aux_lemma => k_is)
    (case pg_EndlessCut => as_aux_lemma => k_is)
    (case hd_EndlessCut => as_aux_lemma => k_is)
    (case po_EndlessCut => as_aux_lemma => k_is)
    (case sa_EndlessCut => as_aux_lemma => k_is)
    (case mk_EndlessCut => as_aux_lemma => k_is)
    (case kc_EndlessCut => as_aux_lemma => k_is)
    (case ha_EndlessCut => as_aux_lemma => k_is)
    (case hm_EndlessCut => as_aux_lemma => k_is)
    (case tyC_EndlessCut => as_aux_lemma => k_is)
    (case hcd_EndlessCut => as_aux_lemma => k_is)
    (case rf_mro_EndlessCut => rfl)
    (case ny_EndlessCut => as_aux_lemma => k_is)
    (case na_EndlessCut_text => as_aux_lemma => k_is)
    (case na_EndlessCut_at => as_aux_lemma => k_is)
    (case na_EndlessCut_ring => as_aux_lemma => k_is)
    (case na_EndlessCut_behind => as_aux_lemma => k_is)
    (case pg_Table => as_aux_lemma => k_is)
    (case hd_Table => as_aux_lemma => k_is)
    (case po_Table => as_aux_lemma => k_is)
    (case sa_Table => as_aux_lemma => k_is)
    (case mk_Table => as_aux_lemma => k_is)
    (case kc_Table => as_aux_lemma => k_is)
    (case ha_Table => as_aux_lemma => k_is)
    (case hm_Table => as_aux_lemma => k_is)
    (case tyC_Table => as_aux_lemma => k_is)
    (case hcd_Table => as_aux_lemma => k_is)
    (case rf_mro_Table => rfl)
    (case ny_Table => as_aux_lemma => k_is)
    (case na_Table_growths => as_aux_lemma => k_is)
    (case pg_Ring => as_aux_lemma => k_is)
    (case hd_Ring => as_aux_lemma => k_is)
    (case po_Ring => as_aux_lemma => k_is)
    (case sa_Ring => as_aux_lemma => k_is)
    (case mk_Ring => as_aux_lemma => k_is)
    (case kc_Ring => as_aux_lemma => k_is)
    (case ha_Ring => as_aux_lemma => k_is)
    (case hm_Ring => as_aux_lemma => k_is)
    (case tyC_Ring => as_aux_lemma => k_is)
    (case hcd_Ring => as_aux_lemma => k_is)
    (case rf_mro_Ring => rfl)
    (case ny_Ring => as_aux_lemma => k_is)
    (case na_Ring_state => as_aux_lemma => k_is)
    (case na_Ring_text => as_aux_lemma => k_is)
    (case pg_Mean => as_aux_lemma => k_is)
    (case hd_Mean => as_aux_lemma => k_is)
    (case po_Mean => as_aux_lemma => k_is)
    (case sa_Mean => as_aux_lemma => k_is)
    (case mk_Mean => as_aux_lemma => k_is)
    (case kc_Mean => as_aux_lemma => k_is)
    (case ha_Mean => as_aux_lemma => k_is)
    (case hm_Mean => as_aux_lemma => k_is)
    (case tyC_Mean => as_aux_lemma => k_is)
    (case hcd_Mean => as_aux_lemma => k_is)
    (case rf_mro_Mean => rfl)
    (case ny_Mean => as_aux_lemma => k_is)
    (case na_Mean_rate => as_aux_lemma => k_is)
    (case na_Mean_ring => as_aux_lemma => k_is)
    (case na_Mean_heights => as_aux_lemma => k_is)
    (case pg_Lengths => as_aux_lemma => k_is)
    (case hd_Lengths => as_aux_lemma => k_is)
    (case po_Lengths => as_aux_lemma => k_is)
    (case sa_Lengths => as_aux_lemma => k_is)
    (case mk_Lengths => as_aux_lemma => k_is)
    (case kc_Lengths => as_aux_lemma => k_is)
    (case ha_Lengths => as_aux_lemma => k_is)
    (case hm_Lengths => as_aux_lemma => k_is)
    (case tyC_Lengths => as_aux_lemma => k_is)
    (case hcd_Lengths => as_aux_lemma => k_is)
    (case rf_mro_Lengths => rfl)
    (case ny_Lengths => as_aux_lemma => k_is)
    (case na_Lengths_first => as_aux_lemma => k_is)
    (case na_Lengths_steps => as_aux_lemma => k_is)
    (case na_Lengths_tails => as_aux_lemma => k_is)
    (case zb_abs => as_aux_lemma => k_is)
    (case zb_bool => as_aux_lemma => k_is)
    (case zb_enumerate => as_aux_lemma => k_is)
    (case zb_int => as_aux_lemma => k_is)
    (case zb_isinstance => as_aux_lemma => k_is)
    (case zb_len => as_aux_lemma => k_is)
    (case zb_list => as_aux_lemma => k_is)
    (case zb_range => as_aux_lemma => k_is)
    (case zb_repr => as_aux_lemma => k_is)
    (case zb_tuple => as_aux_lemma => k_is)

