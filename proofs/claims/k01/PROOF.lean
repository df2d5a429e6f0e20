import PyProof.Rows.All
import Wide.All
import OpenK.AllK
import Wide.FinOn
import HandS.ForMost
import HandS.Zip
import HandS.Flow
import HandS.Conv
import HandS.IsInst
import HandS.Codes
import HandS.Wide
import HandS.StrMore
import HandS.Defaults
import HandS.Exc
import HandS.HeadEnd
import HandS.HeadHook2
import HandS.Head2
import HandS.RaiseMore
import HandS.Walk
import HandS.FStr
import HandS.HeadHook3
import HandS.HeadHook4
import HandS.TupAny
import HandS.SetFor
import HandS.DictComp
import HandS.ExcInit
import HandS.ExcIs
import KE.KExcIs
import HandS.ExcField
import HandS.ExcOwn
import HandS.WordsExc
import HandS.SetBool
import HandS.SetKeys
import KE.GoesEnum
import KE.GoesMore
import KE.DataMinMax
import KE.SortKeyHeap
import HandS.SortKw
import HandS.Keys
import HandS.MakeKwOnly
import HandS.ReplaceLit
import PyProof.StrReplace2
import PyProof.StrOps2
import PyProof.MeetsStr3
import PySem.Challenge.RW_sightlore_k01_values_names_and_words
set_option Elab.async false
set_option linter.all false
set_option maxRecDepth 100000
set_option maxHeartbeats 2000000
namespace SL
open PySem PySem.Spec PyProof.Rows L2
def Fix : HO → Prop
 | .tup _ => True
 | .frz _ (.tup _) => True
 | _ => False
def Fr (M : List Addr) (H H' : Hp) : Prop := ∀ a o, H a = some o → (a ∉ M ∨ Fix o) → H' a = some o
theorem Fr.refl {M : List Addr} {H : Hp} : Fr M H H := fun _ _ h _ => h
theorem Fr.trans {M : List Addr} {H H1 H2 : Hp} (a : Fr M H H1) (b : Fr M H1 H2) : Fr M H H2 := fun x o h z => b x o (a x o h z) z
theorem Fr.mono {M N : List Addr} {H H' : Hp} (h : Fr M H H') (s : ∀ a ∈ M, a ∈ N) : Fr N H H' := fun a o e z => h a o e (z.imp (fun n m => n (s a m)) id)
theorem Fr.nil {N : List Addr} {H H' : Hp} (h : Fr [] H H') : Fr N H H' := h.mono fun _ z => nomatch z
theorem Fr.new {M : List Addr} {H : Hp} {p : Addr} {o : HO} (h : H p = none) : Fr M H (upd H p o) := fun a u e _ => by
 rw [upd_ne (ne_of_none e h)]
 exact e
theorem Fr.mut {M : List Addr} {H : Hp} {p : Addr} {o u : HO} (hm : p ∈ M) (h : H p = some u) (hu : ¬ Fix u) : Fr M H (upd H p o) := fun a v e z => by
 by_cases c : a = p
 ·subst c
  rw [h] at e
  cases e
  rcases z with z | z
  ·exact absurd hm z
  ·exact absurd z hu
 ·rw [upd_ne c]
  exact e
theorem Fr.over {M : List Addr} {H H' : Hp} {p : Addr} {o : HO} (e : Fr M H H') (h : H p = none) : Fr M H (upd H' p o) := fun a u ha z => by
 rw [upd_ne (ne_of_none ha h)]
 exact e a u ha z
theorem Fr.same {H H' : Hp} (h : Fr [] H H') : Same H H' := fun b o e => h b o e (.inl (fun z => nomatch z))
theorem Fr.of_same {M : List Addr} {H H' : Hp} (h : Same H H') : Fr M H H' := fun a o e _ => h a o e
theorem Fr.at {M : List Addr} {H H' : Hp} {a : Addr} {o : HO} (h : Fr M H H') (e : H a = some o) (n : a ∉ M) : H' a = some o := h a o e (.inl n)
theorem Fr.back {M : List Addr} {H H' : Hp} {p : Addr} (e : Fr M H H') (hM : p ∉ M) (h : H' p = none) : H p = none := by
 cases q : H p with
 | none => rfl
 | some o =>
  rw [e p o q (.inl hM)] at h
  cases h
theorem Fr.tup {K : PySem.W.Frag} {M : List Addr} {H H' : Hp} {a : Addr} {xs : List V} (e : Fr M H H') (h : SqT K H a xs) : SqT K H' a xs := by
 rcases h with (h | ⟨o, h⟩) | h
 ·exact .inl (.inl (e a _ h (.inr trivial)))
 ·exact .inl (.inr ⟨o, e a _ h (.inr trivial)⟩)
 ·exact .inr h
theorem Fr.seq {K : PySem.W.Frag} {M : List Addr} {H H' : Hp} {a : Addr} {xs : List V} (e : Fr M H H') (n : a ∉ M) (h : SqL K H a xs) : SqL K H' a xs := by
 rcases h with (h | ⟨o, h⟩) | h
 ·exact .inl (.inl (e a _ h (.inl n)))
 ·exact .inl (.inr ⟨o, e a _ h (.inl n)⟩)
 ·exact .inr h
theorem nofix_lst {xs : List V} : ¬ Fix (.lst xs) := fun z => z
mutual
inductive Td (K : PySem.W.Frag) (H : Hp) : V → PyData → Prop
 | non : Td K H .non .none
 | bl (b : Bool) : Td K H (.bl b) (.bool b)
 | int (i : Int) : Td K H (.int i) (.int i)
 | str (x : Str) : Td K H (.str x) (.str x)
 | tup {a : Addr} {xs : List V} {ds : List PyData} : SqT K H a xs → TdAll K H xs ds → Td K H (.ref a) (.tuple ds)
inductive TdAll (K : PySem.W.Frag) (H : Hp) : List V → List PyData → Prop
 | nil : TdAll K H [] []
 | cons {v : V} {vs : List V} {d : PyData} {ds : List PyData} : Td K H v d → TdAll K H vs ds → TdAll K H (v :: vs) (d :: ds)
end
section
variable {K : PySem.W.Frag} {H H' : Hp} {M : List Addr}
mutual
theorem Td.fr (e : Fr M H H') : ∀ {v : V} {d : PyData}, Td K H v d → Td K H' v d
 | _, _, .non => .non
 | _, _, .bl b => .bl b
 | _, _, .int i => .int i
 | _, _, .str x => .str x
 | _, _, .tup h hs => .tup (e.tup h) (TdAll.fr e hs)
theorem TdAll.fr (e : Fr M H H') : ∀ {vs : List V} {ds : List PyData}, TdAll K H vs ds → TdAll K H' vs ds
 | _, _, .nil => .nil
 | _, _, .cons h hs => .cons (Td.fr e h) (TdAll.fr e hs)
end
mutual
theorem Td.dp : ∀ {v : V} {d : PyData}, Td K H v d → Dp K H v d
 | _, _, .non => .non
 | _, _, .bl b => .bl b
 | _, _, .int i => .int i
 | _, _, .str x => .str x
 | _, _, .tup h hs => .tup h (TdAll.dp hs)
theorem TdAll.dp : ∀ {vs : List V} {ds : List PyData}, TdAll K H vs ds → DpAll K H vs ds
 | _, _, .nil => .nil
 | _, _, .cons h hs => .cons (Td.dp h) (TdAll.dp hs)
end
end
def uAdd (K : PySem.W.Frag) : R2 := fun x y H Q => match x, y with
 | .int i, .int j => Q (.int (i + j)) H
 | .str a, .str b => a.length + b.length ≤ sizeLine ∧ Q (.str (a ++ b)) H
 | .ref a, .ref b => rCat (.ref a) (.ref b) H Q ∨ rCatT K (.ref a) (.ref b) H Q
 | _, _ => False
def uSub : R2 := fun x y H Q => match x, y with
 | .int i, .int j => Q (.int (i - j)) H
 | _, _ => False
def uMul : R2 := fun x y H Q => match x, y with
 | .int i, .int j => IntMulOk i j ∧ Q (.int (i * j)) H
 | .ref a, .int k => rRep (.ref a) (.int k) H Q
 | .str a, .int k => 2 ≤ k ∧ k ≤ 1000 ∧ 0 < a.length ∧ a.length ≤ 1000 ∧ Q (.str ⟨(List.replicate k.toNat a.cps).foldl (· ++ ·) #[]⟩) H
 | _, _ => False
def uDiv : R2 := fun x y H Q => match x, y with
 | .int i, .int j => CDivW i j ∧ Q (.int (i / j)) H
 | _, _ => False
def uMod : R2 := fun x y H Q => match x, y with
 | .int i, .int j => 0 < j ∧ Q (.int (i % j)) H
 | _, _ => False
def uPow : R2 := fun x y H Q => match x, y with
 | .int i, .int j => CPow i j ∧ Q (.int (i ^ j.toNat)) H
 | _, _ => False
def rEqE (K : PySem.W.Frag) (x y : V) (H : Hp) (Q : Bool → Prop) : Prop :=
 (∃ a b xs, x = .ref a ∧ y = .ref b ∧ SqT K H a xs ∧ SqT K H b [] ∧ Q (decide (xs = []))) ∨ (∃ a b xs, x = .ref a ∧ y = .ref b ∧ SqL K H a xs ∧ SqL K H b [] ∧ Q (decide (xs = []))) ∨
 ∃ a b kvs, x = .ref a ∧ y = .ref b ∧ H a = some (.dK kvs) ∧ H b = some (.dK []) ∧ Q (decide (kvs = []))
def uEq (K : PySem.W.Frag) : R2 := fun x y H Q => (scal x y = true ∧ Q (.bl (decide (x = y))) H) ∨ rEqD K x y H Q ∨ rEqE K x y H fun b => Q (.bl b) H
def uNe (K : PySem.W.Frag) : R2 := fun x y H Q => (scal x y = true ∧ Q (.bl (!decide (x = y))) H) ∨ rNeD K x y H Q ∨ rEqE K x y H fun b => Q (.bl (!b)) H
def uLt (K : PySem.W.Frag) : R2 := fun x y H Q => match x, y with
 | .int i, .int j => Q (.bl (decide (i < j))) H
 | .str a, .str b => Q (.bl (decide (a.cps.toList < b.cps.toList))) H
 | _, _ => False
def uGt : R2 := fun x y H Q => match x, y with
 | .int i, .int j => Q (.bl (decide (j < i))) H
 | _, _ => False
def uLe : R2 := fun x y H Q => match x, y with
 | .int i, .int j => Q (.bl (decide (i ≤ j))) H
 | .str a, .str b => Q (.bl (!decide (b.cps.toList < a.cps.toList))) H
 | _, _ => False
def uGe : R2 := fun x y H Q => match x, y with
 | .int i, .int j => Q (.bl (decide (j ≤ i))) H
 | _, _ => False
def uIn (K : PySem.W.Frag) : R2 := fun x y H Q => match x, y with
 | .str a, .str b => Q (.bl (!(Builtin.Str.occurrences b a 0 b.length 1).isEmpty)) H
 | x, y => rIn K false x y H Q
def uNotIn (K : PySem.W.Frag) : R2 := fun x y H Q => match x, y with
 | .str a, .str b => Q (.bl (!(!(Builtin.Str.occurrences b a 0 b.length 1).isEmpty))) H
 | x, y => rIn K true x y H Q
section
variable {X : Cx}
theorem opu_add : OpR X (binaryOp .Add) (uAdd X.K) := by
 intro pins s σ H x y v u Q I rx ry h
 cases x <;> cases y <;> first
  | exact absurd h id
  | exact op_add pins s σ H _ _ v u Q I rx ry ⟨_, _, rfl, rfl, h⟩
  | exact op_add_str pins s σ H _ _ v u Q I rx ry ⟨_, _, rfl, rfl, h.1, h.2⟩
  | exact h.elim (fun h => op_cat pins s σ H _ _ v u Q I rx ry h) (fun h => op_catT pins s σ H _ _ v u Q I rx ry h)
theorem opu_sub : OpR X (binaryOp .Sub) uSub := by
 intro pins s σ H x y v u Q I rx ry h
 cases x <;> cases y <;> first
  | exact absurd h id
  | exact op_sub pins s σ H _ _ v u Q I rx ry ⟨_, _, rfl, rfl, h⟩
theorem foldl_size (c : Array Nat) : ∀ (m : Nat) (acc : Array Nat), ((List.replicate m c).foldl (· ++ ·) acc).size = acc.size + m * c.size
 | 0, acc => by simp
 | m + 1, acc => by
  rw [List.replicate_succ, List.foldl_cons, foldl_size c m, Array.size_append, Nat.succ_mul]
  omega
theorem op_repS : OpR X (binaryOp .Mult) (fun x y H Q => ∃ (a : Str) (k : Int), x = .str a ∧ y = .int k ∧ 2 ≤ k ∧ k ≤ 1000 ∧ 0 < a.length ∧ a.length ≤ 1000 ∧ Q (.str ⟨(List.replicate k.toNat a.cps).foldl (· ++ ·) #[]⟩) H) := by
 intro pins s σ H x y v u Q I rx ry h
 obtain ⟨a, k, rfl, rfl, h1, h2, h3, h4, q⟩ := h
 obtain ⟨t, rfl⟩ := rx
 obtain ⟨t', rfl⟩ := ry
 have hm : a.length * k.toNat ≤ 1000000 := Nat.le_trans (Nat.mul_le_mul h4 (show k.toNat ≤ 1000 by omega)) (by decide)
 refine PySem.P.mul_str ?_ (fun _ _ => ?_) (fun _ _ => ?_) ?_
 ·rw [decide_eq_false (show ¬ k < -(2 ^ 63) by omega), decide_eq_false (show ¬ k ≥ 2 ^ 63 by omega)]; rfl
 ·have e : ((2 : Int) ^ 63 - 1) / 1000 ≤ (2 ^ 63 - 1) / k := by
   rw [Int.le_ediv_iff_mul_le (by omega)]
   have : ((2 : Int) ^ 63 - 1) / 1000 * k ≤ (2 ^ 63 - 1) / 1000 * 1000 := Int.mul_le_mul_of_nonneg_left h2 (by decide)
   have e2 : ((2 : Int) ^ 63 - 1) / 1000 * 1000 ≤ 2 ^ 63 - 1 := by decide
   omega
  have e3 : (1000 : Int) ≤ (2 ^ 63 - 1) / 1000 := by decide
  omega
 ·exact decide_eq_false (by have := sizeLine_eq; omega)
 ·rw [if_neg (by omega), if_neg (by simp only [Bool.or_eq_true, beq_iff_eq]; omega)]
  refine ⟨?_, .str _, H, I.tok _, ⟨_, rfl⟩, q⟩
  show ((List.replicate k.toNat a.cps).foldl (· ++ ·) #[]).size ≤ sizeLine
  rw [foldl_size]
  have e : a.cps.size = a.length := rfl
  have e2 : (#[] : Array Nat).size = 0 := rfl
  have := sizeLine_eq
  rw [e, e2, Nat.mul_comm]
  omega
theorem opu_mul : OpR X (binaryOp .Mult) uMul := by
 intro pins s σ H x y v u Q I rx ry h
 cases x <;> cases y <;> first
  | exact absurd h id
  | exact (opI fun _ _ _ _ _ _ _ hc q => mul_int q hc : OpR X (binaryOp .Mult) (rI IntMulOk fun i j => .int (i * j))) pins s σ H _ _ v u Q I rx ry ⟨_, _, rfl, rfl, h.1, h.2⟩
  | exact op_rep pins s σ H _ _ v u Q I rx ry h
  | exact op_repS pins s σ H _ _ v u Q I rx ry ⟨_, _, rfl, rfl, h⟩
theorem opu_div : OpR X (binaryOp .FloorDiv) uDiv := by
 intro pins s σ H x y v u Q I rx ry h
 cases x <;> cases y <;> first
  | exact absurd h id
  | exact op_fdivW pins s σ H _ _ v u Q I rx ry ⟨_, _, rfl, rfl, h.1, h.2⟩
theorem opu_mod : OpR X (binaryOp .Mod) uMod := by
 intro pins s σ H x y v u Q I rx ry h
 cases x <;> cases y <;> first
  | exact absurd h id
  | exact op_mod pins s σ H _ _ v u Q I rx ry ⟨_, _, rfl, rfl, h.1, h.2⟩
theorem opu_pow : OpR X (binaryOp .Pow) uPow := by
 intro pins s σ H x y v u Q I rx ry h
 cases x <;> cases y <;> first
  | exact absurd h id
  | exact op_pow pins s σ H _ _ v u Q I rx ry ⟨_, _, rfl, rfl, h.1, h.2⟩
theorem nil_of {xs : List V} {its : List Value} (r : Vals xs its) : decide (its = []) = decide (xs = []) := by
 cases r <;> rfl
theorem nil_of_kv {xs : List (Key × V)} {vs : List (Key × Value)} (r : KV xs vs) : decide (vs = []) = decide (xs = []) := by
 cases r <;> rfl
theorem size0 {its : List Value} : (its.toArray.size == 0) = decide (its = []) := by cases its <;> rfl
theorem op_eqE (hu : X.A.units + 64 < cLine) : OpR X (compareOp .Eq) (fun x y H Q => rEqE X.K x y H fun b => Q (.bl b) H) := by
 intro pins s σ H x y v u Q I rx ry h
 have hu1 : X.A.units < cLine := by omega
 rcases h with ⟨a, b, xs, rfl, rfl, ha, hb, q⟩ | ⟨a, b, xs, rfl, rfl, ha, hb, q⟩ | ⟨a, b, kvs, rfl, rfl, ha, hb, q⟩
 ·cases rx; cases ry
  obtain ⟨its, r, p, _⟩ := I.tuple ha
  obtain ⟨its2, r2, p2, _⟩ := I.tuple hb
  cases r2
  refine SeqAt.RcAt.tuples (e := fun _ => true) p p2 hu1 (fun j _ h2 => absurd h2 (Nat.not_lt_zero j)) X.prog X.w _ _ ⟨.bl (decide (xs = [])), H, I, ?_, q⟩
  rw [← nil_of r, ← size0]
  simp [L2.RelV]
 ·cases rx; cases ry
  obtain ⟨its, r, p, _⟩ := I.list ha
  obtain ⟨its2, r2, p2, _⟩ := I.list hb
  cases r2
  cases its with
  | nil =>
   refine SeqAt.RcAt.lists (e := fun _ => true) p.isList p2.isList rfl hu1 (fun j _ h2 => absurd h2 (Nat.not_lt_zero j)) X.prog X.w _ _ ⟨.bl (decide (xs = [])), H, I, ?_, q⟩
   rw [← nil_of r]
   rfl
  | cons c cs =>
   refine SeqAt.RcAt.lists_lengths p.isList p2.isList (by simp) hu1 X.prog X.w _ _ ⟨.bl (decide (xs = [])), H, I, ?_, q⟩
   rw [← nil_of r]
   rfl
 ·cases rx; cases ry
  obtain ⟨_, ya, va, ra, da⟩ := dk_of I.hok ha
  obtain ⟨_, yb, vb, rb, db⟩ := dk_of I.hok hb
  cases rb
  refine PySem.W.keq_eq (r := true) ya yb da db hu1 (fun hl => ?_) ⟨.bl (decide (kvs = [])), H, I, ?_, q⟩
  ·cases va with
   | nil => exact .nil
   | cons c cs => cases hl
  ·rw [← nil_of_kv ra]
   cases va <;> rfl
theorem op_neE (hu : X.A.units + 64 < cLine) : OpR X (compareOp .NotEq) (fun x y H Q => rEqE X.K x y H fun b => Q (.bl (!b)) H) := by
 intro pins s σ H x y v u Q I rx ry h
 have hu1 : X.A.units < cLine := by omega
 rcases h with ⟨a, b, xs, rfl, rfl, ha, hb, q⟩ | ⟨a, b, xs, rfl, rfl, ha, hb, q⟩ | ⟨a, b, kvs, rfl, rfl, ha, hb, q⟩
 ·cases rx; cases ry
  obtain ⟨its, r, p, _⟩ := I.tuple ha
  obtain ⟨its2, r2, p2, _⟩ := I.tuple hb
  cases r2
  refine SeqAt.RcNeAt.tuples (e := fun _ => true) p p2 hu1 (fun j _ h2 => absurd h2 (Nat.not_lt_zero j)) X.prog X.w _ _ ⟨.bl (!decide (xs = [])), H, I, ?_, q⟩
  rw [← nil_of r, ← size0]
  simp [L2.RelV]
 ·cases rx; cases ry
  obtain ⟨its, r, p, _⟩ := I.list ha
  obtain ⟨its2, r2, p2, _⟩ := I.list hb
  cases r2
  cases its with
  | nil =>
   refine SeqAt.RcNeAt.lists (e := fun _ => true) p.isList p2.isList rfl hu1 (fun j _ h2 => absurd h2 (Nat.not_lt_zero j)) X.prog X.w _ _ ⟨.bl (!decide (xs = [])), H, I, ?_, q⟩
   rw [← nil_of r]
   rfl
  | cons c cs =>
   refine SeqAt.RcNeAt.lists_lengths p.isList p2.isList (by simp) hu1 X.prog X.w _ _ ⟨.bl (!decide (xs = [])), H, I, ?_, q⟩
   rw [← nil_of r]
   rfl
 ·cases rx; cases ry
  obtain ⟨_, ya, va, ra, da⟩ := dk_of I.hok ha
  obtain ⟨_, yb, vb, rb, db⟩ := dk_of I.hok hb
  cases rb
  refine PySem.W.keq_ne (r := true) ya yb da db hu1 (fun hl => ?_) ⟨.bl (!decide (kvs = [])), H, I, ?_, q⟩
  ·cases va with
   | nil => exact .nil
   | cons c cs => cases hl
  ·rw [← nil_of_kv ra]
   cases va <;> rfl
theorem opu_eq (hu : X.A.units + 64 < cLine) : OpR X (compareOp .Eq) (uEq X.K) := by
 intro pins s σ H x y v u Q I rx ry h
 exact h.elim (fun h => op_eq pins s σ H _ _ v u Q I rx ry h) (fun h => h.elim (fun h => op_eqD hu pins s σ H _ _ v u Q I rx ry h) (fun h => op_eqE hu pins s σ H _ _ v u Q I rx ry h))
theorem opu_ne (hu : X.A.units + 64 < cLine) : OpR X (compareOp .NotEq) (uNe X.K) := by
 intro pins s σ H x y v u Q I rx ry h
 exact h.elim (fun h => op_ne pins s σ H _ _ v u Q I rx ry h) (fun h => h.elim (fun h => op_neD hu pins s σ H _ _ v u Q I rx ry h) (fun h => op_neE hu pins s σ H _ _ v u Q I rx ry h))
theorem opu_lt : OpR X (compareOp .Lt) (uLt X.K) := by
 intro pins s σ H x y v u Q I rx ry h
 cases x <;> cases y <;> first
  | exact absurd h id
  | exact op_lt pins s σ H _ _ v u Q I rx ry ⟨_, _, rfl, rfl, h⟩
  | exact op_lt_str pins s σ H _ _ v u Q I rx ry ⟨_, _, rfl, rfl, h⟩
theorem opu_gt : OpR X (compareOp .Gt) uGt := by
 intro pins s σ H x y v u Q I rx ry h
 cases x <;> cases y <;> first
  | exact absurd h id
  | exact op_gt pins s σ H _ _ v u Q I rx ry ⟨_, _, rfl, rfl, h⟩
theorem opu_le : OpR X (compareOp .LtE) uLe := by
 intro pins s σ H x y v u Q I rx ry h
 cases x <;> cases y <;> first
  | exact absurd h id
  | exact op_le pins s σ H _ _ v u Q I rx ry ⟨_, _, rfl, rfl, h⟩
  | exact op_le_str pins s σ H _ _ v u Q I rx ry ⟨_, _, rfl, rfl, h⟩
theorem opu_in : OpR X (compareOp .In) (uIn X.K) := by
 intro pins s σ H x y v u Q I rx ry h
 cases x <;> cases y <;> first
  | exact op_in_str pins s σ H _ _ v u Q I rx ry ⟨_, _, rfl, rfl, h⟩
  | exact op_in_seq pins s σ H _ _ v u Q I rx ry h
theorem opu_notIn : OpR X (compareOp .NotIn) (uNotIn X.K) := by
 intro pins s σ H x y v u Q I rx ry h
 cases x <;> cases y <;> first
  | exact op_notin_str pins s σ H _ _ v u Q I rx ry ⟨_, _, rfl, rfl, h⟩
  | exact op_notIn_seq pins s σ H _ _ v u Q I rx ry h
end
end SL
set_option Elab.async false
set_option linter.all false
set_option maxRecDepth 100000
set_option maxHeartbeats 2000000
namespace SL
open PySem PySem.Spec PyProof.Rows L2
section
variable {K : PySem.W.Frag} {σ : L2.St} {H : Hp} {Q : VK} {R : Bool → Hp → Prop} {D : Ends} {v x y : V} {i : Nat} {ta tb tc te : TE} {t u : TT} {ts tu : TS} {r : R2} {G : TG}
theorem g_var (h : σ[i]? = some (some v)) (q : Q v H) : tVar i σ H Q := ⟨v, h, q⟩
theorem g_c (q : Q v H) : tC v σ H Q := q
theorem g_op (q : ta σ H fun x H1 => tb σ H1 fun y H2 => r x y H2 Q) : tOp r ta tb σ H Q := q
theorem g_un {ru : V → Hp → VK → Prop} (q : ta σ H fun x H1 => ru x H1 Q) : tUn ru ta σ H Q := q
theorem g_test (q : ta σ H fun x H' => ∃ k, x = .bl k ∧ R k H') : tTest ta σ H R := q
theorem g_B (q : ta σ H fun x H' => ∃ k, x = .bl k ∧ R k H') : tB ta σ H R := q
theorem g_k {A : Bool → Prop} {b : Bool} (q : A b) : ∃ k, V.bl b = V.bl k ∧ A k := ⟨b, rfl, q⟩
theorem g_and (q : t σ H fun c H1 => if c = true then u σ H1 R else R false H1) : tAnd t u σ H R := q
theorem g_or (q : t σ H fun c H1 => if c = true then R true H1 else u σ H1 R) : tOr t u σ H R := q
theorem g_not (q : t σ H fun c H1 => R (!c) H1) : tNot t σ H R := q
theorem g_ifE (q : t σ H fun c H1 => if c = true then ta σ H1 Q else tb σ H1 Q) : tIf t ta tb σ H Q := q
theorem g_seq (q : ts { D with nx := tu D } σ H) : tSeq ts tu D σ H := q
theorem g_asg (q : te σ H fun w H1 => G w σ H1 D.nx) : tAsg te G D σ H := q
theorem g_name {P : L2.St → Hp → Prop} (q : P (σ.set i (some v)) H) : gName i v σ H P := q
theorem g_sub {to ti : TE} {tset : TSet} {P : L2.St → Hp → Prop} (q : to σ H fun o H1 => ti σ H1 fun k H2 => tset o k v H2 fun H3 => P σ H3) : gSub to ti tset v σ H P := q
theorem g_if (q : t σ H fun b H1 => if b = true then ts D σ H1 else tu D σ H1) : tIfS t ts tu D σ H := q
theorem g_ret (q : te σ H D.rt) : tRet te D σ H := q
theorem g_next (q : D.nx σ H) : tNext D σ H := q
theorem g_drop (q : te σ H fun _ H1 => D.nx σ H1) : tDrop te D σ H := q
theorem g_nil {A : List V → Hp → Prop} (q : A [] H) : tNil σ H A := q
theorem g_cons {tr : TA} {A : List V → Hp → Prop} (q : ta σ H fun x H1 => tr σ H1 fun xs H2 => A (x :: xs) H2) : tCons ta tr σ H A := q
theorem g_tup {tl : TA} (q : tl σ H fun xs H1 => xs.length ≤ sizeLine ∧ ∀ p, H1 p = none → Q (.ref p) (upd H1 p (.tup xs))) : tTup tl σ H Q := q
theorem g_lst {tl : TA} (q : tl σ H fun xs H1 => xs.length ≤ sizeLine ∧ ∀ p, H1 p = none → Q (.ref p) (upd H1 p (.lst xs))) : tLst tl σ H Q := q
theorem g_cb {rc : List V → Hp → VK → Prop} {tl : TA} (q : tl σ H fun vs H1 => rc vs H1 Q) : tCB rc tl σ H Q := q
theorem g_call {sp : Sp} {dvs : List V} {E : XK} {tl : TA} (q : tl σ H fun vs H1 => sp (vs ++ dvs) H1 Q E) : tCall sp dvs E tl σ H Q := q
theorem g_sl {rs : V → Option Int → Option Int → Hp → VK → Prop} {tl th : TO} (q : te σ H fun x H1 => tl σ H1 fun l H2 => th σ H2 fun u H3 => rs x l u H3 Q) : tSl rs te tl th σ H Q := q
theorem g_noPart {A : Option Int → Hp → Prop} (q : A none H) : tNoPart σ H A := q
theorem g_part {A : Option Int → Hp → Prop} (q : te σ H fun x H1 => ∃ i, x = .int i ∧ A (some i) H1) : tPart te σ H A := q
theorem g_ki {A : Int → Prop} {i : Int} (q : A i) : ∃ k, V.int i = V.int k ∧ A k := ⟨i, rfl, q⟩
theorem g_for {wi : TI} (q : wi σ H fun J H1 => ∃ W : Nat → Nat → L2.St → Hp → Prop, (∃ m, W 0 m σ H1) ∧ ∀ i m σ H, W i m σ H →
 (J.stop i H ∧ D.nx σ H) ∨ (J.go i H ∧ ∃ N : L2.St → Hp → Prop, (∀ σ' H', N σ' H' → ∃ m', m' < m ∧ W (i + 1) m' σ' H') ∧ ∀ x H', J.yld i H x H' → G x σ H' fun σ2 H2 => ts { D with nx := N, ct := N, bk := D.nx } σ2 H2)) : tFor wi G ts D σ H := q
theorem g_iR1 {tl : TA} {S : It → Hp → Prop} (q : tl σ H fun vs H1 => ∃ j : Int, vs = [.int j] ∧ -(2 ^ 62) ≤ j ∧ j < 2 ^ 62 ∧ S (Itr 0 j.toNat) H1) : iRng1 tl σ H S := q
theorem g_iR2 {tl : TA} {S : It → Hp → Prop} (q : tl σ H fun vs H1 => ∃ i j : Int, vs = [.int i, .int j] ∧ (-(2 ^ 62) ≤ i ∧ i < 2 ^ 62 ∧ -(2 ^ 62) ≤ j ∧ j < 2 ^ 62) ∧ S (Itr i (j - i).toNat) H1) : iRng2 tl σ H S := q
theorem g_iL {S : It → Hp → Prop} (q : te σ H fun x H1 => ∃ a, x = .ref a ∧ (∃ xs, SqL K H1 a xs) ∧ S (Itl K a) H1) : iList K te σ H S := q
theorem g_iT {S : It → Hp → Prop} (q : te σ H fun x H1 => ∃ a, x = .ref a ∧ (∃ xs, SqT K H1 a xs) ∧ S (Itt K a) H1) : iTup K te σ H S := q
theorem g_lc {wi : TI} {vs : List Nat} (q : wi σ H fun J H1 => ∀ D, H1 D = none → ∃ W : Nat → Nat → Hp → Prop, (∃ m, W 0 m (upd H1 D (.lst []))) ∧ ∀ i m H, W i m H →
 (J.stop i H ∧ Q (.ref D) H) ∨ (J.go i H ∧ ∃ Nx : Hp → Prop, (∀ H', Nx H' → ∃ m', m' < m ∧ W (i + 1) m' H') ∧ ∀ x H', J.yld i H x H' → G x (wipe σ vs) H' fun σ2 H2 => wipe σ2 vs = wipe σ vs ∧ t σ2 H2 fun b H3 =>
  if b = true then te σ2 H3 fun y H4 => ∃ acc, H4 D = some (.lst acc) ∧ acc.length < sizeLine ∧ Nx (upd H4 D (.lst (acc ++ [y]))) else Nx H3)) : tLc wi G t te vs σ H Q := q
theorem g_gtup {p : Addr} {xs : List V} {n : Nat} {tt : TGs} {P : L2.St → Hp → Prop} (h : SqT K H p xs) (hl : xs.length = n) (q : tt xs σ H P) : gTup K n tt (.ref p) σ H P := ⟨p, xs, rfl, h, hl, q⟩
theorem g_gcons {xs : List V} {tt : TGs} {P : L2.St → Hp → Prop} (q : G v σ H fun σ' H' => tt xs σ' H' P) : gCons G tt (v :: xs) σ H P := ⟨v, xs, rfl, q⟩
theorem g_gnil {P : L2.St → Hp → Prop} (q : P σ H) : gNil [] σ H P := ⟨rfl, q⟩
theorem g_yes (q : R true H) : tYes σ H R := q
theorem g_andT (q : ta σ H fun x H1 => ∃ k, TruV K x H1 k ∧ if k = true then tb σ H1 Q else Q x H1) : tAndT K ta tb σ H Q := q
theorem g_orT (q : ta σ H fun x H1 => ∃ k, TruV K x H1 k ∧ if k = true then Q x H1 else tb σ H1 Q) : tOrT K ta tb σ H Q := q
theorem g_notT (q : ta σ H fun x H1 => ∃ k, TruV K x H1 k ∧ Q (.bl (!k)) H1) : tNotT K ta σ H Q := q
theorem g_truB {A : Bool → Prop} {b : Bool} (q : A b) : ∃ k, TruV K (.bl b) H k ∧ A k := ⟨b, rfl, q⟩
theorem g_addI {i j : Int} (q : Q (.int (i + j)) H) : uAdd K (.int i) (.int j) H Q := q
theorem g_addS {a b : Str} (h : a.length + b.length ≤ sizeLine) (q : Q (.str (a ++ b)) H) : uAdd K (.str a) (.str b) H Q := ⟨h, q⟩
theorem g_subI {i j : Int} (q : Q (.int (i - j)) H) : uSub (.int i) (.int j) H Q := q
theorem g_mulI {i j : Int} (h : IntMulOk i j) (q : Q (.int (i * j)) H) : uMul (.int i) (.int j) H Q := ⟨h, q⟩
theorem g_divI {i j : Int} (h : CDivW i j) (q : Q (.int (i / j)) H) : uDiv (.int i) (.int j) H Q := ⟨h, q⟩
theorem g_modI {i j : Int} (h : 0 < j) (q : Q (.int (i % j)) H) : uMod (.int i) (.int j) H Q := ⟨h, q⟩
theorem g_powI {i j : Int} (h : CPow i j) (q : Q (.int (i ^ j.toNat)) H) : uPow (.int i) (.int j) H Q := ⟨h, q⟩
theorem g_ltI {i j : Int} (q : Q (.bl (decide (i < j))) H) : uLt K (.int i) (.int j) H Q := q
theorem g_gtI {i j : Int} (q : Q (.bl (decide (j < i))) H) : uGt (.int i) (.int j) H Q := q
theorem g_leI {i j : Int} (q : Q (.bl (decide (i ≤ j))) H) : uLe (.int i) (.int j) H Q := q
theorem g_geI {i j : Int} (q : Q (.bl (decide (j ≤ i))) H) : uGe (.int i) (.int j) H Q := q
theorem dec_i {i j : Int} : decide (V.int i = V.int j) = decide (i = j) := by
 by_cases h : i = j
 ·rw [decide_eq_true h, h]; exact decide_eq_true rfl
 ·rw [decide_eq_false h]; exact decide_eq_false fun z => h (V.int.inj z)
theorem dec_s {i j : Str} : decide (V.str i = V.str j) = decide (i = j) := by
 by_cases h : i = j
 ·rw [decide_eq_true h, h]; exact decide_eq_true rfl
 ·rw [decide_eq_false h]; exact decide_eq_false fun z => h (V.str.inj z)
theorem dec_b {i j : Bool} : decide (V.bl i = V.bl j) = decide (i = j) := by
 by_cases h : i = j
 ·rw [decide_eq_true h, h]; exact decide_eq_true rfl
 ·rw [decide_eq_false h]; exact decide_eq_false fun z => h (V.bl.inj z)
theorem g_eqI {i j : Int} (q : Q (.bl (decide (i = j))) H) : uEq K (.int i) (.int j) H Q := .inl ⟨rfl, by rw [dec_i]; exact q⟩
theorem g_eqS {i j : Str} (q : Q (.bl (decide (i = j))) H) : uEq K (.str i) (.str j) H Q := .inl ⟨rfl, by rw [dec_s]; exact q⟩
theorem g_eqB {i j : Bool} (q : Q (.bl (decide (i = j))) H) : uEq K (.bl i) (.bl j) H Q := .inl ⟨rfl, by rw [dec_b]; exact q⟩
theorem g_neI {i j : Int} (q : Q (.bl (!decide (i = j))) H) : uNe K (.int i) (.int j) H Q := .inl ⟨rfl, by rw [dec_i]; exact q⟩
theorem g_neS {i j : Str} (q : Q (.bl (!decide (i = j))) H) : uNe K (.str i) (.str j) H Q := .inl ⟨rfl, by rw [dec_s]; exact q⟩
theorem g_neB {i j : Bool} (q : Q (.bl (!decide (i = j))) H) : uNe K (.bl i) (.bl j) H Q := .inl ⟨rfl, by rw [dec_b]; exact q⟩
theorem g_neEL {a b : Addr} {xs : List V} (h : SqL K H a xs) (h2 : SqL K H b []) (q : Q (.bl (!decide (xs = []))) H) : uNe K (.ref a) (.ref b) H Q := .inr (.inr (.inr (.inl ⟨a, b, xs, rfl, rfl, h, h2, q⟩)))
theorem g_mulS {a : Str} {k : Int} (h1 : 2 ≤ k) (h2 : k ≤ 1000) (h3 : 0 < a.length) (h4 : a.length ≤ 1000) (q : Q (.str ⟨(List.replicate k.toNat a.cps).foldl (· ++ ·) #[]⟩) H) : uMul (.str a) (.int k) H Q := ⟨h1, h2, h3, h4, q⟩
theorem g_ixL {p : Addr} {xs : List V} {i : Int} (h : SqL K H p xs) (e : atI xs i = some v) (q : Q v H) : rIx K (.ref p) (.int i) H Q := .inl ⟨p, xs, i, v, rfl, rfl, h, e, q⟩
theorem g_ixT {p : Addr} {xs : List V} {i : Int} (h : SqT K H p xs) (e : atI xs i = some v) (q : Q v H) : rIx K (.ref p) (.int i) H Q := .inr (.inl ⟨p, xs, i, v, rfl, rfl, h, e, q⟩)
theorem g_ixS {z : Str} {i : Int} {c : Nat} (h : z.length ≤ sizeLine) (e : atI z.cps.toList i = some c) (q : Q (.str ⟨#[c]⟩) H) : rIx K (.str z) (.int i) H Q := .inr (.inr ⟨z, i, c, rfl, rfl, h, e, q⟩)
theorem g_setL {p : Addr} {xs : List V} {k : Int} {j : Nat} {P : Hp → Prop} (h : H p = some (.lst xs)) (e : ixN xs.length k = some j) (q : P (upd H p (.lst (xs.set j v)))) : rSetL (.ref p) (.int k) v H P := ⟨p, xs, k, j, rfl, rfl, h, e, q⟩
theorem g_slL {p : Addr} {xs : List V} {lo hi : Option Int} (h : SqL K H p xs) (q : ∀ p, H p = none → Q (.ref p) (upd H p (.lst (cutV xs lo hi)))) : rSlL K (.ref p) lo hi H Q := ⟨p, xs, rfl, h, q⟩
theorem cut0 (xs : List V) (n : Nat) : cutV xs none (some (n : Int)) = xs.take n := by
 unfold cutV
 rw [HT.sIx_none, HT.sIx_nat, List.drop_zero, Nat.sub_zero]
 by_cases h : n ≤ xs.length
 ·rw [Nat.min_eq_left h]
 ·rw [Nat.min_eq_right (by omega), List.take_length, List.take_of_length_le (by omega)]
theorem rd_start {tm : TS} {N : List Str} {vs : List V} {σ0 : L2.St} (e : start N vs = σ0) (q : tm D σ0 H) : tm D (start N vs) H := by rw [e]; exact q
theorem lt_of {n : Nat} (h : n ≤ 100000) : n < sizeLine := Nat.lt_of_le_of_lt h (by decide)
theorem le_of {n : Nat} (h : n ≤ 100000) : n ≤ sizeLine := Nat.le_trans h (by decide)
theorem g_tt {c : Bool} {A B : Prop} (h : c = true) (q : A) : if c = true then A else B := by rw [if_pos h]; exact q
theorem g_ff {c : Bool} {A B : Prop} (h : c = false) (q : B) : if c = true then A else B := by rw [if_neg (by rw [h]; exact Bool.false_ne_true)]; exact q
theorem g_by {c : Prop} [Decidable c] {A B : Prop} (h1 : c → A) (h2 : ¬ c → B) : if decide c = true then A else B := by
 by_cases h : c
 ·exact g_tt (decide_eq_true h) (h1 h)
 ·exact g_ff (decide_eq_false h) (h2 h)
theorem g_byN {c : Prop} [Decidable c] {A B : Prop} (h1 : ¬ c → A) (h2 : c → B) : if (!decide c) = true then A else B := by
 by_cases h : c
 ·exact g_ff (by rw [decide_eq_true h]; rfl) (h2 h)
 ·exact g_tt (by rw [decide_eq_false h]; rfl) (h1 h)
theorem g_byB {c : Bool} {A B : Prop} (h1 : c = true → A) (h2 : c = false → B) : if c = true then A else B := by
 cases c with
 | true => exact h1 rfl
 | false => exact h2 rfl
theorem mulR {i j : Int} (h1 : -(2 ^ 64) < j) (h2 : j < 2 ^ 64) : IntMulOk i j := .of_right (intBits_le_64 h1 h2)
theorem mulL {i j : Int} (h1 : -(2 ^ 64) < i) (h2 : i < 2 ^ 64) : IntMulOk i j := .of_left (intBits_le_64 h1 h2)
theorem divS {i j : Int} (h : 0 < j) (h2 : j < 2 ^ 200) : CDivW i j := by
 refine ⟨h, ?_⟩
 have e : j.natAbs < 2 ^ 200 := by omega
 exact Nat.lt_of_lt_of_le (PySem.Flt.log2_lt_of (by decide) e) (by decide)
end
end SL
set_option Elab.async false
set_option linter.all false
set_option maxRecDepth 100000
set_option maxHeartbeats 2000000
namespace SL
open PySem PySem.Spec PyProof.Rows L2
structure Cal (P : Program) (w : World) (K : PySem.W.Frag) (mg : Str → Option Value) (base : Heap) (k : Nat) (x : Str) (sp : Sp) : Prop where
 ex : ∃ (f : Addr) (fd : FuncData) (ps : List Str), FnOk P w K mg base CX0 k f fd ps sp ∧ mg x = some (.ref f) ∧ PySem.W.keepIn K (.ref f) = true ∧ Binds K fd ps []
section
variable {P : Program} {w : World} {K : PySem.W.Frag} {mg : Str → Option Value} {base : Heap}
theorem Cal.mono {j k : Nat} {x : Str} {sp : Sp} (c : Cal P w K mg base j x sp) (h : j ≤ k) : Cal P w K mg base k x sp := by
 obtain ⟨f, fd, ps, F, m, kp, b⟩ := c.ex
 exact ⟨f, fd, ps, F.mono h, m, kp, b⟩
theorem Cal.imp {k : Nat} {x : Str} {sp sp' : Sp} (c : Cal P w K mg base k x sp) (h : ∀ vs H Q E, sp' vs H Q E → sp vs H Q E) : Cal P w K mg base k x sp' := by
 obtain ⟨f, fd, ps, F, m, kp, b⟩ := c.ex
 exact ⟨f, fd, ps, F.imp h, m, kp, b⟩
end
section
variable {X : Cx} {k j : Nat} {x : Str} {sp : Sp} {p pos : Pos} {e : Expr} {es : List Expr} {t : TA}
def uLen (K : PySem.W.Frag) : List V → Hp → VK → Prop := fun xs H Q => ∃ x, xs = [x] ∧ match x with
 | .str z => z.length ≤ sizeLine ∧ Q (.int z.length) H
 | .ref p => (∃ ys, (SqL K H p ys ∨ SqT K H p ys) ∧ Q (.int ys.length) H) ∨ ∃ kvs, H p = some (.dK kvs) ∧ Q (.int kvs.length) H
 | _ => False
theorem callu_len : CallR X (.builtin "len") (uLen X.K) := by
  intro pins s σ H xs us Q I r h
  obtain ⟨x, rfl, h⟩ := h
  cases x <;> first
    | exact absurd h id
    | exact call_len_str pins s σ H _ us Q I r ⟨_, rfl, h.1, h.2⟩
    | (rcases h with ⟨ys, h1, h2⟩ | ⟨kvs, h1, h2⟩
       · exact call_len_seq pins s σ H _ us Q I r ⟨_, ys, rfl, h1, h2⟩
       · obtain ⟨u, rfl, r1⟩ := vals1 r
         cases r1
         exact d_len I (.inl h1) fun t s' I' => ⟨.int _, H, I', ⟨_, rfl⟩, h2⟩)
def uList (K : PySem.W.Frag) : List V → Hp → VK → Prop := fun xs H Q => (∃ p ys, xs = [.ref p] ∧ (SqL K H p ys ∨ SqT K H p ys) ∧ ∀ l, H l = none → Q (.ref l) (upd H l (.lst ys))) ∨ rListD xs H Q
theorem callu_list (hc : X.calm = true := by rfl) : CallR X (.type "list") (uList X.K) := call_list_of.or (call_list_dK hc)
def uIsi (K : PySem.W.Frag) : List V → Hp → VK → Prop := fun xs H Q => rIsi K xs H Q ∨ rIsiT K xs H Q
theorem callu_isi : CallR X (.builtin "isinstance") (uIsi X.K) := call_isi.or call_isiT
end
section
variable {K : PySem.W.Frag} {H : Hp} {Q : VK}
theorem g_len {p : Addr} {ys : List V} (h : SqL K H p ys ∨ SqT K H p ys) (q : Q (.int ys.length) H) : uLen K [.ref p] H Q := ⟨_, rfl, .inl ⟨ys, h, q⟩⟩
theorem g_lenS {z : Str} (h : z.length ≤ sizeLine) (q : Q (.int z.length) H) : uLen K [.str z] H Q := ⟨_, rfl, h, q⟩
theorem g_list {p : Addr} {ys : List V} (h : SqL K H p ys ∨ SqT K H p ys) (q : ∀ l, H l = none → Q (.ref l) (upd H l (.lst ys))) : uList K [.ref p] H Q := .inl ⟨p, ys, rfl, h, q⟩
end
end SL
namespace SL
open PySem PySem.Spec PyProof.Rows L2
def shownV : V → Str
 | .int i => toString i
 | .str z => reprText z
 | .bl b => if b then "True" else "False"
 | _ => "None"
def shortV : V → Prop
 | .int i => i.natAbs.log2 < 1920
 | .str z => (reprText z).length ≤ sizeLine
 | .bl _ => True
 | .non => True
 | _ => False
def uRepr : List V → Hp → VK → Prop := fun xs H Q => ∃ x, xs = [x] ∧ shortV x ∧ Q (.str (shownV x)) H
theorem callu_repr {X : Cx} : CallR X (.builtin "repr") uRepr := by
 intro pins s σ H xs us Q I r h
 obtain ⟨x, rfl, hs, q⟩ := h
 obtain ⟨u, rfl, r1⟩ := vals1 r
 cases x with
 | int i =>
  obtain ⟨t, rfl⟩ := r1
  exact PySem.P.repr_of_int hs ⟨.str _, H, I.tok _, ⟨_, rfl⟩, q⟩
 | str z =>
  obtain ⟨t, rfl⟩ := r1
  exact PySem.P.repr_of_str ⟨.str _, H, I.tok _, ⟨_, rfl⟩, q⟩ hs
 | bl b =>
  cases r1
  exact PySem.P.repr_of_bool ⟨.str (if b then "True" else "False"), H, I.tok _, ⟨_, by cases b <;> rfl⟩, q⟩
 | non =>
  cases r1
  exact PySem.P.repr_of_none ⟨.str _, H, I.tok _, ⟨_, rfl⟩, q⟩
 | _ => exact absurd hs id
section
variable {K : PySem.W.Frag} {H : Hp} {Q : VK} {x : V}
theorem tyx_l {p : Addr} {xs : List V} (h : SqL K H p xs) : TyX K H (.ref p) (.type "list") := by
 rcases h with (h | ⟨o, h⟩) | ⟨o, its, n, h1, h2, _⟩
 ·exact .base (.lst h)
 ·exact .base (.frz h)
 ·exact .kList h1 h2
theorem tyx_t {p : Addr} {xs : List V} (h : SqT K H p xs) : TyX K H (.ref p) (.type "tuple") := by
 rcases h with (h | ⟨o, h⟩) | ⟨o, its, n, h1, h2, _⟩
 ·exact .base (.tup h)
 ·exact .fTuple h
 ·exact .kTuple h1 h2
theorem g_isi {T U : String} {b : Bool} (ty : TyX K H x (.type T)) (e : kitB T U = some b) (q : Q (.bl b) H) : uIsi K [x, .ty U] H Q := .inl ⟨x, .ty U, _, _, b, rfl, .ty U, ty, kit_ty e, q⟩
theorem g_isi2 {T U1 U2 : String} {b1 b2 : Bool} {tp : Addr} (ht : H tp = some (.tup [.ty U1, .ty U2])) (ty : TyX K H x (.type T)) (e1 : kitB T U1 = some b1) (e2 : kitB T U2 = some b2) (q : Q (.bl (b1 || b2)) H) : uIsi K [x, .ref tp] H Q := by
 refine .inr ⟨x, tp, [.ty U1, .ty U2], _, [.type U1, .type U2], b1 || b2, rfl, ht, .cons (.ty U1) (.cons (.ty U2) .nil), ty, ?_, q⟩
 refine kitAny_cons (kit_ty e1) (fun h => ?_) (fun h => by rw [h]; rfl)
 subst h
 refine kitAny_cons (kit_ty e2) (fun h => ?_) (fun h => by rw [h]; rfl)
 subst h
 exact kitAny_nil
end
def Sm : Nat → PyData → Prop
 | 0, _ => False
 | _ + 1, .int i => i.natAbs.log2 < 1920
 | _ + 1, .str z => (reprText z).length ≤ sizeLine
 | _ + 1, .bool _ => True
 | _ + 1, .none => True
 | n + 1, .list ds => ds.length ≤ 10000 ∧ ∀ d ∈ ds, Sm n d
 | n + 1, .tuple ds => ds.length ≤ 10000 ∧ ∀ d ∈ ds, Sm n d
 | _ + 1, .dict _ => False
section
variable {K : PySem.W.Frag} {H H' : Hp} {M : List Addr}
mutual
theorem dp_same (e : Same H H') : ∀ {v : V} {d : PyData}, Dp K H v d → Dp K H' v d
 | _, _, .non => .non
 | _, _, .bl b => .bl b
 | _, _, .int i => .int i
 | _, _, .str x => .str x
 | _, _, .lst h hs => .lst (e.seq h) (dpa_same e hs)
 | _, _, .tup h hs => .tup ((Fr.of_same (M := []) e).tup h) (dpa_same e hs)
theorem dpa_same (e : Same H H') : ∀ {vs : List V} {ds : List PyData}, DpAll K H vs ds → DpAll K H' vs ds
 | _, _, .nil => .nil
 | _, _, .cons h hs => .cons (dp_same e h) (dpa_same e hs)
end
theorem dpa_len : ∀ {vs : List V} {ds : List PyData}, DpAll K H vs ds → vs.length = ds.length
 | _, _, .nil => rfl
 | _, _, .cons _ hs => congrArg Nat.succ (dpa_len hs)
theorem dpa_get : ∀ {vs : List V} {ds : List PyData} {i : Nat} {v : V}, DpAll K H vs ds → vs[i]? = some v → ∃ d, ds[i]? = some d ∧ Dp K H v d
 | _, _, _, _, .nil, e => by simp at e
 | _, _, 0, v, .cons h _, e => by simp at e; subst e; exact ⟨_, rfl, h⟩
 | _, _, i + 1, v, .cons _ hs, e => by
  obtain ⟨d, h1, h2⟩ := dpa_get (i := i) (v := v) hs (by simpa using e)
  exact ⟨d, by simpa using h1, h2⟩
end
end SL
namespace SL
open PySem PySem.Spec PyProof.Rows L2
section
variable {K : PySem.W.Frag} {σ : L2.St} {H : Hp} {a b : Addr} {xs ys : List V}
theorem walk_zipT {n : Nat} (hn : n = min xs.length ys.length) : Walk (RZ.ItzT K a b) n (fun H => SqT K H a xs ∧ SqT K H b ys) (YPair (fun i => xs[i]?) (fun i => ys[i]?)) :=
 have both : ∀ {i : Nat}, i < n → i < xs.length ∧ i < ys.length := fun {i} lt => by omega
 {
  goes := fun i _ lt q => ⟨xs, ys, xs[i]'(both lt).1, ys[i]'(both lt).2, q.1, q.2, List.getElem?_eq_getElem _, List.getElem?_eq_getElem _⟩
  stops := fun _ q => ⟨xs, ys, q.1, q.2, by omega⟩
  yields := fun i H v H' _ q y => have ⟨T, x, z, isT, new, as, fx, fy⟩ := y; ⟨T, x, z, isT, new, as, fx xs q.1, fy ys q.2⟩
 }
theorem g_izA {tl : TA} {S : It → Hp → Prop} (q : tl σ H fun vs H1 => ∃ a b xs ys, vs = [.ref a, .ref b] ∧ ((SqL K H1 a xs ∧ SqL K H1 b ys ∧ S (Itz K a b) H1) ∨ (SqT K H1 a xs ∧ SqT K H1 b ys ∧ S (RZ.ItzT K a b) H1))) : RZ.iZipA K tl σ H S := q
theorem g_iz {tl : TA} {S : It → Hp → Prop} (q : tl σ H fun vs H1 => ∃ a b xs ys, vs = [.ref a, .ref b] ∧ SqL K H1 a xs ∧ SqL K H1 b ys ∧ S (Itz K a b) H1) : iZip K tl σ H S := q
end
end SL
set_option Elab.async false
set_option linter.all false
set_option maxRecDepth 100000
set_option maxHeartbeats 2000000
namespace SL
open PySem PySem.Spec PyProof.Rows L2
structure RoomG (k : Nat) (A : Around) : Prop where
 rm : Room k A
 gd : A.guards = some []
theorem RoomG.mono {j k : Nat} {A : Around} (r : RoomG k A) (h : j ≤ k) : RoomG j A := ⟨r.rm.mono h, r.gd⟩
theorem RoomG.units {k : Nat} {A : Around} (r : RoomG k A) : A.units + 64 < cLine := r.rm.units
structure FnG (P : Program) (w : World) (K : PySem.W.Frag) (mg : Str → Option Value) (base : Heap) (CX : CXT) (k : Nat) (f : Addr) (fd : FuncData) (ps : List Str) (sp : Sp) : Prop where
 len : ∀ vs H Q E, sp vs H Q E → vs.length = ps.length
 go : ∀ (A : Around) (outer : List Env) (s : Shared) (H : Hp) (args : Args) (us : List Value) (vs : List V) (Q : VK) (E : XK), RoomG k A →
  Env0 P w K mg base A outer s H → BindsTo s fd args (ps.zip us) → Vals vs us → sp vs H Q E → codeAny (model P w) A (.call (.ref f) args) (CR CX outer P w H s Q E) s
section
variable {P : Program} {w : World} {K : PySem.W.Frag} {mg : Str → Option Value} {base : Heap} {CX : CXT}
theorem FnG.up {j k : Nat} {f : Addr} {fd : FuncData} {ps : List Str} {sp : Sp} (F : FnG P w K mg base CX j f fd ps sp) (h : j ≤ k) : FnG P w K mg base CX k f fd ps sp :=
 ⟨F.len, fun A outer s H args us vs Q E r => F.go A outer s H args us vs Q E (r.mono h)⟩
theorem FnG.imp {k : Nat} {f : Addr} {fd : FuncData} {ps : List Str} {sp sp' : Sp} (F : FnG P w K mg base CX k f fd ps sp) (h : ∀ vs H Q E, sp' vs H Q E → sp vs H Q E) : FnG P w K mg base CX k f fd ps sp' :=
 ⟨fun vs H Q E z => F.len vs H Q E (h vs H Q E z), fun A outer s H args us vs Q E r e b v z => F.go A outer s H args us vs Q E r e b v (h vs H Q E z)⟩
theorem fng_of {k : Nat} {f : Addr} {x qual : Str} {pr : Arguments} {bd : List Stmt} {sc : Scope} {dV kV doc pm cdv ct oc : Value} {an od : Option Addr} {osl : Array (Option Value)} {N ps : List Str} {sp : Sp}
  (lk : K.lookup f = some ⟨oc, od, .func (PySem.W.fnOf x qual pr bd sc dV kV doc pm an cdv ct), osl⟩) (hcd : PySem.W.codeIn K cdv qual = true) (S : FnScope N ps sc) (hlen : ∀ vs H Q E, sp vs H Q E → vs.length = ps.length)
  (hb : ∀ (A : Around) (outer : List Env) (s : Shared) (H : Hp) (vs : List V) (Q : VK) (E : XK), RoomG k (A.deeper (envOfC qual sc s.heap.objs.size f cdv)) → sp vs H Q E →
   ∃ t, PSs (cxOf CX P w K mg base N qual sc f cdv A outer s H E) bd t ∧ t { nx := fun _ H' => Q .non H', rt := Q } (start N vs) H) :
  FnG P w K mg base CX (k + 1) f (PySem.W.fnOf x qual pr bd sc dV kV doc pm an cdv ct) ps sp := by
 constructor
 ·exact hlen
 intro A outer s H args us vs Q E hr env0 hbind rel hsp
 have nl := hlen _ _ _ _ hsp
 have inH : K.In s.heap := env0.mod.kin.keeps fun b o z => (env0.bs b o z).1
 have nolim : s.heap.NoLimit := env0.mod.nolimit.keeps fun b o z => (env0.bs b o z).1
 have kinds : ∀ y ∈ ps.zip us, sc.names.lookup y.1 = some .local ∨ (sc.names.lookup y.1 = some .cell ∧ ((cellsFrom (s.heap.objs.size + 1) sc.names []).lookup y.1).isSome = true) := by
  rintro ⟨n, v⟩ hy
  exact (S.par n (List.of_mem_zip hy).1).imp id fun q => ⟨q, PySem.W.cellsFrom_some _ _ _ (.inl q)⟩
 refine codeAny_call_function hr.rm.depth (inH _ _ lk) rfl S.co S.gen rfl (PySem.W.codeRec_of inH hcd) (hbind _ _ _ _ (wpAny_newFunctionEnv_cells S.kind kinds fun en hen s1 ic => ?_))
 subst hen
 refine ⟨nolim.keeps ic.toInCall.keep, codeAny_func ?_⟩
 obtain ⟨t, ht, hq⟩ := hb A outer s H vs Q E ⟨hr.rm.deeper _, hr.gd⟩ hsp
 have J0 : Inv (cxOf CX P w K mg base N qual sc f cdv A outer s H E) [] (start N vs) H s1 := inv_start S hr.rm.hd env0 nl rel ic
 refine wpAny_mono (ht.run [] s1 (start N vs) H _ J0 hq) (fun fl s2 h2 => ?_) fun e s2 h2 => h2
 cases fl with
 | next =>
  obtain ⟨σ2, H2, J, q2⟩ := h2
  exact ⟨V.non, H2, J.os, J.bare, J.base, J.hok, rfl, q2⟩
 | ret u =>
  obtain ⟨v, σ2, H2, J, rv, q2⟩ := h2
  exact ⟨v, H2, J.os, J.bare, J.base, J.hok, rv, q2⟩
 | brk => exact h2.elim fun _ z => z.elim fun _ z => z.2.elim
 | cont => exact h2.elim fun _ z => z.elim fun _ z => z.2.elim
theorem okG {x qual : Str} {pr : Arguments} {bd : List Stmt} {sc : Scope} {dvs : List V} {kws : List (Str × V)} {f : Addr} {fd : FuncData} {N ps : List Str} {k : Nat} {sp : Sp} (F : FunD K x qual pr bd sc dvs kws f fd) (S : FnScope N ps sc) (hlen : ∀ vs H Q E, sp vs H Q E → vs.length = ps.length)
  (hb : ∀ (cdv : Value) (A : Around) (outer : List Env) (s : Shared) (H : Hp) (vs : List V) (Q : VK) (E : XK), RoomG k (A.deeper (envOfC qual sc s.heap.objs.size f cdv)) → sp vs H Q E →
   ∃ t, PSs (cxOf CX P w K mg base N qual sc f cdv A outer s H E) bd t ∧ t { nx := fun _ H' => Q .non H', rt := Q } (start N vs) H) : FnG P w K mg base CX (k + 1) f fd ps sp := by
 obtain ⟨oc, od, dV, kV, doc, pm, an, cdv, ct, osl, rfl, lk, hcd, _, _⟩ := F.ex
 exact fng_of lk hcd S hlen fun A outer s H vs Q E hr hsp => hb cdv A outer s H vs Q E hr hsp
structure CalG (P : Program) (w : World) (K : PySem.W.Frag) (mg : Str → Option Value) (base : Heap) (k : Nat) (x : Str) (sp : Sp) : Prop where
 ex : ∃ (f : Addr) (fd : FuncData) (ps : List Str), FnG P w K mg base CX0 k f fd ps sp ∧ mg x = some (.ref f) ∧ PySem.W.keepIn K (.ref f) = true ∧ Binds K fd ps []
theorem CalG.mono {j k : Nat} {x : Str} {sp : Sp} (c : CalG P w K mg base j x sp) (h : j ≤ k) : CalG P w K mg base k x sp := by
 obtain ⟨f, fd, ps, F, m, kp, b⟩ := c.ex
 exact ⟨f, fd, ps, F.up h, m, kp, b⟩
theorem CalG.imp {k : Nat} {x : Str} {sp sp' : Sp} (c : CalG P w K mg base k x sp) (h : ∀ vs H Q E, sp' vs H Q E → sp vs H Q E) : CalG P w K mg base k x sp' := by
 obtain ⟨f, fd, ps, F, m, kp, b⟩ := c.ex
 exact ⟨f, fd, ps, F.imp h, m, kp, b⟩
end
section
variable {X : Cx} {k j : Nat} {x : Str} {sp : Sp} {p pos : Pos} {e : Expr} {es : List Expr} {t : TA}
theorem run_fng {CX : CXT} {f : Addr} {fd : FuncData} {ps : List Str} {dvs : List V} {ds : List Value} {E : XK} {pins : List (Addr × Obj)} {σ : L2.St} {H : Hp} {s : Shared} {Q : VK} {us : List Value} {vs : List V}
  (F : FnG X.prog X.w X.K X.mg X.base CX k f fd ps sp) (hr : RoomG k X.A) (hb : Binds X.K fd ps ds) (hd : Vals dvs ds) (hx : Passes CX X E) (I : Inv X pins σ H s) (r : Vals vs us) (h : sp (vs ++ dvs) H Q E) :
  wpAny (model X.prog X.w) X.A (call (.ref f) us) (EP X pins σ Q) X.xe s := by
 have rel : Vals (vs ++ dvs) (us ++ ds) := r.append hd
 have ln : (us ++ ds).length = ps.length := rel.length.symm.trans (F.len _ _ _ _ h)
 refine wpAny_call (codeAny_mono (F.go X.A X.stack s H ⟨us, []⟩ (us ++ ds) (vs ++ dvs) Q E hr I.env0 (hb s us I.kIn ln) rel h) fun res s2 hq => ?_)
 cases res with
 | ok fl =>
  cases fl with
  | ret u => exact I.after hq
  | _ => exact hq.elim
 | error z => exact hx pins σ H s z s2 I hq
theorem pe_calG (c : CalG X.prog X.w X.K X.mg X.base k x sp) (hr : RoomG j X.A) (hg : Gl X x) (ha : PA X (e :: es) t) (hk : k ≤ j := by first | decide | omega)
  (hdb : (x == ("__debug__" : Str)) = false := by decide) (hst : starEach (e :: es) X.env = (false, eval e X.env) :: starEach es X.env := by rfl) (hnp : (backTo pos (starEach es X.env)).any (·.1) = false := by rfl) :
  PE X (.Call (.Name x p) (e :: es) [] pos) (tCall sp [] E0 t) := by
 obtain ⟨f, fd, ps, F, hm, kp, b⟩ := c.ex
 constructor
 intro pins s σ H Q I h
 refine wpAny_Call_Name_kw (ld_glob I hg hm (PySem.W.callWith_K (h₀ := X.base) I.ok.mod.kin kp (thn (ha.run pos pins s σ H _ I h) fun us s1 z => ?_) hst hnp) hdb)
 obtain ⟨vs, H1, I1, r, q⟩ := z
 exact ⟨I1.kIn, run_fng F (hr.mono hk) b .nil pass0 I1 r q⟩
end
theorem calG_of {P : Program} {w : World} {K : PySem.W.Frag} {mg : Str → Option Value} {base : Heap} {k : Nat} {x : Str} {sp : Sp} {f : Addr} {fd : FuncData} {ps : List Str} (F : FnG P w K mg base CX0 k f fd ps sp) (m : mg x = some (.ref f)) (kp : PySem.W.keepIn K (.ref f) = true) (b : Binds K fd ps []) : CalG P w K mg base k x sp := ⟨f, fd, ps, F, m, kp, b⟩
def scrO (vs : List Value) : Obj := { cls := .type "list", data := .seq vs.toArray }
theorem law_from {P : Program} {w : World} {K : PySem.W.Frag} {mg mb : Str → Option Value} {k : Nat} {fa a : Addr} {fd : FuncData} {x : Str} {sp : Sp} {s : Shared} {vs : List Value} {H : Hp}
  (kin : K.In s.heap) (gns : s.heap.Ns mainGlobals mg) (bns : s.heap.Ns builtinsNs mb) (bok : ∀ x : Str, x ≠ "__name__" → mb x = bootBuiltins x) (nolim : s.heap.NoLimit) (nog : s.gens = #[]) (scr : s.heap.get? a = some (scrO vs)) (hr : RoomG k callerA)
  (F : ∀ base : Heap, K.In base → base.Ns mainGlobals mg → FnG P w K mg base CX0 k fa fd [x] sp) (hbind : ∀ (s : Shared) (u : Value), BindsTo s fd ⟨[u], []⟩ [(x, u)])
  (hsp : sp [.ref a] H (fun v _ => v = .bl true) fun _ _ _ => False) (hO : Only H) (hok : HOk P w H s.heap) (hA : ∀ b, H b ≠ none → b = a) (hK : H a ≠ none → K.lookup a = none) :
  codeAny (model P w) callerA (.call (.ref fa) ⟨[.ref a], []⟩) (fun r s2 => r = .ok (.ret (.bool true)) ∧ OldK s.heap s2.heap ∧ s2.os = s.os ∧ AllBare s2.gens) s := by
 have dfree : ∀ {b : Addr} {o : Obj} {es : Array DictEntry} {ep : Nat}, s.heap.get? b = some o → o.data = .dict es ep → H b = none := by
  intro b o es ep h1 h2
  cases q : H b with
  | none => rfl
  | some u =>
   have hb : b = a := hA b (by rw [q]; exact fun z => nomatch z)
   rw [hb, scr] at h1
   cases h1
   cases h2
 have nsH : ∀ {b : Addr} {m : Str → Option Value}, s.heap.Ns b m → (hidT s.heap H).Ns b m := by
  rintro b m ⟨o, es, ep, h1, h2, h3⟩
  exact ⟨o, es, ep, hidT_get h1 (dfree h1 h2), h2, h3⟩
 have kH : K.In (hidT s.heap H) := by
  intro b o h1
  refine hidT_get (kin b o h1) ?_
  cases q : H b with
  | none => rfl
  | some u =>
   have hb : b = a := hA b (by rw [q]; exact fun z => nomatch z)
   rw [hb] at h1 q
   rw [hK (by rw [q]; exact fun z => nomatch z)] at h1
   cases h1
 obtain ⟨mc, l1, l2⟩ := nolim
 have md : Mod K mg (hidT s.heap H) := ⟨kH, nsH gns, ⟨mb, nsH bns, bok⟩, ⟨mc, nsH l1, l2⟩⟩
 have env : Env0 P w K mg (hidT s.heap H) callerA [] s H := ⟨rfl, md, fun _ _ z => of_hidT z, Nat.le_of_eq (hidT_size _ _), trivial, fun b hb => (nomatch (show b ∈ ([] : List Addr) from hb)), hok, .of_eq nog⟩
 refine codeAny_mono ((F _ kH (nsH gns)).go callerA [] s H ⟨[.ref a], []⟩ [.ref a] [.ref a] _ _ hr env (hbind s (.ref a)) (.cons rfl .nil) hsp) fun r s2 h => ?_
 cases r with
 | error z => exact h.elim
 | ok fl =>
  cases fl with
  | ret u =>
   obtain ⟨v, H2, os, bare, un, hok2, rv, q⟩ := h
   have q1 : v = .bl true := q
   rw [q1] at rv
   have ru : u = Value.bool true := rv
   rw [ru]
   refine ⟨rfl, OldK.of_keep fun b o h1 => ?_, os, bare⟩
   rcases hO b with z | ⟨ob, xs, z⟩
   ·exact un.keep b o h1 z (fun y => nomatch (show b ∈ ([] : List Addr) from y)) (fun y => nomatch y)
   ·obtain ⟨g1, _⟩ := hok b _ z
    obtain ⟨g2, _⟩ := hok2 b _ (un.frzs b ob _ z)
    rw [h1] at g1
    cases g1
    exact g2
  | _ => exact h.elim
theorem law_run {P : Program} {w : World} {K : PySem.W.Frag} {mg mb : Str → Option Value} {k : Nat} {fa a : Addr} {fd : FuncData} {x : Str} {sp : Sp} {s : Shared} {vs : List Value} {ns : List Int}
  (kin : K.In s.heap) (gns : s.heap.Ns mainGlobals mg) (bns : s.heap.Ns builtinsNs mb) (bok : ∀ x : Str, x ≠ "__name__" → mb x = bootBuiltins x) (nolim : s.heap.NoLimit) (nog : s.gens = #[]) (scr : s.heap.get? a = some (scrO vs)) (hin : IntsAre vs ns) (small : ns.length ≤ sizeLine) (hr : RoomG k callerA)
  (F : ∀ base : Heap, K.In base → base.Ns mainGlobals mg → FnG P w K mg base CX0 k fa fd [x] sp) (hbind : ∀ (s : Shared) (u : Value), BindsTo s fd ⟨[u], []⟩ [(x, u)])
  (hsp : ∀ H : Hp, Only H → SqL K H a (ns.map V.int) → sp [.ref a] H (fun v _ => v = .bl true) fun _ _ _ => False) :
  codeAny (model P w) callerA (.call (.ref fa) ⟨[.ref a], []⟩) (fun r s2 => r = .ok (.ret (.bool true)) ∧ OldK s.heap s2.heap ∧ s2.os = s.os ∧ AllBare s2.gens) s := by
 have rel := vals_ints hin
 have ln := hin.length
 cases hk : K.lookup a with
 | none =>
  let H0 : Hp := fun b => if b = a then some (.frz (scrO vs) (.lst (ns.map V.int))) else none
  have at_a : H0 a = some (.frz (scrO vs) (.lst (ns.map V.int))) := if_pos rfl
  have off_a : ∀ b, b ≠ a → H0 b = none := fun b hb => if_neg hb
  have only : Only H0 := fun b => by
   by_cases hb : b = a
   ·rw [hb]; exact .inr ⟨_, _, at_a⟩
   ·exact .inl (off_a b hb)
  refine law_from (H := H0) kin gns bns bok nolim nog scr hr F hbind (hsp H0 only (.inl (.inr ⟨_, at_a⟩))) only (fun b u z => ?_) (fun b z => ?_) fun _ => hk
  ·by_cases hb : b = a
   ·subst hb
    rw [at_a] at z
    cases z
    exact ⟨scr, (by rw [List.length_map]; exact small), vs, _, rel, scr⟩
   ·rw [off_a b hb] at z
    cases z
  ·by_cases hb : b = a
   ·exact hb
   ·exact absurd (off_a b hb) z
 | some o =>
  have h1 := kin a o hk
  rw [scr] at h1
  cases h1
  refine law_from (H := fun _ => none) kin gns bns bok nolim nog scr hr F hbind (hsp _ (fun _ => .inl rfl) (.inr ⟨_, vs.toArray, _, hk, rfl, rfl, rfl, by rw [List.size_toArray, ln]; exact small, by simpa using rel⟩)) (fun _ => .inl rfl) (fun b u z => ?_) (fun b z => absurd rfl z) fun z => absurd rfl z
  have z2 : (none : Option HO) = some u := z
  cases z2
theorem walkG {l : PySem.W.OpenLaw} {n k : Nat} {q : Program} {loose : List Str} {XP : (Str → Option Value) → Heap → Prop} {YP : World → Heap → Prop} {d : DefRec} {x : Str} (hn : l.most = some n) (hn2 : n ≤ sizeLine) (hdf : d.params.defaults = []) (hr : Room k callerA)
  (F : ∀ (w : World) (mg : Str → Option Value) (fa : Addr) (h : Heap), YP w h → h.Ns mainGlobals mg → mg d.name = some (.ref fa) →
   ∃ (K : PySem.W.Frag) (fd : FuncData) (sp : Sp), K.In h ∧ (∀ (s : Shared) (u : Value), BindsTo s fd ⟨[u], []⟩ [(x, u)]) ∧
    (∀ (H : Hp) (a : Addr) (ns : List Int), ns.length ≤ n → SqL K H a (ns.map V.int) → sp [.ref a] H (fun v _ => v = .bl true) fun _ _ _ => False) ∧ ∀ base : Heap, K.In base → base.Ns mainGlobals mg → FnG l.prog w K mg base CX0 k fa fd [x] sp) :
  PySem.W.WalkO q loose XP YP l.row.toRowW d [] (fun f vs => PySem.call f vs) := by
 refine Att.attach_call hn hdf fun w s₀ s₁ mg mb fa o pm cd doc a vs ns G Y ho hd hcd hmg hobj hints hlen hg => ?_
 obtain ⟨K, fd, sp, kin, hb, hsp, hF⟩ := F w mg fa _ Y G.T.g hmg
 exact law_run kin G.T.g G.T.b G.T.builtins G.T.nolimit hg hobj hints (Nat.le_trans hlen hn2) ⟨hr, rfl⟩ hF hb fun H _ hS => hsp H a ns hlen hS
end SL
set_option Elab.async false
set_option linter.all false
set_option maxRecDepth 100000
set_option maxHeartbeats 2000000
namespace SL
open PySem PySem.Spec PyProof.Rows L2
def isSc : V → Bool
 | .int _ | .str _ | .bl _ | .non => true
 | _ => false
def scD : V → PyData
 | .int i => .int i
 | .str x => .str x
 | .bl b => .bool b
 | _ => .none
def keyD : Key → PyData
 | .inl i => .int i
 | .inr x => .str x
def kvD (kvs : List (Key × V)) : PyData := .dict (kvs.map fun kv => (keyD kv.1, scD kv.2))
theorem sc_reads {h : Heap} {x : V} {u : Value} (s : isSc x = true) (r : RelV x u) : Reads h u (scD x) [] := by
 cases x with
 | int i => obtain ⟨t, rfl⟩ := r; exact .int i t
 | str i => obtain ⟨t, rfl⟩ := r; exact .str i t
 | bl b => cases r; exact .bool b
 | non => cases r; exact .none
 | _ => cases s
theorem key_reads {h : Heap} {k : Key} {u : Value} (r : keyIs k u = true) : Reads h u (keyD k) [] := by
 rcases keyIs_shape r with ⟨i, t, rfl, rfl⟩ | ⟨x, t, rfl, rfl⟩
 ·exact .int i t
 ·exact .str x t
theorem pairs_reads {P : Program} {w : World} {h : Heap} : ∀ {es : List DictEntry} {kvs : List (Key × V)} {vs : List (Key × Value)}, Pairs (mixKind P w) es vs → KV kvs vs → (∀ kv ∈ kvs, isSc kv.2 = true) →
  ReadsAll h (es.map (·.key)) ((kvs.map fun kv => (keyD kv.1, scD kv.2)).map (·.1)) [] ∧ ReadsAll h (es.map (·.val)) ((kvs.map fun kv => (keyD kv.1, scD kv.2)).map (·.2)) []
 | _, _, _, .nil, .nil, _ => ⟨.nil, .nil⟩
 | en :: _, (k, v) :: r, kv2 :: _, .cons h1 h2 h3, .cons g1 g2, hs => by
  obtain ⟨i1, i2⟩ := pairs_reads (h := h) h3 g2 fun kv z => hs kv (List.mem_cons_of_mem _ z)
  obtain ⟨e1, e2⟩ := g1
  have e3 : keyIs k en.key = true := by
   have e4 : k = kv2.1 := e1
   rw [e4]; exact h1
  have r1 : RelV v kv2.2 := e2
  rw [← h2] at r1
  exact ⟨.cons (key_reads e3) i1, .cons (sc_reads (hs _ List.mem_cons_self) r1) i2⟩
def rReprD (K : PySem.W.Frag) : List V → Hp → VK → Prop := fun xs H Q => ∃ (p : Addr) (d : PyData), xs = [.ref p] ∧ (Dp K H (.ref p) d ∨ ∃ kvs, H p = some (.dK kvs) ∧ (∀ kv ∈ kvs, isSc kv.2 = true) ∧ d = kvD kvs) ∧
 d.showable = true ∧ d.depth ≤ 50 ∧ d.shown.length ≤ sizeLine ∧ Q (.str d.shown) H
mutual
theorem dp_nodict {K : PySem.W.Frag} {H : Hp} : ∀ {v : V} {d : PyData}, Dp K H v d → d.hasDict = false
 | _, _, .non => by simp only [PyData.hasDict]
 | _, _, .bl _ => by simp only [PyData.hasDict]
 | _, _, .int _ => by simp only [PyData.hasDict]
 | _, _, .str _ => by simp only [PyData.hasDict]
 | _, _, .lst _ h => by simp only [PyData.hasDict]; exact dpa_nodict h
 | _, _, .tup _ h => by simp only [PyData.hasDict]; exact dpa_nodict h
theorem dpa_nodict {K : PySem.W.Frag} {H : Hp} : ∀ {vs : List V} {ds : List PyData}, DpAll K H vs ds → PyData.hasDictAll ds = false
 | _, _, .nil => by simp only [PyData.hasDictAll]
 | _, _, .cons h hs => by simp only [PyData.hasDictAll, dp_nodict h, dpa_nodict hs, Bool.or_self]
end
section
variable {X : Cx} {k : Nat}
theorem call_reprD (hr : RoomG k X.A) : CallR X (.builtin "repr") (rReprD X.K) := by
 intro pins s σ H xs us Q I r h
 obtain ⟨p, d, rfl, hd, hs, hdep, hsz, q⟩ := h
 obtain ⟨u, rfl, r1⟩ := vals1 r
 have hu : X.A.units + (d.depth + 1) < cLine := by have := hr.units; omega
 rcases hd with hd | ⟨kvs, hp, hsc, rfl⟩
 ·cases r1
  obtain ⟨as, hR⟩ := Dp.reads I d _ _ hd (show RelV (.ref p) (.ref p) from rfl)
  exact repr_of_reads' hR hs (fun z => by rw [dp_nodict hd] at z; cases z) hr.gd hu (fun _ _ z => z) (fun h' u tk hk => ⟨.str _, H, I.kept (t' := tk) hk, ⟨u, rfl⟩, q⟩) hsz
 ·cases r1
  obtain ⟨_, y, vs, rk, o, es, ep, e, ex, hdat, _, pr, _⟩ := I.hok p _ hp
  obtain ⟨i1, i2⟩ := pairs_reads (h := s.heap) pr rk hsc
  have hR : Reads s.heap (.ref p) (kvD kvs) (p :: [] ++ []) := .dict e ex.1 hdat i1 i2
  refine repr_of_reads' hR hs (fun _ z => ?_) hr.gd hu (fun _ _ z => z) (fun h' u tk hk => ⟨.str _, H, I.kept (t' := tk) hk, ⟨u, rfl⟩, q⟩) hsz
  have z1 : sysModules = p := by simpa using z
  rw [← z1] at y
  simp at y
def uReprG (K : PySem.W.Frag) : List V → Hp → VK → Prop := fun xs H Q => uRepr xs H Q ∨ rReprD K xs H Q
theorem callu_reprG (hr : RoomG k X.A) : CallR X (.builtin "repr") (uReprG X.K) := callu_repr.or (call_reprD hr)
end
section
variable {K : PySem.W.Frag} {H : Hp} {Q : VK} {x : V}
theorem g_reprS (h : shortV x) (q : Q (.str (shownV x)) H) : uReprG K [x] H Q := .inl ⟨x, rfl, h, q⟩
theorem g_dget {td ty : TE} {σ : L2.St} (q : td σ H fun x H1 => ty σ H1 fun y H2 => ∃ a v, x = .ref a ∧ DGet H2 a y (some v) ∧ Q v H2) : tDGet td ty σ H Q := q
end
end SL
namespace SL
open PySem PySem.Spec PyProof.Rows L2
section
variable {X : Cx} {K : PySem.W.Frag}
theorem kOp {r : PySem.W.Frag → R2} {f : Value → Value → Sem Value} (e : X.K = K) (h : OpR X f (r X.K)) : OpR X f (r K) := e ▸ h
theorem kIx {r : PySem.W.Frag → R2} (e : X.K = K) (h : IxR X (r X.K)) : IxR X (r K) := e ▸ h
theorem kSl {r : PySem.W.Frag → V → Option Int → Option Int → Hp → VK → Prop} (e : X.K = K) (h : SlR X (r X.K)) : SlR X (r K) := e ▸ h
theorem kCall {r : PySem.W.Frag → List V → Hp → VK → Prop} {f : Value} (e : X.K = K) (h : CallR X f (r X.K)) : CallR X f (r K) := e ▸ h
variable {a b : Expr} {rest es : List Expr} {ta tb te : TE} {tgs : TGs} {pos : Pos} {tg : Expr} {n k : Nat}
theorem pe_andTK (e : X.K = K) (ha : PE X a ta) (hb : PE X (.BoolOp .And (b :: rest) pos) tb) : PE X (.BoolOp .And (a :: b :: rest) pos) (tAndT K ta tb) := by subst e; exact pe_andT ha hb
theorem pe_orTK (e : X.K = K) (ha : PE X a ta) (hb : PE X (.BoolOp .Or (b :: rest) pos) tb) : PE X (.BoolOp .Or (a :: b :: rest) pos) (tOrT K ta tb) := by subst e; exact pe_orT ha hb
theorem pe_notTK (e : X.K = K) (ha : PE X a ta) : PE X (.UnaryOp .Not a pos) (tNotT K ta) := by subst e; exact pe_notT ha
theorem pi_listK (e : X.K = K) (h : PE X a ta) : PI X tg a (iList K ta) := by subst e; exact pi_list h
theorem pg_tupK (e : X.K = K) (hc : X.calm = true) (h : PGs X es tgs) (hn : (assignEach es X.env).length = n := by rfl) (hst : (assignEach es X.env).findIdx? (·.1) = none := by rfl) : PG X (.Tuple es k pos) (gTup K n tgs) := by subst e; exact pg_tup hc h hn hst
end
end SL
namespace SL
open PySem PySem.Spec PyProof.Rows L2
section
variable {K : PySem.W.Frag} {H : Hp} {Q : VK}
end
end SL
namespace SL
open PySem PySem.Spec PyProof.Rows L2
section
variable {X : Cx} {K : PySem.W.Frag} {ex : Expr} {T : String} {rb : V → List V → Hp → VK → Prop} {to : TE} {tl : TA} {σ : L2.St} {H : Hp} {Q : VK}
theorem g_bm (q : to σ H fun x H1 => tyV K T x H1 ∧ tl σ H1 fun xs H2 => rb x xs H2 Q) : tBM K T rb to tl σ H Q := q
theorem g_bm0 (q : to σ H fun x H1 => tyV K T x H1 ∧ rb x [] H1 Q) : tBM0 K T rb to σ H Q := q
theorem g_tyS {A : Prop} {z : Str} (q : A) : tyV K "str" (.str z) H ∧ A := ⟨rfl, q⟩
theorem g_tyL {A : Prop} {p : Addr} {xs : List V} (h : SqL K H p xs) (q : A) : tyV K "list" (.ref p) H ∧ A := ⟨.inl ⟨rfl, xs, h⟩, q⟩
end
end SL
namespace SL
open PySem PySem.Spec PyProof.Rows L2
section
variable {K : PySem.W.Frag} {σ : L2.St} {H : Hp} {Q : VK} {tk tv : TE} {trs : List (TE × TE)} {A : List (V × V) → Hp → Prop}
theorem g_pairs (q : tk σ H fun x H1 => tv σ H1 fun y H2 => tPairs trs σ H2 fun ps H3 => A ((x, y) :: ps) H3) : tPairs ((tk, tv) :: trs) σ H A := q
theorem g_pairs0 (q : A [] H) : tPairs [] σ H A := q
end
end SL
set_option Elab.async false
set_option linter.all false
set_option maxRecDepth 100000
set_option maxHeartbeats 2000000
namespace SL
open PySem PySem.Spec PyProof.Rows L2
section
variable {P : Program} {w : World} {K : PySem.W.Frag} {mg : Str → Option Value} {base : Heap} {f : Addr} {fd : FuncData} {ps : List Str} {x : Str} {sp : Nat → Sp}
theorem calG_rec0 (z : ∀ vs H Q E, ¬ sp 0 vs H Q E) (m : mg x = some (.ref f)) (kp : PySem.W.keepIn K (.ref f) = true) (bb : Binds K fd ps [])
  (st : ∀ n, CalG P w K mg base n x (sp n) → FnG P w K mg base CX0 (n + 1) f fd ps (sp (n + 1))) : ∀ n, CalG P w K mg base n x (sp n)
 | 0 => calG_of ⟨fun vs H Q E h => absurd h (z _ _ _ _), fun _ _ _ _ _ _ _ _ _ _ _ _ _ h => absurd h (z _ _ _ _)⟩ m kp bb
 | n + 1 => calG_of (st n (calG_rec0 z m kp bb st n)) m kp bb
end
end SL
set_option Elab.async false
set_option linter.all false
set_option maxRecDepth 100000
set_option maxHeartbeats 2000000
namespace SL
open PySem PySem.Spec PyProof.Rows L2
section
variable {X : Cx} {K : PySem.W.Frag} {σ : L2.St} {H : Hp} {Q : VK} {x y : V}
def tFs (ts : List TE) : TE := fun σ H Q => tJs ts Str.empty σ H fun out H1 => Q (.str out) H1
theorem pe_fs {v1 v2 : Expr} {rest : List Expr} {ts : List TE} {pos : Pos} (h : PJ X (v1 :: v2 :: rest) ts) : PE X (.JoinedStr (v1 :: v2 :: rest) pos) (tFs ts) := pe_joined h
theorem g_fs {ts : List TE} (q : tJs ts Str.empty σ H fun out H1 => Q (.str out) H1) : tFs ts σ H Q := q
theorem g_js0 {acc : Str} {A : Str → Hp → Prop} (q : A acc H) : tJs [] acc σ H A := q
theorem g_js {t : TE} {ts : List TE} {acc : Str} {A : Str → Hp → Prop} (q : t σ H fun x H1 => ∃ y : Str, x = .str y ∧ (acc ++ y).length ≤ sizeLine ∧ tJs ts (acc ++ y) σ H1 A) : tJs (t :: ts) acc σ H A := q
theorem g_fmt {te : TE} (q : te σ H fun x H1 => (∃ y : Str, x = .str y ∧ y.length ≤ sizeLine ∧ Q (.str y) H1) ∨ ∃ i : Int, x = .int i ∧ i.natAbs.log2 < 1920 ∧ Q (.str (toString i)) H1) : tFmt te σ H Q := q
theorem g_fmtS {z : Str} {A : Str → Prop} {B : Prop} (h : z.length ≤ sizeLine) (q : A z) : (∃ y : Str, V.str z = .str y ∧ y.length ≤ sizeLine ∧ A y) ∨ B := .inl ⟨z, rfl, h, q⟩
theorem g_jsS {z acc : Str} {A : Str → Prop} (h : (acc ++ z).length ≤ sizeLine) (q : A z) : ∃ y : Str, V.str z = .str y ∧ (acc ++ y).length ≤ sizeLine ∧ A y := ⟨z, rfl, h, q⟩
theorem app_len {a b : Str} : (a ++ b).length = a.length + b.length := Array.size_append
theorem lit_q : ("'" : Str).length = 1 := by decide +kernel
theorem lit_lp : ("(" : Str).length = 1 := by decide +kernel
theorem lit_rp : (")" : Str).length = 1 := by decide +kernel
theorem lit_sp : (" " : Str).length = 1 := by decide +kernel
theorem lit_cs : (", " : Str).length = 2 := by decide +kernel
theorem lit_not : ("not " : Str).length = 4 := by decide +kernel
theorem lit_is : (" is " : Str).length = 4 := by decide +kernel
theorem lit_if : (" if " : Str).length = 4 := by decide +kernel
theorem lit_e : Str.empty.length = 0 := by decide +kernel
theorem lit_dot : ("." : Str).length = 1 := by decide +kernel
def uStr : List V → Hp → VK → Prop := fun xs H Q => (∃ i, xs = [.int i] ∧ i.natAbs.log2 < 1920 ∧ Q (.str (toString i)) H) ∨ ∃ a, xs = [.str a] ∧ Q (.str a) H
theorem callu_str : CallR X (.type "str") uStr := call_str_int.or SkE.call_str_str
def uInt : List V → Hp → VK → Prop := fun xs H Q => (∃ i, xs = [.int i] ∧ Q (.int i) H) ∨ ∃ k, xs = [.bl k] ∧ Q (.int (if k then 1 else 0)) H
theorem callu_int : CallR X (.type "int") uInt := call_int1
theorem g_strI {i : Int} (h : i.natAbs.log2 < 1920) (q : Q (.str (toString i)) H) : uStr [.int i] H Q := .inl ⟨i, rfl, h, q⟩
theorem g_intB {k : Bool} (q : Q (.int (if k then 1 else 0)) H) : uInt [.bl k] H Q := .inr ⟨k, rfl, q⟩
def uIs : R2 := fun x y H Q => y = .non ∧ Q (.bl (decide (x = .non))) H
def uIsNot : R2 := fun x y H Q => y = .non ∧ Q (.bl (!decide (x = .non))) H
theorem g_is (q : Q (.bl (decide (x = .non))) H) : uIs x .non H Q := ⟨rfl, q⟩
theorem g_isNot (q : Q (.bl (!decide (x = .non))) H) : uIsNot x .non H Q := ⟨rfl, q⟩
theorem g_slS {z : Str} {lo hi : Option Int} (h : z.length ≤ sizeLine) (q : Q (.str (cutS z lo hi)) H) : rSlS (.str z) lo hi H Q := ⟨z, rfl, h, q⟩
theorem g_inS {a b : Str} (q : Q (.bl (!(Builtin.Str.occurrences b a 0 b.length 1).isEmpty)) H) : uIn K (.str a) (.str b) H Q := q
theorem g_notInS {a b : Str} (q : Q (.bl (!(!(Builtin.Str.occurrences b a 0 b.length 1).isEmpty))) H) : uNotIn K (.str a) (.str b) H Q := q
theorem g_inT {z : Str} {p : Addr} {xs : List V} (h : SqL K H p xs ∨ SqT K H p xs) (h2 : xs.all flatV = true) (q : Q (.bl (inV (.str z) xs)) H) : uIn K (.str z) (.ref p) H Q := ⟨p, xs, rfl, h, rfl, h2, q⟩
theorem g_notInT {z : Str} {p : Addr} {xs : List V} (h : SqL K H p xs ∨ SqT K H p xs) (h2 : xs.all flatV = true) (q : Q (.bl (!inV (.str z) xs)) H) : uNotIn K (.str z) (.ref p) H Q := ⟨p, xs, rfl, h, rfl, h2, q⟩
theorem inV_str (z : Str) (ws : List Str) : inV (.str z) (ws.map V.str) = decide (z ∈ ws) := by
 induction ws with
 | nil => rfl
 | cons w r ih =>
  unfold inV at ih ⊢
  rw [List.map_cons, List.any_cons, ih]
  by_cases h : z = w
  ·subst h
   simp [eqV]
  ·have : decide (V.str z = V.str w) = false := decide_eq_false fun e => h (V.str.inj e)
   simp [eqV, h, Ne.symm h]
theorem flat_strs (ws : List Str) : (ws.map V.str).all flatV = true := by
 induction ws with
 | nil => rfl
 | cons w r ih => rw [List.map_cons, List.all_cons, ih]; rfl
end
section
variable {X : Cx} {o e f : Expr} {apos cpos : Pos} {td ty tx : TE}
end
section
variable {K : PySem.W.Frag} {w : World} {H : Hp} {Q : VK} {σ : L2.St}
end
end SL
set_option Elab.async false
set_option linter.all false
set_option maxRecDepth 100000
set_option maxHeartbeats 2000000
namespace SL
open PySem PySem.Spec PyProof.Rows L2
theorem lc_map {J : It} {n : Nat} {G : Hp → Prop} {xs ys : List V} (w : Walk J n G (YAt xs)) {g : TG} {te : TE} {vs : List Nat} {σ : L2.St} {H1 : Hp} {D : Addr} {Qd : Hp → Prop} (hG : ∀ H', Fr [] H1 H' → G H') (hn : xs.length = n) (hy : ys.length = n) (hz : n ≤ 10000) (hD : H1 D = none)
  (body : ∀ (i : Nat) (x y : V) (H' : Hp) (A : V → Hp → Prop), xs[i]? = some x → ys[i]? = some y → Fr [] H1 H' → (∀ H4, Fr [] H' H4 → A y H4) → g x (wipe σ vs) H' fun σ2 H2 => wipe σ2 vs = wipe σ vs ∧ te σ2 H2 A)
  (fin : ∀ H', Fr [] H1 H' → H' D = some (.lst ys) → Qd H') :
  ∃ W : Nat → Nat → Hp → Prop, (∃ m, W 0 m (upd H1 D (.lst []))) ∧ ∀ i m H, W i m H →
   (J.stop i H ∧ Qd H) ∨ (J.go i H ∧ ∃ Nx : Hp → Prop, (∀ H', Nx H' → ∃ m', m' < m ∧ W (i + 1) m' H') ∧ ∀ x H', J.yld i H x H' → g x (wipe σ vs) H' fun σ2 H2 => wipe σ2 vs = wipe σ vs ∧ tYes σ2 H2 fun b H3 =>
    if b = true then te σ2 H3 fun y H4 => ∃ acc, H4 D = some (.lst acc) ∧ acc.length < sizeLine ∧ Nx (upd H4 D (.lst (acc ++ [y]))) else Nx H3) := by
 subst hn
 refine lc_it w (fun i H' => Fr [] H1 H' ∧ H' D = some (.lst (ys.take i))) ⟨Fr.new hD, by rw [List.take_zero]; exact upd_same⟩ (fun i H' _ h => hG H' h.1) (fun i x H' H'' hi h y => ?_) (fun H' h => ?_)
 ·obtain ⟨rfl, hx⟩ := y
  obtain ⟨h1, h2⟩ := h
  have hi2 : i < ys.length := by omega
  exact body i x ys[i] H'' _ hx (List.getElem?_eq_getElem hi2) h1 fun H4 e4 => ⟨_, e4.at h2 (fun z => nomatch z), lt_of (by rw [List.length_take]; omega), (h1.trans e4).over hD, by rw [upd_same, List.take_succ, List.getElem?_eq_getElem hi2]; rfl⟩
 ·exact fin H' h.1 (by rw [h.2, ← hy, List.take_length])
section
variable {P : Program} {w : World} {K : PySem.W.Frag} {mg : Str → Option Value} {base : Heap} {f : Addr} {fd : FuncData} {ps : List Str} {x : Str} {sp : Nat → Sp}
end
section
variable {K : PySem.W.Frag} {σ : L2.St} {H : Hp} {D : Ends} {Q : VK}
theorem g_dput {td ty tv : TE} (q : tv σ H fun v H1 => td σ H1 fun x H2 => ty σ H2 fun y H3 => ∃ a H4, x = .ref a ∧ DPut H3 a y v H4 ∧ D.nx σ H4) : sDPut td ty tv D σ H := q
end
section
variable {D : Ends} {σ : L2.St} {H : Hp}
theorem g_cutS {ts tu : TS} (Pv : L2.St → Hp → Prop) (h1 : ∀ σ' H', Pv σ' H' → tu D σ' H') (h2 : ∀ N : L2.St → Hp → Prop, (∀ σ' H', Pv σ' H' → N σ' H') → ts { D with nx := N } σ H) : tSeq ts tu D σ H := h2 (tu D) h1
theorem g_seqIf (t : TT) (a b u : TS) (D : Ends) (σ : L2.St) (H : Hp) : tSeq (tIfS t a b) u D σ H → tSeq (tIfS t a b) u D σ H := id
end
end SL
set_option Elab.async false
set_option linter.all false
set_option maxRecDepth 100000
set_option maxHeartbeats 2000000
namespace SL
open PySem PySem.Spec PyProof.Rows L2
section
variable {σ : L2.St} {H : Hp} {Q : VK} {D : Ends}
theorem g_listRg {te : TE} (q : tRg1 te σ H fun a b H1 => RgOk a b ∧ ∀ q, H1 q = none → Q (.ref q) (upd H1 q (.lst (rgV a b)))) : tLstRg (tRg1 te) σ H Q := q
theorem g_rg1 {ta : TE} {A : Int → Int → Hp → Prop} (q : ta σ H fun x H1 => ∃ n, x = .int n ∧ A 0 n H1) : tRg1 ta σ H A := q
end
abbrev Turns (J : It) (b : (Hp → Prop) → V → Hp → Prop) (H0 : Hp) (Dn : Hp → Prop) : Prop :=
 ∃ W : Nat → Nat → Hp → Prop, (∃ m, W 0 m H0) ∧ ∀ i m H, W i m H → (J.stop i H ∧ Dn H) ∨ (J.go i H ∧ ∃ Nx : Hp → Prop, (∀ H', Nx H' → ∃ m', m' < m ∧ W (i + 1) m' H') ∧ ∀ x H', J.yld i H x H' → b Nx x H')
abbrev inB (g1 : TG) (tt1 : TT) (te : TE) (vs1 : List Nat) (σ : L2.St) (D : Addr) (Nx : Hp → Prop) (x : V) (H' : Hp) : Prop :=
 g1 x (wipe σ vs1) H' fun σ3 H5 => wipe σ3 vs1 = wipe σ vs1 ∧ tt1 σ3 H5 fun b H6 => if b = true then te σ3 H6 fun y H7 => ∃ acc, H7 D = some (.lst acc) ∧ acc.length < sizeLine ∧ Nx (upd H7 D (.lst (acc ++ [y]))) else Nx H6
abbrev outB (g : TG) (tt : TT) (wi1 : TI) (g1 : TG) (tt1 : TT) (te : TE) (vs vs1 : List Nat) (σ : L2.St) (D : Addr) (Nx : Hp → Prop) (x : V) (H' : Hp) : Prop :=
 g x (wipe σ vs) H' fun σ2 H2 => wipe σ2 vs = wipe σ vs ∧ tt σ2 H2 fun b H3 => if b = true then wi1 σ2 H3 fun J1 H4 => Turns J1 (inB g1 tt1 te vs1 σ2 D) H4 Nx else Nx H3
abbrev dictB (g : TG) (tt : TT) (tk tv : TE) (vs : List Nat) (σ : L2.St) (D : Addr) (Nx : Hp → Prop) (x : V) (H' : Hp) : Prop :=
 g x (wipe σ vs) H' fun σ2 H2 => wipe σ2 vs = wipe σ vs ∧ tt σ2 H2 fun b H3 => if b = true then tk σ2 H3 fun y H4 => tv σ2 H4 fun z H5 => ∃ kvs k, y = kV k ∧ H5 D = some (.dK kvs) ∧ kvs.length < sizeLine ∧ Nx (upd H5 D (.dK (putK kvs k z))) else Nx H3
section
variable {J : It} {n : Nat} {G : Hp → Prop} {Y : Nat → Hp → V → Hp → Prop}
end
section
variable {σ : L2.St} {H : Hp} {Q : VK} {wi wi1 : TI} {g g1 : TG} {tt tt1 : TT} {te tk tv : TE} {vs vs1 : List Nat}
theorem g_lc2 (q : wi σ H fun J H1 => ∀ D, H1 D = none → Turns J (outB g tt wi1 g1 tt1 te vs vs1 σ D) (upd H1 D (.lst [])) fun H => Q (.ref D) H) : tLc2 wi g tt wi1 g1 tt1 te vs vs1 σ H Q := q
theorem g_dc (q : wi σ H fun J H1 => ∀ D, H1 D = none → Turns J (dictB g tt tk tv vs σ D) (upd H1 D (.dK [])) fun H => Q (.ref D) H) : tDc wi g tt tk tv vs σ H Q := q
theorem g_din {ty td : TE} (q : ty σ H fun y H1 => td σ H1 fun x H2 => ∃ a o, x = .ref a ∧ DGet H2 a y o ∧ Q (.bl o.isSome) H2) : tDIn ty td σ H Q := q
end
end SL
set_option Elab.async false
set_option linter.all false
set_option maxRecDepth 100000
set_option maxHeartbeats 2000000
namespace SL
open PySem PySem.Spec PyProof.Rows L2
structure EcC (K : PySem.W.Frag) (C : Addr) : Prop where
 oe : OexC K C
 xf : XfC K C
 xc : ExcC K C
def oexB (K : PySem.W.Frag) (C : Addr) : Bool := match K.lookup C with
 | some ⟨.type "type", _, .cls cd, sl⟩ => (match cd.mro, sl.toList with
  | .ref C' :: bm, [_, _, _, _, some (.builtin n), _] => decide (C' = C) && (decide (n = "ValueError.__new__") && (!cd.hasDel && (cd.hasDict && PySem.HandSPX.refsVE bm)))
  | _, _ => false)
 | _ => false
def ecB (K : PySem.W.Frag) (C : Addr) : Bool := oexB K C && (decide (PySem.W.findIn K (.ref C) "__setattr__" = some (some (.builtin "object.__setattr__"))) && (decide (PySem.W.subIn K (.ref C) (.type "BaseException") = some true) &&
 (decide (PySem.W.typeIn K (.ref C) = some (.type "type")) && (PySem.W.keepIn K (.ref C) && (decide (PySem.W.findIn K (.ref C) "__getattribute__" = some (some (.builtin "BaseException.__getattribute__"))) &&
 (decide (PySem.W.findIn K (.ref C) "__getattr__" = some none) && (PySem.W.hasDictIn K C && (decide (PySem.W.findIn K (.ref C) "__class__" = some (some (.builtin "object.__class__"))) &&
 (decide (PySem.W.specialIn K (.builtin "object.__class__") "__get__" = some (some (.builtin "getset_descriptor.__get__"))) && (decide (PySem.W.takesIn K (.builtin "object.__class__") = some true) && decide (PySem.W.mroIn K C (.type "object") = some true)))))))))))
theorem oexB_ok {K : PySem.W.Frag} {C : Addr} (h : oexB K C = true) : ∃ nm q N bs bm sn sub ab col dd k0 k1 k2 k3 k5, K.lookup C = some (excClassObj nm q C N bs bm true sn sub ab col dd k0 k1 k2 k3 k5 "ValueError.__new__") ∧ PySem.HandSPX.refsVE bm = true := by
 unfold oexB at h
 split at h
 ·rename_i dd cd sl ho
  split at h
  ·rename_i C' bm k0 k1 k2 k3 n k5 hm hs
   simp only [Bool.and_eq_true, decide_eq_true_eq, Bool.not_eq_true'] at h
   obtain ⟨rfl, rfl, hdel, hd, hr⟩ := h
   obtain ⟨nm, bs, mro, ns, qn, hdt, sn, sub, ab, col, del⟩ := cd
   dsimp only at hm hdel hd
   subst hm hdel hd
   have hsl : sl = #[k0, k1, k2, k3, some (.builtin "ValueError.__new__"), k5] := by
    obtain ⟨l⟩ := sl
    simp only at hs
    rw [hs]
   subst hsl
   exact ⟨nm, qn, ns, bs, bm, sn, sub, ab, col, dd, k0, k1, k2, k3, k5, ho, hr⟩
  ·cases h
 ·cases h
theorem ecB_ok {K : PySem.W.Frag} {C : Addr} (h : ecB K C = true) : EcC K C := by
 unfold ecB at h
 simp only [Bool.and_eq_true, decide_eq_true_eq] at h
 obtain ⟨h1, h2, h3, h4, h5, h6, h7, h8, h9, h10, h11, h12⟩ := h
 exact ⟨⟨oexB_ok h1, h2, h3, h4, h5⟩, ⟨h6, h7, h3, h8⟩, ⟨h6, h7, h3, h8, h9, h10, h11, h12⟩⟩
structure EcI (K : PySem.W.Frag) (C fI : Addr) : Prop where
 ini : PySem.W.findIn K (.ref C) "__init__" = some (some (.ref fI))
 ty : PySem.W.typeIn K (.ref fI) = some (.type "function")
 ga : PySem.W.specialIn K (.ref C) "__getattribute__" = some (some (.builtin "type.__getattribute__"))
 rd : PySem.W.readsIn K C (.type "type") = true
 fd : PySem.W.findCls K (.ref C) (.type "type") "__init__" = some (.val (.ref fI))
 kp : PySem.W.keepIn K (.ref fI) = true
def eciB (K : PySem.W.Frag) (C fI : Addr) : Bool := decide (PySem.W.findIn K (.ref C) "__init__" = some (some (.ref fI))) && (decide (PySem.W.typeIn K (.ref fI) = some (.type "function")) &&
 (decide (PySem.W.specialIn K (.ref C) "__getattribute__" = some (some (.builtin "type.__getattribute__"))) && (PySem.W.readsIn K C (.type "type") && ((match PySem.W.findCls K (.ref C) (.type "type") "__init__" with
  | some (.val (.ref f)) => decide (f = fI)
  | _ => false) && PySem.W.keepIn K (.ref fI)))))
theorem eciB_ok {K : PySem.W.Frag} {C fI : Addr} (h : eciB K C fI = true) : EcI K C fI := by
 unfold eciB at h
 simp only [Bool.and_eq_true, decide_eq_true_eq] at h
 obtain ⟨h1, h2, h3, h4, h5, h6⟩ := h
 refine ⟨h1, h2, h3, h4, ?_, h6⟩
 split at h5
 ·rename_i f e
  rw [e, of_decide_eq_true h5]
 ·cases h5
structure ClG (P : Program) (w : World) (K : PySem.W.Frag) (mg : Str → Option Value) (base : Heap) (k : Nat) (x : Str) (C : Addr) (sp : Sp) : Prop where
 m : mg x = some (.ref C)
 ec : EcC K C
 ex : ∃ (fI : Addr) (fd : FuncData) (ps : List Str), FnG P w K mg base CX0 k fI fd ps sp ∧ EcI K C fI ∧ Binds K fd ps []
section
variable {X : Cx} {k j : Nat} {x : Str} {C : Addr} {sp : Sp} {p p1 p2 pos : Pos} {e : Expr} {es : List Expr} {t ta : TA}
theorem pe_fini {pl : Sem Bool} (c : ClG X.prog X.w X.K X.mg X.base k x C sp) (hr : RoomG j X.A) (hg : Gl X x) (ha : PA X (e :: es) t) (hk : k ≤ j := by first | decide | omega)
  (hdb : (x == ("__debug__" : Str)) = false := by decide)
  (hc : eval (.Call (.Attribute (.Name x p1) "__init__" p2) (e :: es) [] pos) X.env = (do
   let ov ← eval (.Name x p1) X.env
   standAt p2.atName
   let (f, first) ← holding [ov] (getMethod ov "__init__" pl)
   callWith pos f first (backTo pos (starEach (e :: es) X.env)) (backToKw pos (keywordEach [] X.env))) := by rfl)
  (hst : starEach (e :: es) X.env = (false, eval e X.env) :: starEach es X.env := by rfl) (hnp : (backTo pos (starEach es X.env)).any (·.1) = false := by rfl) :
  PE X (.Call (.Attribute (.Name x p1) "__init__" p2) (e :: es) [] pos) (tCall sp [] E0 t) := by
 obtain ⟨fI, fd, ps, F, ci, b⟩ := c.ex
 refine ⟨fun pins s σ H Q I h => ?_⟩
 refine PySem.W.methodCall_KW (ld_glob I hg c.m ?_ hdb) hc
 refine PySem.W.method_cls I.kIn ci.ga (PySem.W.cls_value I.kIn ci.rd ci.fd rfl ?_)
 have I2 := I.tok (s.toks + 1)
 refine PySem.W.callWith_K (h₀ := X.base) I2.ok.mod.kin ci.kp (thn (ha.run pos pins _ σ H _ I2 h) fun us s1 z => ?_) hst hnp
 obtain ⟨vs, H1, I1, r, q⟩ := z
 exact ⟨I1.kIn, run_fng F (hr.mono hk) b .nil pass0 I1 r q⟩
theorem RoomG.make {k : Nat} {A : Around} (hr : RoomG (k + 1) A) (C : Addr) (us : List Value) (kw : List (Str × Value)) : RoomG k (A.under (.builtin "type.__call__" ⟨.ref C :: us, kw⟩)) := ⟨hr.rm.make C us kw, hr.gd⟩
def spMk (C : Addr) (sp : Sp) (vs : List V) (H1 : Hp) (Q : VK) : Prop := vs.length ≤ 1000 ∧ ∀ a, H1 a = none → sp (.ref a :: vs) (upd H1 a (exo a C none)) (fun v H2 => v = .non ∧ Q (.ref a) H2) E0
abbrev laidE (C : Addr) (us : List Value) (s : Shared) : Shared := { s with heap := (s.heap.push (PySem.W.kdv_tup us)).push (PySem.HandSPX.excO C s.heap.objs.size) }
theorem laidE_keeps {us : List Value} {s : Shared} (a : Addr) (o : Obj) (e : s.heap.get? a = some o) : (laidE C us s).heap.get? a = some o := Heap.get?_push_of_some _ (Heap.get?_push_of_some _ e)
theorem laidE_inv {us : List Value} {pins : List (Addr × Obj)} {σ : L2.St} {H : Hp} {s : Shared} (I : Inv X pins σ H s) : Inv X pins σ (upd H (s.heap.objs.size + 1) (exo (s.heap.objs.size + 1) C none)) (laidE C us s) :=
 I.laid (t' := s.toks) laidE_keeps (Nat.le_succ _) (exo_ok (by heap_get))
theorem exn_runs (c : ClG X.prog X.w X.K X.mg X.base k x C sp) (hr : RoomG j X.A) (hk : k + 1 ≤ j) {pins : List (Addr × Obj)} {σ : L2.St} {H : Hp} {s : Shared} {Q E : Value → Shared → Prop} {Qi : VK} {vs : List V} {us : List Value} (I : Inv X pins σ H s) (r : Vals vs us) (few : vs.length ≤ 1000)
  (prom : sp (.ref (s.heap.objs.size + 1) :: vs) (upd H (s.heap.objs.size + 1) (exo (s.heap.objs.size + 1) C none)) Qi E0)
  (on : ∀ u z, CE X.stack X.prog X.w (upd H (s.heap.objs.size + 1) (exo (s.heap.objs.size + 1) C none)) (laidE C us s) Qi u z → u = .none ∧ Q (.ref (s.heap.objs.size + 1)) z) :
  wpAny (model X.prog X.w) X.A (call (.ref C) us) Q E s := by
 obtain ⟨fI, fd, ps, Fn, ci, binds⟩ := c.ex
 have J := laidE_inv (C := C) (us := us) I
 have all : Vals (V.ref (s.heap.objs.size + 1) :: vs) (Value.ref (s.heap.objs.size + 1) :: us) := .cons rfl r
 have count : (Value.ref (s.heap.objs.size + 1) :: us ++ []).length = ps.length := (congrArg List.length (List.append_nil _)).trans (all.length.symm.trans (Fn.len _ _ _ _ prom))
 have small : us.length ≤ sizeLine := by rw [← r.length, sizeLine_eq]; omega
 have bound := List.append_nil (Value.ref (s.heap.objs.size + 1) :: us) ▸ binds (laidE C us s) (Value.ref (s.heap.objs.size + 1) :: us) J.kIn count
 have body := Fn.go _ X.stack (laidE C us s) _ ⟨Value.ref (s.heap.objs.size + 1) :: us, []⟩ _ _ Qi E0 ((hr.mono hk).make C us []) (J.env0.make C us []) bound all prom
 obtain ⟨_, _, _, _, bm, _, _, _, _, _, _, _, _, _, _, at_C, same⟩ := c.ec.oe.cls
 refine wpAny_call (PySem.HandSPX.call_own F.excBase_ValueError (fun Y => PySem.HandSPX.refsVE_contains Y bm same) (I.kIn _ _ at_C) (PySem.W.looks_findIn I.kIn ci.ini) (fun self => PySem.W.bind_fn I.kIn self ci.ty) small (codeAny_mono body fun res z hz => ?_))
 match res, hz with
 | .ok (.ret u), hz => exact on u z hz
 | .ok .next, hz => exact absurd hz id
 | .ok .brk, hz => exact absurd hz id
 | .ok .cont, hz => exact absurd hz id
 | .error _, hz => exact absurd hz id
def tMkE (C : Addr) (sp : Sp) (ta : TA) : TE := fun σ H Q => ta σ H fun vs H1 => spMk C sp vs H1 Q
def tXat (K : PySem.W.Frag) (n : Str) (te : TE) : TE := fun σ H Q => te σ H fun x H1 => ∃ (a C d : Addr) (fs : List (Str × V)) (v : V), x = .ref a ∧ EcC K C ∧ PySem.W.findIn K (.ref C) n = some none ∧ H1 a = some (exo a C (some d)) ∧ H1 d = some (exd d fs) ∧ fs.lookup n = some v ∧ Q v H1
end
end SL
namespace PySem.W
open PySem PySem.Spec PySem.Calls PyProof.Rows
section
variable {prog : Program} {w : World} {A : Around} {E : Value → Shared → Prop} {s : Shared} {K : Frag} {x D : Addr} {ox : Obj} {od : Option Obj}
theorem sl_kitx (C : L2.ExcC K D) : KitX K (.ref x) (.ref D) (fun h => InstAt h x ox D od) :=
 kitx_exc ((any_some C.hd).elim fun _ h => by rw [h.1]; rfl) C.hg C.hk C.hs C.ha C.hn C.ht C.hm
end
end PySem.W
namespace SL
open PySem PySem.Spec PyProof.Rows L2
def rIsS (K : PySem.W.Frag) (a : Addr) (cls : Value) (d : Option Addr) : List V → Hp → VK → Prop := fun xs H Q => ∃ (C dd : Addr) (fs : List (Str × V)) (c : V) (cv : Value) (b : Bool), xs = [.ref a, c] ∧ cls = .ref C ∧ d = some dd ∧ H dd = some (.xd fs) ∧ EcC K C ∧ (∀ u, RelV c u → u = cv) ∧ PySem.W.kitOne K (.ref C) cv = some b ∧ Q (.bl b) H
theorem call_isS {X : Cx} {a : Addr} {oe : Obj} {cls : Value} {d : Option Addr} {pn : List (Addr × Obj)} (hz : Zc cls d oe) (hf : ∃ vs, oe.data = .fields vs) : CallR (X.suite a ((a, oe) :: pn)) (.builtin "isinstance") (rIsS X.K a cls d) := by
 intro pins s σ H xs us Q I r h
 obtain ⟨C, dd, fs, c, cv, b, rfl, rfl, rfl, hd, T, hcv, e, q⟩ := h
 cases r with
 | cons rx rr =>
  cases rr with
  | cons rt rr =>
   cases rr
   cases rx
   have ec := hcv _ rt
   subst ec
   obtain ⟨hget, _⟩ := I.pin (a, oe) (List.mem_append.mpr (.inl List.mem_cons_self))
   obtain ⟨vs, hv⟩ := hf
   have hx : ObjOk X.prog X.w H s.heap dd (.xd fs) := I.hok dd _ hd
   obtain ⟨mA, hns, hr⟩ := hx
   obtain ⟨od, ho, hl⟩ := lookIn_ns hns
   have J : PySem.W.InstAt s.heap a oe C (some od) := ⟨hget, hz.1, by unfold PySem.W.notCls; rw [hv] <;> rfl, by rw [hz.2]; exact ho⟩
   exact PySem.W.kia_one (PySem.W.sl_kitx T.xc) I.kIn J e (fun z => nomatch z) fun tk => ⟨.bl b, H, I.kept (t' := tk) fun _ _ z => z, rfl, q⟩
section
variable {X : Cx} {k j : Nat} {x : Str} {C : Addr} {sp : Sp} {p p1 p2 pos : Pos} {e : Expr} {es : List Expr} {t ta : TA}
def tMkX (C : Addr) (sp : Sp) (ta : TA) : L2.St → Hp → XK → Prop := fun σ H Q => ta σ H fun vs H1 => vs.length ≤ 1000 ∧ ∀ a, H1 a = none → sp (.ref a :: vs) (upd H1 a (exo a C none))
 (fun v H2 => v = .non ∧ ∃ (d : Addr) (fs : List (Str × V)), H2 a = some (exo a C (some d)) ∧ H2 d = some (exd d fs) ∧ H1 d = none ∧ Q (.ref C) (some d) (upd (del H2 a) d (.xd fs))) E0
theorem mkX_ok (c : ClG X.prog X.w X.K X.mg X.base k x C sp) (hr : RoomG j X.A) (hk : k + 1 ≤ j) {pins : List (Addr × Obj)} {σ : L2.St} {H1 : Hp} {s1 : Shared} {Q : XK} {vs : List V} {us : List Value} (I1 : Inv X pins σ H1 s1) (r1 : Vals vs us)
  (q : vs.length ≤ 1000 ∧ ∀ a, H1 a = none → sp (.ref a :: vs) (upd H1 a (exo a C none)) (fun v H2 => v = .non ∧ ∃ (d : Addr) (fs : List (Str × V)), H2 a = some (exo a C (some d)) ∧ H2 d = some (exd d fs) ∧ H1 d = none ∧ Q (.ref C) (some d) (upd (del H2 a) d (.xd fs))) E0) :
  wpAny (model X.prog X.w) X.A (call (.ref C) us) (MkP X pins σ Q) X.xe s1 :=
 exn_runs c hr hk I1 r1 q.1 (q.2 _ (I1.hok.fresh (Nat.le_succ _))) fun u z hz => by
  obtain ⟨v, H2, same_os, bare, un, hok, rv, rfl, d, fs, at_a, at_d, free, q2⟩ := hz
  exact ⟨rv, mk_end (raises_own c.ec.oe.exC c.ec.oe.tyC) I1 (Nat.le_succ _) laidE_keeps un hok same_os bare at_a at_d free q2⟩
theorem pmk_mkX (c : ClG X.prog X.w X.K X.mg X.base k x C sp) (hr : RoomG j X.A) (hg : Gl X x) (ha : PA X (e :: es) ta) (hk : k + 1 ≤ j := by first | decide | omega)
  (hdb : (x == ("__debug__" : Str)) = false := by decide) (hst : starEach (e :: es) X.env = (false, eval e X.env) :: starEach es X.env := by rfl) (hnp : (backTo pos (starEach es X.env)).any (·.1) = false := by rfl) :
  PMk X (.Call (.Name x p) (e :: es) [] pos) (tMkX C sp ta) := by
 intro pins s σ H Q I h
 refine wpAny_Call_Name_kw (ld_glob I hg c.m ?_ hdb)
 refine PySem.W.callWith_K (h₀ := X.base) I.ok.mod.kin c.ec.oe.kC (thn (ha.run pos pins s σ H _ I h) fun us s1 ⟨vs, H1, I1, r1, q1⟩ => ⟨I1.kIn, ?_⟩) hst hnp
 exact mkX_ok c hr hk I1 r1 q1
end
structure CalX (P : Program) (w : World) (K : PySem.W.Frag) (mg : Str → Option Value) (base : Heap) (k : Nat) (x : Str) (sp : Sp) : Prop where
 ex : ∃ (f : Addr) (fd : FuncData) (ps : List Str), FnG P w K mg base (L2.CX P w) k f fd ps sp ∧ mg x = some (.ref f) ∧ PySem.W.keepIn K (.ref f) = true ∧ Binds K fd ps []
theorem calX_of {P : Program} {w : World} {K : PySem.W.Frag} {mg : Str → Option Value} {base : Heap} {k : Nat} {x : Str} {sp : Sp} {f : Addr} {fd : FuncData} {ps : List Str} (F : FnG P w K mg base (L2.CX P w) k f fd ps sp) (m : mg x = some (.ref f)) (kp : PySem.W.keepIn K (.ref f) = true) (b : Binds K fd ps []) : CalX P w K mg base k x sp := ⟨f, fd, ps, F, m, kp, b⟩
section
variable {X : Cx} {k j : Nat} {x : Str} {sp : Sp} {p pos : Pos} {e : Expr} {es : List Expr} {t : TA} {W : WX}
theorem pe_calX (c : CalX X.prog X.w X.K X.mg X.base k x sp) (tk : Takes X W) (hr : RoomG j X.A) (hg : Gl X x) (ha : PA X (e :: es) t) (hk : k ≤ j := by first | decide | omega)
  (hdb : (x == ("__debug__" : Str)) = false := by decide) (hst : starEach (e :: es) X.env = (false, eval e X.env) :: starEach es X.env := by rfl) (hnp : (backTo pos (starEach es X.env)).any (·.1) = false := by rfl) :
  PE X (.Call (.Name x p) (e :: es) [] pos) (tCallS sp (WE W) t) := by
 obtain ⟨f, fd, ps, F, hm, kp, b⟩ := c.ex
 constructor
 intro pins s σ H Q I h
 refine wpAny_Call_Name_kw (ld_glob I hg hm (PySem.W.callWith_K (h₀ := X.base) I.ok.mod.kin kp (thn (ha.run pos pins s σ H _ I h) fun us s1 z => ?_) hst hnp) hdb)
 obtain ⟨vs, H1, I1, r, q⟩ := z
 refine ⟨I1.kIn, ?_⟩
 have ln : us.length = ps.length := r.length.symm.trans (F.len _ _ _ _ q)
 have b2 := b s1 us I1.kIn (by rw [List.append_nil]; exact ln)
 rw [List.append_nil] at b2
 refine wpAny_call (codeAny_mono (F.go X.A X.stack s1 H1 ⟨us, []⟩ us vs Q (WE W σ) (hr.mono hk) I1.env0 b2 r q) fun res s2 hq => ?_)
 cases res with
 | ok fl =>
  cases fl with
  | ret u => exact I1.after hq
  | _ => exact hq.elim
 | error z => exact passAt tk σ pins H1 s1 z s2 I1 hq
end
end SL
namespace SL
open PySem PySem.Spec PyProof.Rows L2
def tXs (K : PySem.W.Frag) (a : Addr) (cls : Value) (d : Option Addr) (n : Str) (te : TE) : TE := fun σ H Q => te σ H fun x H1 => x = .ref a ∧ ∃ (C dd : Addr) (fs : List (Str × V)) (v : V), cls = .ref C ∧ d = some dd ∧ EcC K C ∧ PySem.W.findIn K (.ref C) n = some none ∧ H1 dd = some (.xd fs) ∧ fs.lookup n = some v ∧ Q v H1
theorem pe_xs {X : Cx} {a : Addr} {oe : Obj} {cls : Value} {d : Option Addr} {pn : List (Addr × Obj)} {e : Expr} {te : TE} {pos : Pos} (n : Str)
  (hz : Zc cls d oe) (hf : ∃ vs, oe.data = .fields vs) (he : PE (X.suite a ((a, oe) :: pn)) e te) (hb : attributeBase e n X.env (eval e X.env) = eval e X.env := by rfl) :
  PE (X.suite a ((a, oe) :: pn)) (.Attribute e n pos) (tXs X.K a cls d n te) := ⟨fun pins s σ H Q I h => attr_of hb (thn (he.run pins s σ H _ I h) fun got z hz1 => by
 obtain ⟨_, H1, J, same, rfl, C, dd, fs, v, rfl, rfl, cl, none_own, at_dd, val, q⟩ := hz1
 cases (show got = Value.ref a from same)
 have ⟨_, dat⟩ := hf
 have ⟨names, is_ns, rel⟩ : ObjOk X.prog X.w H1 z.heap dd (.xd fs) := J.hok dd _ at_dd
 have ⟨od, at_od, look⟩ := lookIn_ns is_ns
 have ⟨_, there, ru⟩ := RelO.some_of (v := v) (o := names n) (val ▸ rel n)
 have pinned := (J.pin (a, oe) (List.mem_append.mpr (.inl (.head _)))).1
 have no_cls : PySem.W.notCls oe = true := by unfold PySem.W.notCls; rw [dat] <;> rfl
 exact HandSPX.exc_get J.kIn (⟨pinned, hz.1, no_cls, hz.2 ▸ at_od⟩ : PySem.W.InstAt z.heap a oe C (some od)) cl.xf.ga cl.xf.gg cl.xf.exC (PySem.W.findObj_own cl.xf.hdC none_own rfl ((look n).trans (congrArg some there))) (handed_of ru) ⟨v, H1, J.tok _, ru, q⟩)⟩
def tRs (t : L2.St → Hp → XK → Prop) (W : WX) : TS := fun _ σ H => t σ H fun cls d H' => W cls d σ H'
theorem ps_rs {X : Cx} {W : WX} {e : Expr} {t : L2.St → Hp → XK → Prop} {pos : Pos} (hc : X.calm = true) (tk : Takes X W) (he : PMk X e t) : PS X (.Raise (some e) none pos) (tRs t W) := ps_raise hc tk he
def tTry (K : PySem.W.Frag) (c : Value) (i : Nat) (tb : WX → TS) (ts : Addr → Value → Option Addr → TS) (Wout : WX) : TS := fun D σ H => tb (wAs K c i ts Wout D) D σ H
theorem ps_tryK {X : Cx} {K : PySem.W.Frag} {x n : Str} {c : Value} {i : Nat} {body suite : List Stmt} {b₀ : Stmt} {np pos pos' : Pos} {tb : WX → TS} {ts : Addr → Value → Option Addr → TS} {Wout : WX} (eK : X.K = K)
  (hs : X.stack = X.env :: X.outer) (hf : X.env.frame = some X.env.locals) (hN : X.N.Nodup) (hi : X.N[i]? = some n) (hln : X.env.kindOf n = some .local) (hc : Names X x c) (tk : Takes X Wout)
  (hb : ∀ (W : WX) (pn : List (Addr × Obj)) (xe : Value → Shared → Prop), Takes (X.tr pn xe) W → PassesOwn (model X.prog X.w) X.A X.env xe → PSs (X.tr pn xe) body (tb W))
  (hsu : ∀ (a : Addr) (oe : Obj) (cls : Value) (d : Option Addr) (pn : List (Addr × Obj)), Zc cls d oe → (∃ vs, oe.data = .fields vs) → PSs (X.suite a ((a, oe) :: pn)) (b₀ :: suite) (ts a cls d)) :
  PS X (.Try body [.ExceptHandler (some (.Name x np)) (some n) (b₀ :: suite) pos'] [] [] pos) (tTry K c i tb ts Wout) := by
 subst eK
 exact ps_try_as hs hf hN hi hln hc tk hb hsu
theorem find_VE (K : PySem.W.Frag) : PySem.W.findCls K (.type "ValueError") (.type "type") "__init__" = some (.val (.builtin "ValueError.__init__")) := by kernel_rfl
section
variable {X : Cx} {K : PySem.W.Frag} {e : Expr} {st : Stmt} {ta : TA} {te to : TE} {f : Str} {a : Addr} {cls : Value} {d : Option Addr} {σ : L2.St} {H : Hp} {Q : VK} {D : Ends}
theorem kVeI (q : X.K = K) (h : PE X e (tVeI X.K ta)) : PE X e (tVeI K ta) := q ▸ h
theorem kOst (q : X.K = K) (h : PS X st (tOst X.K f to te)) : PS X st (tOst K f to te) := q ▸ h
theorem kXs (q : X.K = K) (h : PE X e (tXs X.K a cls d f te)) : PE X e (tXs K a cls d f te) := q ▸ h
theorem g_vei (q : ta σ H fun vs H1 => ∃ (a C : Addr) (ws : List V), vs = .ref a :: ws ∧ ws.length ≤ 1000 ∧ OexC K C ∧ H1 a = some (exo a C none) ∧ Q .non H1) : tVeI K ta σ H Q := q
theorem g_ost (q : te σ H fun y H1 => to σ H1 fun x H2 => ∃ a C : Addr, x = .ref a ∧ OexC K C ∧ PySem.W.findIn K (.ref C) f = some none ∧
 ((H2 a = some (exo a C none) ∧ ∀ dx, H2 dx = none → dx ≠ a → D.nx σ (upd (upd H2 dx (exd dx [(f, y)])) a (exo a C (some dx)))) ∨
  ∃ (dx : Addr) (fs : List (Str × V)), H2 a = some (exo a C (some dx)) ∧ H2 dx = some (exd dx fs) ∧ fs.length ≤ 900 ∧ D.nx σ (upd H2 dx (exd dx ((f, y) :: fs))))) : tOst K f to te D σ H := q
theorem g_xat (q : te σ H fun x H1 => ∃ (a C d : Addr) (fs : List (Str × V)) (v : V), x = .ref a ∧ EcC K C ∧ PySem.W.findIn K (.ref C) f = some none ∧ H1 a = some (exo a C (some d)) ∧ H1 d = some (exd d fs) ∧ fs.lookup f = some v ∧ Q v H1) : tXat K f te σ H Q := q
theorem g_xs (q : te σ H fun x H1 => x = .ref a ∧ ∃ (C dd : Addr) (fs : List (Str × V)) (v : V), cls = .ref C ∧ d = some dd ∧ EcC K C ∧ PySem.W.findIn K (.ref C) f = some none ∧ H1 dd = some (.xd fs) ∧ fs.lookup f = some v ∧ Q v H1) : tXs K a cls d f te σ H Q := q
theorem g_mkE {C : Addr} {sp : Sp} (q : ta σ H fun vs H1 => spMk C sp vs H1 Q) : tMkE C sp ta σ H Q := q
theorem g_rs {t : L2.St → Hp → XK → Prop} {W : WX} (q : t σ H fun cls d H' => W cls d σ H') : tRs t W D σ H := q
theorem g_mkX {C : Addr} {sp : Sp} {Qx : XK} (q : ta σ H fun vs H1 => vs.length ≤ 1000 ∧ ∀ a, H1 a = none → sp (.ref a :: vs) (upd H1 a (exo a C none))
 (fun v H2 => v = .non ∧ ∃ (d : Addr) (fs : List (Str × V)), H2 a = some (exo a C (some d)) ∧ H2 d = some (exd d fs) ∧ H1 d = none ∧ Qx (.ref C) (some d) (upd (del H2 a) d (.xd fs))) E0) : tMkX C sp ta σ H Qx := q
theorem g_try {c : Value} {i : Nat} {tb : WX → TS} {ts : Addr → Value → Option Addr → TS} {Wout : WX} (q : tb (wAs K c i ts Wout D) D σ H) : tTry K c i tb ts Wout D σ H := q
theorem g_callS {sp : Sp} {E : L2.St → XK} (q : ta σ H fun vs H1 => sp vs H1 Q (E σ)) : tCallS sp E ta σ H Q := q
theorem g_wAs {c : Value} {i : Nat} {ts : Addr → Value → Option Addr → TS} {Wout : WX} (h : PySem.W.exmOne K cls c = some true) (q : ∀ a, H a = none → ts a cls d { nx := fun σ' H' => D.nx (σ'.set i none) H', rt := D.rt, bk := fun σ' H' => D.bk (σ'.set i none) H', ct := fun σ' H' => D.ct (σ'.set i none) H' } (σ.set i (some (.ref a))) H) :
 WE (wAs K c i ts Wout D) σ cls d H := ⟨true, h, fun _ => q, fun z => nomatch z⟩
end
theorem okX {P : Program} {w : World} {K : PySem.W.Frag} {mg : Str → Option Value} {base : Heap} {x qual : Str} {pr : Arguments} {bd : List Stmt} {sc : Scope} {dvs : List V} {kws : List (Str × V)} {f : Addr} {fd : FuncData} {N ps : List Str} {k : Nat} {sp : Sp} (F : FunD K x qual pr bd sc dvs kws f fd) (S : FnScope N ps sc) (hlen : ∀ vs H Q E, sp vs H Q E → vs.length = ps.length)
  (hb : ∀ (cdv : Value) (A : Around) (outer : List Env) (s : Shared) (H : Hp) (vs : List V) (Q : VK) (E : XK), RoomG k (A.deeper (envOfC qual sc s.heap.objs.size f cdv)) → sp vs H Q E →
   Takes (cxOf (L2.CX P w) P w K mg base N qual sc f cdv A outer s H E) (fun cls d _ H => E cls d H) →
   ∃ t, PSs (cxOf (L2.CX P w) P w K mg base N qual sc f cdv A outer s H E) bd t ∧ t { nx := fun _ H' => Q .non H', rt := Q } (start N vs) H) : FnG P w K mg base (L2.CX P w) (k + 1) f fd ps sp :=
 okG F S hlen fun cdv A outer s H vs Q E hr hsp => hb cdv A outer s H vs Q E hr hsp (takes_of rfl rfl rfl rfl)
def Made (a C : Addr) (fs : List (Str × V)) (H : Hp) (Q : VK) : Prop := ∀ (d : Addr) (H' : Hp), H d = none → d ≠ a → Fr [a] H H' → H' a = some (exo a C (some d)) → H' d = some (exd d fs) → Q .non H'
def IniAt (K : PySem.W.Frag) (a C : Addr) (f : Str) (H : Hp) : Prop := OexC K C ∧ PySem.W.findIn K (.ref C) f = some none ∧ H a = some (exo a C none)
def spL (K : PySem.W.Frag) : Sp := fun vs H Q _ => ∃ (a C : Addr) (y : V), vs = [.ref a, y] ∧ IniAt K a C "word" H ∧ Made a C [("word", y)] H Q
def spI1 (K : PySem.W.Frag) (w f : Str) : Sp := fun vs H Q _ => ∃ (a C : Addr) (y : V), vs = [.ref a, y] ∧ IniAt K a C "word" H ∧ PySem.W.findIn K (.ref C) f = some none ∧ Made a C [(f, y), ("word", .str w)] H Q
theorem nofix_exo {e C : Addr} {d : Option Addr} : ¬ Fix (exo e C d) := fun z => z
theorem Fr.exd {H : Hp} {a d C : Addr} {o u : HO} (hd : H d = none) (ha : H a = some (exo a C none)) : Fr [a] H (upd (upd H d o) a u) := (Fr.new hd).trans (Fr.mut List.mem_cons_self (by rw [upd_ne (ne_of_none ha hd)]; exact ha) nofix_exo)
theorem mkX_I1 {K : PySem.W.Frag} {C : Addr} {w f : Str} {y : V} {H : Hp} {Qx : XK} (T : EcC K C) (h1 : PySem.W.findIn K (.ref C) "word" = some none) (h2 : PySem.W.findIn K (.ref C) f = some none)
  (q : ∀ (d : Addr) (H' : Hp), Fr [] H H' → H' d = some (.xd [(f, y), ("word", .str w)]) → Qx (.ref C) (some d) H') :
  [y].length ≤ 1000 ∧ ∀ a, H a = none → spI1 K w f (.ref a :: [y]) (upd H a (exo a C none)) (fun v H2 => v = .non ∧ ∃ (d : Addr) (fs : List (Str × V)), H2 a = some (exo a C (some d)) ∧ H2 d = some (exd d fs) ∧ H d = none ∧ Qx (.ref C) (some d) (upd (del H2 a) d (.xd fs))) E0 :=
 ⟨Nat.le_of_ble_eq_true rfl, fun a ha => ⟨a, C, y, rfl, ⟨T.oe, h1, upd_same⟩, h2, fun d H' hd hne fr e1 e2 => ⟨rfl, d, _, e1, e2, by rw [upd_ne hne] at hd; exact hd, q d _ (fun b o hb _ => by
  have hb2 : b ≠ a := ne_of_none hb ha
  have hd2 : H d = none := by rw [upd_ne hne] at hd; exact hd
  rw [upd_ne (ne_of_none hb hd2), del_ne hb2]
  exact fr b o (by rw [upd_ne hb2]; exact hb) (.inl fun z => hb2 (List.mem_singleton.mp z))) upd_same⟩⟩⟩
end SL
namespace SL
open PySem PySem.Spec PyProof.Rows L2
section
variable {K : PySem.W.Frag} {σ : L2.St} {H : Hp} {Q : VK} {ta tb tc te : TE} {r r' : R2}
theorem g_chain (q : ta σ H fun x H1 => tb σ H1 fun y H2 => r x y H2 fun z H3 => ∃ k, z = .bl k ∧ (if k = true then tc σ H3 fun w' H4 => r' y w' H4 Q else Q (.bl false) H3)) : tChain r r' ta tb tc σ H Q := q
theorem g_rU {f : Int → V} {i : Int} (q : Q (f i) H) : rU f (.int i) H Q := ⟨i, rfl, q⟩
theorem g_istr {S : It → Hp → Prop} (q : te σ H fun v H1 => ∃ x, v = .str x ∧ S (Its x) H1) : iStr te σ H S := q
theorem g_leS {a b : Str} (q : Q (.bl (!decide (b.cps.toList < a.cps.toList))) H) : uLe (.str a) (.str b) H Q := q
end
end SL
namespace SL
open PySem PySem.Spec PyProof.Rows L2 He
def asY (g : Addr → Option Obj) (n : Nat) : List Addr := He.asD g n ++ [cStatics]
structure SaysY (fa : List Fa) (fn : List DefD) (ts : List Tab) (ex : PySem.W.Frag → Bool) (w : World) (K : PySem.W.Frag) : Prop where
 t : SaysT fa fn ts w K
 more : ex K = true
def obsY (n : Nat) (fa : List Fa) (fn : List DefD) (ts : List Tab) (ex : PySem.W.Frag → Bool) (g : Addr → Option Obj) : AlX := (obsT fa fn ts (frG g (asY g n)), ex (frG g (asY g n)))
def hookY (n : Nat) (fa : List Fa) (fn : List DefD) (ts : List Tab) (ex : PySem.W.Frag → Bool) : PySem.W.Hook where
 α := AlX
 obs := fun s => obsY n fa fn ts ex s.heap.get?
 val := fun w => (valT fn ts w, true)
 says := fun w h => ∃ K : PySem.W.Frag, K.In h ∧ SaysY fa fn ts ex w K
 of := fun _ _ e => ⟨_, frG_in, ⟨congrArg (fun z : AlX => z.1) e, congrArg (fun z : AlX => z.2) e⟩⟩
 keeps := fun _ _ _ ⟨K, hK, c⟩ k => ⟨K, PySem.W.Frag.In.keeps hK k, c⟩
theorem obsY_eq {n : Nat} {fa : List Fa} {fn : List DefD} {ts : List Tab} {ex : PySem.W.Frag → Bool} {g : Addr → Option Obj} {s : Shared} (h : ∀ a, g a = s.heap.get? a) : obsY n fa fn ts ex g = (hookY n fa fn ts ex).obs s := by
 have e : g = s.heap.get? := funext h
 rw [e] <;> rfl
end SL
set_option Elab.async false
set_option linter.all false
set_option maxRecDepth 100000
set_option maxHeartbeats 2000000
namespace SL
open PySem PySem.Spec PySem.W PyProof.Rows L2
abbrev Bod := (Hp → Prop) → L2.St → Hp → Prop
abbrev bad (P : Program) (w : World) (A : Around) (env : Env) (R : Result → Shared → Prop) : Value → Shared → Prop := notedBy (model P w) A env fun e z => R (.error e) z
def Rounds (J : It) (g : TG) (b : Bod) (vs : List Nat) (σ : L2.St) (H0 : Hp) (Dn : Hp → Prop) : Prop :=
 ∃ (n : Nat) (Pv : Nat → Hp → Prop), Pv 0 H0 ∧ (∀ H, Pv n H → J.stop n H ∧ Dn H) ∧ ∀ i H, i < n → Pv i H → J.go i H ∧
  ∀ x H', J.yld i H x H' → g x (wipe σ vs) H' fun σ2 H2 => wipe σ2 vs = wipe σ vs ∧ b (Pv (i + 1)) σ2 H2
section
variable {Y : Cx} {pins : List (Addr × Obj)}
end
section
variable {X : Cx}
end
end SL
set_option Elab.async false
set_option linter.all false
set_option maxRecDepth 100000
set_option maxHeartbeats 2000000
namespace SL
open PySem PySem.Spec PySem.W PyProof.Rows L2
structure Clause (P : Program) (w : World) (c : Expr) (k : Nat) (acc : Value) (env : Env) (g : Comprehension) : Prop where
 at_k : (clausesOf c)[k]? = some g
 plain : g.is_async = 0
 quiet : ∀ it, (Code.compLoop c k it acc env).quiet = true
 turn : ∀ it, (model P w).den (.compLoop c k it acc env) = (compTurn c k it acc env).onRaise fun x => do noteFrame x env; theTreesLotGoes x
 start : ∀ it, (model P w).den (.compStart c k it acc env) = (compStart c k it acc env).onRaise fun x => do noteFrame x env; standAt theWindowsPlace
 under : ∀ (A : Around) it, A.under (.compLoop c k it acc env) = A ∧ A.under (.compStart c k it acc env) = A
section
variable {P : Program} {w : World} {A : Around} {c : Expr} {k : Nat} {acc : Value} {env : Env} {g : Comprehension}
end
abbrev ifB (tt : TT) (b : Bod) : Bod := fun Nx σ H => tt σ H fun t H1 => if t = true then b Nx σ H1 else Nx H1
abbrev putB (tk tv : TE) (D : Addr) : Bod := fun Nx σ H => tk σ H fun y H1 => tv σ H1 fun z H2 => ∃ kvs k, y = kV k ∧ H2 D = some (.dK kvs) ∧ kvs.length < sizeLine ∧ Nx (upd H2 D (.dK (putK kvs k z)))
section
variable {P : Program} {w : World} {env : Env} {kx vx tg iter tg1 iter1 elt : Expr} {ifs ifs1 : List Expr} {scope : Scope} {pos : Pos} {D : Addr}
end
abbrev innerB (wi1 : TI) (g1 : TG) (b1 : Bod) (vs1 : List Nat) : Bod := fun Nx σ H => wi1 σ H fun J1 H1 => Rounds J1 g1 b1 vs1 σ H1 Nx
section
variable {X : Cx}
def tDc2 (wi : TI) (g : TG) (tt : TT) (wi1 : TI) (g1 : TG) (tt1 : TT) (tk tv : TE) (vs vs1 : List Nat) : TE := fun σ H Q => wi σ H fun J H1 => ∀ D, H1 D = none →
 Rounds J g (ifB tt (innerB wi1 g1 (ifB tt1 (putB tk tv D)) vs1)) vs σ (upd H1 D (.dK [])) fun H => Q (.ref D) H
end
end SL
set_option Elab.async false
set_option linter.all false
set_option maxRecDepth 100000
set_option maxHeartbeats 2000000
namespace SL
open PySem PySem.Spec PyProof.Rows L2
section
variable {prog : Program} {w : World} {A : Around} {E : Value → Shared → Prop} {s : Shared}
end
def IteT (K : PySem.W.Frag) (a : Addr) : It :=
 ⟨fun i H => ∃ (xs : List V) (x : V), SqT K H a xs ∧ xs[i]? = some x, fun i H v H' => ∃ T x, v = .ref T ∧ H T = none ∧ H' = upd H T (.tup [.int (i : Nat), x]) ∧ ∀ xs, SqT K H a xs → xs[i]? = some x, fun i H => ∃ xs : List V, SqT K H a xs ∧ xs.length ≤ i⟩
structure EnumT (a e it : Addr) (i : Nat) (h : Heap) : Prop where
 outer : ∃ old, IsEnum h e it ((i : Nat) : Int) old
 inner : h.IsTupleIter it a i
 apart : e ≠ it ∧ a ≠ it ∧ e ≠ a
def iEnumT (K : PySem.W.Frag) (ta : TA) : TI := fun σ H R => ta σ H fun vs H1 => ∃ a xs, vs = [.ref a] ∧ SqT K H1 a xs ∧ R (IteT K a) H1
end SL
namespace SL
open PySem PySem.Spec PyProof.Rows L2
theorem g_ienT {H : Hp} {σ : L2.St} {K : PySem.W.Frag} {R : It → Hp → Prop} {ta : TA} (q : ta σ H fun vs H1 => ∃ a xs, vs = [.ref a] ∧ SqT K H1 a xs ∧ R (IteT K a) H1) : iEnumT K ta σ H R := q
theorem g_dc2 {σ : L2.St} {H : Hp} {Q : VK} {wi wi1 : TI} {g g1 : TG} {tt tt1 : TT} {tk tv : TE} {vs vs1 : List Nat} (q : wi σ H fun J H1 => ∀ D, H1 D = none → Rounds J g (ifB tt (innerB wi1 g1 (ifB tt1 (putB tk tv D)) vs1)) vs σ (upd H1 D (.dK [])) fun H => Q (.ref D) H) : tDc2 wi g tt wi1 g1 tt1 tk tv vs vs1 σ H Q := q
end SL
set_option Elab.async false
set_option linter.all false
set_option maxRecDepth 100000
set_option maxHeartbeats 2000000
namespace SL
open PySem PySem.Spec PySem.W PyProof.Rows
section
variable {prog : Program} {w : World} {A : Around} {s : Shared}
end
open L2
def Keys (sp : Sp) (K : PySem.W.Frag) (H : Hp) (xs : List V) (ds : List PyData) : Prop :=
 ∀ (j : Nat) (x : V) (d : PyData), xs[j]? = some x → ds[j]? = some d → ∀ (H' : Hp) (Q : VK), SL.Fr [] H H' → (∀ y H2, SL.Fr [] H' H2 → Dp K H2 y d → Q y H2) → sp [x] H' Q E0
section
variable {X : Cx} {pins : List (Addr × Obj)} {σ : L2.St} {H : Hp} {s : Shared} {f : Addr} {fd : FuncData} {ps : List Str} {sp : Sp} {k : Nat}
end
structure CalF (P : Program) (w : World) (K : PySem.W.Frag) (mg : Str → Option Value) (base : Heap) (k : Nat) (x : Str) (f : Addr) (sp : Sp) : Prop where
 m : mg x = some (.ref f)
 ex : ∃ (fd : FuncData) (ps : List Str), FnG P w K mg base CX0 k f fd ps sp ∧ PySem.W.keepIn K (.ref f) = true ∧ Binds K fd ps []
theorem CalF.g {P : Program} {w : World} {K : PySem.W.Frag} {mg : Str → Option Value} {base : Heap} {k : Nat} {x : Str} {f : Addr} {sp : Sp} (D : CalF P w K mg base k x f sp) : CalG P w K mg base k x sp := by
 obtain ⟨fd, ps, F, kp, b⟩ := D.ex
 exact ⟨f, fd, ps, F, D.m, kp, b⟩
end SL
set_option Elab.async false
set_option linter.all false
set_option maxRecDepth 100000
set_option maxHeartbeats 2000000
namespace SL
open PySem PySem.Spec PyProof.Rows L2
structure MetG (P : Program) (w : World) (K : PySem.W.Frag) (mg : Str → Option Value) (base : Heap) (CX : CXT) (k : Nat) (C : Addr) (m : Str) (dvs : List V) (sp : Sp) : Prop where
 cls : Cls K C
 ex : ∃ (f : Addr) (fd : FuncData) (ps : List Str) (ds : List Value), Meth K C m f ∧ FnG P w K mg base CX k f fd ps sp ∧ Binds K fd ps ds ∧ Vals dvs ds
section
variable {X : Cx} {k j : Nat} {C : Addr} {sp : Sp} {m : Str} {pos apos : Pos} {e o : Expr} {es : List Expr} {ta : TE} {t : TA} {W : WX} {dvs : List V}
end
section
variable {X : Cx} {K : PySem.W.Frag} {o e value ex : Expr} {f : Str} {pos pos' tpos : Pos} {ta tv : TE} {rd : V → V → Hp → VK → Prop} {st : Stmt}
variable {σ : L2.St} {H : Hp} {Q : VK} {C : Addr} {m : Str} {sp : Sp} {dvs : List V} {E : L2.St → XK} {t : TA} {D : Ends}
end
section
variable {σ : L2.St} {H : Hp} {D : Ends}
end
end SL
set_option Elab.async false
set_option linter.all false
set_option maxRecDepth 100000
set_option maxHeartbeats 2000000
namespace SL
open PySem PySem.Spec PyProof.Rows L2
section
variable {X : Cx} {k j n : Nat} {f C : Addr} {fd : FuncData} {ps ks : List Str} {sp : Sp} {x : Str} {p pos : Pos} {e : Expr} {es : List Expr} {kws : List Keyword} {t tk : TA} {g : List Value → List Value → List Value} {gV : List V → List V → List V} {W : WX}
structure MkX (P : Program) (w : World) (K : PySem.W.Frag) (mg : Str → Option Value) (base : Heap) (k : Nat) (x : Str) (C : Addr) (n : Nat) (ks : List Str) (gV : List V → List V → List V) (sp : Sp) : Prop where
 m : mg x = some (.ref C)
 ex : ∃ (f : Addr) (fd : FuncData) (ps : List Str) (g : List Value → List Value → List Value), Mk K C f ∧ FnG P w K mg base (L2.CX P w) k f fd ps sp ∧ KBn K fd ps (n + 1) ks g gV
end
end SL
set_option Elab.async false
set_option linter.all false
set_option maxRecDepth 100000
set_option maxHeartbeats 2000000
namespace SL
open PySem PySem.Spec PyProof.Rows L2 PySem.Builtin PySem.Builtin.Str
section
variable {X : Cx} {o e : Expr} {te : TE} {to tk : TE} {y : Str} {j1 j2 j3 : Nat} {c0 c1 c2 apos pos pm : Pos}
end
end SL
set_option Elab.async false
set_option linter.all false
set_option maxRecDepth 100000
set_option maxHeartbeats 4000000
namespace LW
open PySem PySem.Spec PyProof.Rows L2 SL
abbrev FnP (K : PySem.W.Frag) (x : Str) (st : Stmt) (f : Addr) (fd : FuncData) : Prop := FunD K x x (defArgs st) (defBody st) (defScope st) [] [] f fd
def topS (i : Nat) : Stmt := PySem.Challenge.pw_sightlore_k01_values_names_and_words.main.body.getD i (.Pass ⟨0, 0, 0, 0⟩)
abbrev FnM (K : PySem.W.Frag) (q : Str) (st : Stmt) (f : Addr) (fd : FuncData) : Prop := FunD K "__init__" q (defArgs st) (defBody st) (defScope st) [] [] f fd
def methS (i j : Nat) : Stmt := match topS i with
 | .ClassDef _ _ _ body _ _ _ _ _ _ _ => body.getD j (.Pass ⟨0, 0, 0, 0⟩)
 | s => s
local macro_rules | `(tactic| walk_at "q") => `(tactic| repeat walk_at "st")
local macro_rules | `(tactic| walk_at "st") => `(tactic| first
 | with_reducible refine g_seq ?_
 | ((with_reducible show tVar _ _ _ _); refine g_var rfl ?_)
 | with_reducible refine g_c ?_
 | with_reducible refine g_op ?_
 | with_reducible refine g_asg ?_
 | with_reducible refine g_name ?_
 | with_reducible refine g_if ?_
 | with_reducible refine g_test ?_
 | with_reducible refine g_k ?_
 | with_reducible refine g_ret ?_
 | with_reducible refine g_next ?_
 | with_reducible refine g_cons ?_
 | with_reducible refine g_nil ?_
 | with_reducible refine g_call ?_
 | with_reducible refine g_cb ?_
 | with_reducible refine g_addI ?_
 | with_reducible refine g_subI ?_
 | with_reducible refine g_ltI ?_
 | with_reducible refine g_leI ?_
 | with_reducible refine g_gtI ?_
 | with_reducible refine g_geI ?_
 | with_reducible refine g_eqI ?_
 | with_reducible refine g_eqS ?_
 | with_reducible refine g_eqB ?_
 | with_reducible refine g_neI ?_
 | with_reducible refine g_neS ?_
 | with_reducible refine g_neB ?_
 | ((with_reducible refine g_mulI ?h0 ?_); (case h0 => first | exact mulR (by decide) (by decide) | exact mulL (by decide) (by decide) | exact mulR (by omega) (by omega) | exact mulL (by omega) (by omega)))
 | ((with_reducible refine g_modI ?h0 ?_); (case h0 => first | decide | omega))
 | ((with_reducible refine g_divI ?h0 ?_); (case h0 => first | exact divS (by decide) (by decide) | exact divS (by omega) (by omega)))
 | ((with_reducible refine g_powI ?h0 ?_); (case h0 => exact ⟨by decide +kernel, by decide +kernel, by decide +kernel⟩))
 | ((with_reducible show rIx _ (V.ref _) (V.int _) _ _); refine g_ixL (by first | assumption | exact SqL.of (by assumption)) (by exact rfl) ?_)
 | ((with_reducible show rIx _ (V.ref _) (V.int _) _ _); refine g_ixT (by first | assumption | exact SqT.of (by assumption)) (by exact rfl) ?_)
 | ((with_reducible show uLen _ [V.ref _] _ _); first | refine g_len (.inl (SqL.of (by assumption))) ?_ | refine g_len (.inl (by assumption)) ?_ | refine g_len (.inr (by assumption)) ?_ | refine g_len (.inr (SqT.of (by assumption))) ?_)
 | with_reducible refine g_dget ?_
 | with_reducible refine g_dput ?_
 | with_reducible refine g_bm ?_
 | with_reducible refine g_bm0 ?_
 | with_reducible refine g_tyS ?_
 | ((with_reducible show tyV _ "list" (V.ref _) _ ∧ _); refine g_tyL (by first | assumption | exact SqL.of (by assumption)) ?_)
 | with_reducible refine g_pairs ?_
 | with_reducible refine g_pairs0 ?_
 | with_reducible refine g_for ?_
 | with_reducible refine g_iR1 ?_
 | with_reducible refine g_iR2 ?_
 | with_reducible refine g_iL ?_
 | with_reducible refine g_iT ?_
 | with_reducible refine g_lc ?_
 | with_reducible refine g_lc2 ?_
 | with_reducible refine g_dc ?_
 | with_reducible refine g_din ?_
 | with_reducible refine g_listRg ?_
 | with_reducible refine g_rg1 ?_
 | with_reducible refine g_izA ?_
 | with_reducible refine g_iz ?_
 | ((with_reducible show gTup _ _ _ (V.ref _) _ _ _); first | refine g_gtup (SqT.of upd_same) rfl ?_ | refine g_gtup (by first | assumption | exact SqT.of (by assumption)) rfl ?_)
 | with_reducible refine g_gcons ?_
 | with_reducible refine g_gnil ?_
 | with_reducible refine g_yes ?_
 | with_reducible refine g_andT ?_
 | with_reducible refine g_orT ?_
 | with_reducible refine g_notT ?_
 | with_reducible refine g_truB ?_
 | with_reducible refine g_and ?_
 | with_reducible refine g_or ?_
 | with_reducible refine g_not ?_
 | with_reducible refine g_ifE ?_
 | with_reducible refine g_B ?_
 | with_reducible refine g_un ?_
 | with_reducible refine g_sub ?_
 | with_reducible refine g_drop ?_
 | with_reducible refine g_sl ?_
 | with_reducible refine g_noPart ?_
 | with_reducible refine g_part ?_
 | with_reducible refine g_ki ?_
 | with_reducible refine g_fs ?_
 | with_reducible refine g_js0 ?_
 | with_reducible refine g_js ?_
 | with_reducible refine g_fmt ?_
 | with_reducible refine g_is ?_
 | with_reducible refine g_isNot ?_
 | with_reducible refine g_chain ?_
 | with_reducible refine g_istr ?_
 | with_reducible refine g_rU ?_
 | with_reducible refine g_leS ?_
 | with_reducible refine g_vei ?_
 | with_reducible refine g_dc2 ?_
 | with_reducible refine g_ienT ?_
 | with_reducible refine g_ost ?_
 | with_reducible refine g_xat ?_
 | with_reducible refine g_xs ?_
 | with_reducible refine g_mkE ?_
 | with_reducible refine g_rs ?_
 | with_reducible refine g_mkX ?_
 | with_reducible refine g_try ?_
 | with_reducible refine g_callS ?_
 | (with_reducible refine g_tup ?_)
 | (with_reducible refine g_lst ?_)
 | ((with_reducible refine g_tt ?h0 ?_); (case h0 => decide +kernel))
 | ((with_reducible refine g_ff ?h0 ?_); (case h0 => decide +kernel)))
local macro_rules | `(tactic| walk_at "sz") => `(tactic| (refine le_of ?_; (try simp only [app_len, lit_q, lit_lp, lit_rp, lit_sp, lit_cs, lit_not, lit_is, lit_if, lit_e, lit_dot]); omega))
local macro_rules | `(tactic| walk_at "fs") => `(tactic| first
 | walk_at "st"
 | (refine g_fmtS ?hz ?_; (case hz => walk_at "sz"))
 | (refine g_jsS ?hz ?_; (case hz => walk_at "sz"))
 | (refine g_addS ?hz ?_; (case hz => walk_at "sz")))
local macro_rules | `(tactic| walk_at "if") => `(tactic| ((fail_if_success (with_reducible refine g_seqIf _ _ _ _ _ _ _ ?_)); walk_at "st"))
inductive SumE where
 | val (v : V) | var (x : Str) | op (s : Str) (a b : SumE)
def SumAt (K : PySem.W.Frag) (H : Hp) : SumE → V → Prop
 | .val u, v => ∃ p, v = .ref p ∧ SqT K H p [.str "value", u]
 | .var x, v => ∃ p, v = .ref p ∧ SqT K H p [.str "var", .str x]
 | .op s a b, v => ∃ p y z, v = .ref p ∧ SqT K H p [.str s, y, z] ∧ SumAt K H a y ∧ SumAt K H b z
theorem SumAt.fr {K : PySem.W.Frag} {H H' : Hp} {M : List Addr} (e : Fr M H H') : ∀ {t : SumE} {v : V}, SumAt K H t v → SumAt K H' t v
 | .val _, _, ⟨p, h1, h2⟩ => ⟨p, h1, e.tup h2⟩
 | .var _, _, ⟨p, h1, h2⟩ => ⟨p, h1, e.tup h2⟩
 | .op _ _ _, _, ⟨p, y, z, h1, h2, h3, h4⟩ => ⟨p, y, z, h1, e.tup h2, SumAt.fr e h3, SumAt.fr e h4⟩
def isSg (s : Str) : Prop := s = "+" ∨ s = "-" ∨ s = "*"
inductive TermE where
 | any | s (e : SumE)
inductive PartE where
 | atom (no : Bool) (x : Str) (ts : List TermE) | lt (x : Str) (e : SumE) | test (s : Str) (a b : SumE)
inductive ArgE where
 | s (e : SumE) | fold (w : Str) (x : Option Str)
def SumE.d : SumE → PyData
 | .val u => .tuple [.str "value", scD u]
 | .var x => .tuple [.str "var", .str x]
 | .op s a b => .tuple [.str s, a.d, b.d]
def TermE.d : TermE → PyData
 | .any => .tuple [.str "any"]
 | .s e => e.d
def PartE.d : PartE → PyData
 | .atom no x ts => .tuple [.str (if no then "not" else "atom"), .str x, .tuple (ts.map TermE.d)]
 | .lt x e => .tuple [.str "let", .str x, e.d]
 | .test s a b => .tuple [.str "test", .str s, a.d, b.d]
def ArgE.d : ArgE → PyData
 | .s e => e.d
 | .fold w none => .tuple [.str "fold", .str w, .none]
 | .fold w (some x) => .tuple [.str "fold", .str w, .str x]
structure Tx (n : Nat) (t : Str) : Prop where
 len : t.length ≤ n
 ok : ∀ c ∈ t.cps.toList, c < 0x110000
theorem Tx.mono {m n : Nat} {t : Str} (h : Tx m t) (l : m ≤ n) : Tx n t := ⟨Nat.le_trans h.len l, h.ok⟩
theorem tl_app (a b : Str) : (a ++ b).cps.toList = a.cps.toList ++ b.cps.toList := Array.toList_append
theorem Tx.app {m n : Nat} {a b : Str} (h : Tx m a) (k : Tx n b) : Tx (m + n) (a ++ b) := ⟨by rw [app_len]; exact Nat.add_le_add h.len k.len, fun c hc => by
 rw [tl_app, List.mem_append] at hc
 exact hc.elim (h.ok c) (k.ok c)⟩
theorem empty_app (a : Str) : Str.empty ++ a = a := by
 show (⟨#[] ++ a.cps⟩ : Str) = a
 rw [Array.empty_append]
def txB (n : Nat) (t : Str) : Bool := decide (t.length ≤ n) && t.cps.toList.all (fun c => decide (c < 0x110000))
theorem Tx.lit {n : Nat} {t : Str} (h : txB n t = true) : Tx n t := by
 unfold txB at h
 simp only [Bool.and_eq_true, decide_eq_true_eq, List.all_eq_true] at h
 exact ⟨h.1, h.2⟩
theorem Tx.short {n : Nat} {t : Str} (h : Tx n t) (l : n ≤ 9000) : (reprText t).length ≤ sizeLine :=
 le_of (Nat.le_trans (StrLaws.reprText_len t fun c hc => Nat.lt_of_lt_of_le (h.ok c hc) (by decide)) (by have := h.len; omega))
theorem join_cons (y a b : Str) (r : List Str) : Txt.join y (a :: b :: r) = a ++ y ++ Txt.join y (b :: r) := by
 rw [TL.join_eq, TL.join_eq]
 rfl
theorem Tx.join {k m : Nat} {y : Str} (hy : Tx k y) : ∀ {ts : List Str}, (∀ t ∈ ts, Tx m t) → Tx (ts.length * (m + k)) (Txt.join y ts)
 | [], _ => by
  rw [TL.join_eq]
  exact ⟨Nat.zero_le _, fun c hc => nomatch hc⟩
 | [a], h => by
  rw [TL.join_eq]
  exact (h a List.mem_cons_self).mono (by simp)
 | a :: b :: r, h => by
  rw [join_cons]
  refine (((h a List.mem_cons_self).app hy).app (Tx.join hy fun t ht => h t (List.mem_cons_of_mem _ ht))).mono ?_
  simp only [List.length_cons, Nat.succ_mul]
  omega
def valT : V → Str
 | .bl b => if b then "yes" else "no"
 | .int i => toString i
 | .str x => "'" ++ x ++ "'"
 | _ => ""
def tightE : SumE → Nat
 | .op s _ _ => if s = "*" then 2 else 1
 | _ => 3
def wrapS (k : Nat) (e : SumE) (t : Str) : Str := if tightE e < k then "(" ++ t ++ ")" else t
def sumT : SumE → Str
 | .val u => valT u
 | .var x => x
 | .op s a b => wrapS (if s = "*" then 2 else 1) a (sumT a) ++ " " ++ s ++ " " ++ wrapS ((if s = "*" then 2 else 1) + 1) b (sumT b)
def termT : TermE → Str
 | .any => "_"
 | .s e => sumT e
def listT (ts : List Str) : Str := Txt.join ", " ts
def atomT (x : Str) (ts : List TermE) : Str := x ++ "(" ++ listT (ts.map termT) ++ ")"
def partT : PartE → Str
 | .atom no x ts => if no then "not " ++ atomT x ts else atomT x ts
 | .lt x e => x ++ " is " ++ sumT e
 | .test s a b => sumT a ++ " " ++ s ++ " " ++ sumT b
def argT : ArgE → Str
 | .s e => sumT e
 | .fold w none => w
 | .fold w (some x) => w ++ " " ++ x
def argsT (as : List ArgE) : Str := listT (as.map argT)
def partsT (ps : List PartE) : Str := listT (ps.map partT)
def ValG (u : V) : Prop := (∃ i : Int, u = .int i ∧ i.natAbs < 10 ^ 30) ∨ (∃ b, u = .bl b) ∨ ∃ x, u = .str x ∧ Tx 12 x
inductive SumG : Nat → SumE → Prop
 | val {n : Nat} {u : V} : ValG u → SumG n (.val u)
 | var {n : Nat} {x : Str} : Tx 12 x → SumG n (.var x)
 | op {n : Nat} {s : Str} {a b : SumE} : isSg s → SumG n a → SumG n b → SumG (n + 1) (.op s a b)
theorem SumG.up {m n : Nat} {e : SumE} (h : SumG m e) (l : m ≤ n) : SumG n e := by
 induction h generalizing n with
 | val h => exact .val h
 | var h => exact .var h
 | op hs _ _ iha ihb =>
  obtain ⟨k, rfl⟩ : ∃ k, n = k + 1 := ⟨n - 1, by omega⟩
  exact .op hs (iha (by omega)) (ihb (by omega))
inductive TermG : TermE → Prop
 | any : TermG .any
 | s {e : SumE} : SumG 0 e → TermG (.s e)
inductive PartG : PartE → Prop
 | atom {no : Bool} {x : Str} {ts : List TermE} : Tx 44 x → ts.length ≤ 4 → (∀ t ∈ ts, TermG t) → PartG (.atom no x ts)
 | lt {x : Str} {e : SumE} : Tx 12 x → SumG 1 e → PartG (.lt x e)
 | test {s : Str} {a b : SumE} : Tx 2 s → SumG 1 a → SumG 1 b → PartG (.test s a b)
inductive ArgG : ArgE → Prop
 | s {e : SumE} : SumG 0 e → ArgG (.s e)
 | fold0 {w : Str} : Tx 5 w → ArgG (.fold w none)
 | fold {w x : Str} : Tx 5 w → Tx 12 x → ArgG (.fold w (some x))
theorem tx_int {i : Int} (h : i.natAbs < 10 ^ 30) : Tx 31 (toString i : Str) := by
 refine ⟨?_, fun c hc => ?_⟩
 ·have e := int_text_length_le10 (k := 30) (by decide) h
  show (Str.ofString (toString i)).length ≤ 31
  rw [PySem.ofString_length]
  exact e
 ·have hc2 : c ∈ (Str.ofString (toString i)).cps.toList := hc
  rw [PyProof.Rows.signs_ofString, List.mem_map] at hc2
  obtain ⟨ch, _, rfl⟩ := hc2
  rcases ch.valid with h | h
  ·exact Nat.lt_trans h (by decide)
  ·exact h.2
theorem ValG.tx {u : V} (h : ValG u) : Tx 31 (valT u) := by
 rcases h with ⟨i, rfl, h⟩ | ⟨b, rfl⟩ | ⟨x, rfl, h⟩
 ·exact tx_int h
 ·cases b
  ·exact Tx.lit (by decide +kernel)
  ·exact Tx.lit (by decide +kernel)
 ·exact (((Tx.lit (n := 1) (by decide +kernel)).app h).app (Tx.lit (n := 1) (by decide +kernel))).mono (by decide)
theorem Tx.wrap {n k : Nat} {e : SumE} {t : Str} (h : Tx n t) : Tx (n + 2) (wrapS k e t) := by
 unfold wrapS
 split
 ·exact (((Tx.lit (n := 1) (by decide +kernel)).app h).app (Tx.lit (n := 1) (by decide +kernel))).mono (by omega)
 ·exact h.mono (by omega)
theorem isSg.tx {s : Str} (h : isSg s) : Tx 1 s := by
 rcases h with rfl | rfl | rfl <;> exact Tx.lit (by decide +kernel)
theorem SumG.tx {m : Nat} {e : SumE} (h : SumG m e) : Tx (48 * 2 ^ m - 7) (sumT e) := by
 induction h with
 | @val n u h => exact h.tx.mono (by have := Nat.one_le_two_pow (n := n); omega)
 | @var n x h => exact h.mono (by have := Nat.one_le_two_pow (n := n); omega)
 | @op n s a b hs _ _ iha ihb =>
  have l1 : Tx 1 (" " : Str) := Tx.lit (by decide +kernel)
  have p := Nat.one_le_two_pow (n := n)
  refine (((((iha.wrap).app l1).app hs.tx).app l1).app ihb.wrap).mono ?_
  rw [Nat.pow_succ]
  omega
theorem TermG.tx {t : TermE} (h : TermG t) : Tx 41 (termT t) := by
 cases h with
 | any => exact Tx.lit (by decide +kernel)
 | s h => exact h.tx.mono (by decide)
theorem txs_map {α : Type} {f : α → Str} {xs : List α} {n : Nat} (h : ∀ x ∈ xs, Tx n (f x)) : ∀ t ∈ xs.map f, Tx n t := fun t ht => by
 obtain ⟨x, hx, rfl⟩ := List.mem_map.mp ht
 exact h x hx
theorem Tx.list {α : Type} {f : α → Str} {xs : List α} {n k : Nat} (h : ∀ x ∈ xs, Tx n (f x)) (l : xs.length ≤ k) : Tx (k * (n + 2)) (listT (xs.map f)) := by
 refine (Tx.join (k := 2) (y := ", ") (Tx.lit (by decide +kernel)) (txs_map h)).mono ?_
 rw [List.length_map]
 exact Nat.mul_le_mul_right _ l
theorem Tx.atom {x : Str} {ts : List TermE} (hx : Tx 44 x) (hl : ts.length ≤ 4) (h : ∀ t ∈ ts, TermG t) : Tx 218 (atomT x ts) :=
 (((hx.app (Tx.lit (n := 1) (by decide +kernel))).app (Tx.list (fun t ht => (h t ht).tx) hl)).app (Tx.lit (n := 1) (by decide +kernel))).mono (by decide)
theorem PartG.tx {p : PartE} (h : PartG p) : Tx 240 (partT p) := by
 cases h with
 | @atom no x ts hx hl h =>
  cases no
  ·exact (Tx.atom hx hl h).mono (by decide)
  ·exact ((Tx.lit (n := 4) (t := "not ") (by decide +kernel)).app (Tx.atom hx hl h)).mono (by decide)
 | lt hx he => exact ((hx.app (Tx.lit (n := 4) (by decide +kernel))).app he.tx).mono (by decide)
 | test hs ha hb => exact ((((ha.tx.app (Tx.lit (n := 1) (by decide +kernel))).app hs).app (Tx.lit (n := 1) (by decide +kernel))).app hb.tx).mono (by decide)
theorem ArgG.tx {a : ArgE} (h : ArgG a) : Tx 41 (argT a) := by
 cases h with
 | s h => exact h.tx.mono (by decide)
 | fold0 h => exact h.mono (by decide)
 | fold h hx => exact ((h.app (Tx.lit (n := 1) (by decide +kernel))).app hx).mono (by decide)
def argsG (as : List ArgE) : Prop := as.length ≤ 8 ∧ ∀ a ∈ as, ArgG a
def partsG (ps : List PartE) : Prop := ps.length ≤ 8 ∧ ∀ p ∈ ps, PartG p
theorem argsG.tx {as : List ArgE} (h : argsG as) : Tx 344 (argsT as) := Tx.list (fun a ha => (h.2 a ha).tx) h.1
theorem partsG.tx {ps : List PartE} (h : partsG ps) : Tx 1936 (partsT ps) := Tx.list (fun a ha => (h.2 a ha).tx) h.1
structure BiT (mg : Str → Option Value) : Prop where
 b_isinstance : mg "isinstance" = none
 b_bool : mg "bool" = none
 b_int : mg "int" = none
 b_str : mg "str" = none
structure Bi (mg : Str → Option Value) : Prop where
 b_len : mg "len" = none
 b_list : mg "list" = none
 b_range : mg "range" = none
def bagO (cs : Addr) (i r k : Int) : HO := .lst [.ref cs, .int i, .int r, .int k]
structure BagAt (H : Hp) (b cs : Addr) : Prop where
 ex : ∃ (cells : List Int) (i r k : Int), H b = some (bagO cs i r k) ∧ H cs = some (.lst (cells.map V.int)) ∧ 0 ≤ i
theorem BagAt.ne {H : Hp} {b cs : Addr} (h : BagAt H b cs) : cs ≠ b := by
 obtain ⟨cells, i, r, k, h1, h2, _⟩ := h.ex
 intro e
 rw [e, h1] at h2
 have h3 : [V.ref cs, .int i, .int r, .int k] = cells.map V.int := HO.lst.inj (Option.some.inj h2)
 cases cells with
 | nil => cases h3
 | cons c r => cases (List.cons.inj h3).1
theorem BagAt.fr {H H' : Hp} {b cs : Addr} {M : List Addr} (h : BagAt H b cs) (e : Fr M H H') (n1 : b ∉ M) (n2 : cs ∉ M) : BagAt H' b cs := by
 obtain ⟨cells, i, r, k, h1, h2, h3⟩ := h.ex
 exact ⟨cells, i, r, k, e.at h1 n1, e.at h2 n2, h3⟩
theorem BagAt.fr0 {H H' : Hp} {b cs : Addr} (h : BagAt H b cs) (e : Fr [] H H') : BagAt H' b cs := h.fr e (fun z => nomatch z) (fun z => nomatch z)
theorem BagAt.put {H : Hp} {b cs : Addr} (h : BagAt H b cs) {i r k : Int} (hi : 0 ≤ i) : BagAt (upd H b (bagO cs i r k)) b cs := by
 obtain ⟨cells, _, _, _, h1, h2, h3⟩ := h.ex
 exact ⟨cells, i, r, k, upd_same, by rw [upd_ne h.ne]; exact h2, hi⟩
theorem BagAt.frp {H : Hp} {b cs : Addr} (h : BagAt H b cs) {o : HO} : Fr [b] H (upd H b o) := by
 obtain ⟨cells, i, r, k, h1, h2, h3⟩ := h.ex
 exact Fr.mut (List.mem_singleton.mpr rfl) h1 nofix_lst
theorem BagAt.some {H : Hp} {b cs : Addr} (h : BagAt H b cs) {p : Addr} (hp : H p = none) : p ≠ b ∧ p ≠ cs := by
 obtain ⟨cells, i, r, k, h1, h2, h3⟩ := h.ex
 exact ⟨fun e => (by rw [e, h1] at hp; cases hp), fun e => (by rw [e, h2] at hp; cases hp)⟩
def spBag (K : PySem.W.Frag) : Sp := fun vs H Q _ => ∃ (a : Addr) (ns : List Int), vs = [.ref a] ∧ SqL K H a (ns.map V.int) ∧ ns.length ≤ 63 ∧
 ∀ b cs H', Fr [] H H' → H b = none → BagAt H' b cs → Q (.ref b) H'
def spPull : Sp := fun vs H Q _ => ∃ (b cs : Addr) (u : Int), vs = [.ref b, .int u] ∧ BagAt H b cs ∧ 0 < u ∧ u < 2 ^ 200 ∧
 ∀ d H', 0 ≤ d → d < u → BagAt H' b cs → Fr [b] H H' → Q (.int d) H'
abbrev s__law_bag : Stmt := topS 17
theorem sc__law_bag : FnScope ["_law_script", "_law_cells", "_law_knot", "_law_cell"] ["_law_script"] (defScope s__law_bag) := ⟨rfl, rfl, rfl, by decide +kernel, rfl, by decide +kernel, by decide +kernel⟩
abbrev s__law_pull : Stmt := topS 18
theorem sc__law_pull : FnScope ["_law_bag_here", "_law_upto", "_law_seed", "_law_fold", "_law_twist", "_law_drawn"] ["_law_bag_here", "_law_upto"] (defScope s__law_pull) := ⟨rfl, rfl, rfl, by decide +kernel, rfl, by decide +kernel, by decide +kernel⟩
section
variable {P : Program} {w : World} {K : PySem.W.Frag} {mg : Str → Option Value} {base : Heap}
theorem ok__law_bag {f : Addr} {fd : FuncData} (F : FnP K "_law_bag" s__law_bag f fd) (B : Bi mg) : FnG P w K mg base CX0 10 f fd ["_law_script"] (spBag K) := by
 refine okG F sc__law_bag (fun vs H Q E h => ?_) (fun cdv A outer s H vs Q E hr h => ?_)
 ·obtain ⟨a, ns, rfl, _⟩ := h
  rfl
 obtain ⟨a, ns, rfl, hS, hl, q⟩ := h
 refine ⟨_, PSs.nox (pss_cons (ps_set (i := 1) sc__law_bag.nd rfl (.inl rfl) (pe_callTy (kCall (K := K) (r := uList) rfl callu_list) (by rfl) B.b_list (by decide +kernel) (pa_cons (pe_slice (kSl (K := K) (r := rSlL) rfl sl_list) (pv 0) po_none (po_some pe_int)) pa_nil)))
 (pss_cons (ps_set (i := 2) sc__law_bag.nd rfl (.inl rfl) (pe_op (kOp (K := K) (r := uAdd) rfl opu_add) pe_int (pe_callB (kCall (K := K) (r := uLen) rfl callu_len) (by rfl) B.b_len (by decide +kernel) (pa_cons (pv 1) pa_nil))))
 (pss_cons (ps_for PassesOwn.never rfl (pi_listK (K := K) rfl (pv 1)) (pg_name (i := 3) sc__law_bag.nd rfl (by first | exact Or.inl rfl | exact Or.inr rfl)) (pss_one (ps_set (i := 2) sc__law_bag.nd rfl (.inl rfl) (pe_op opu_mod (pe_op (kOp (K := K) (r := uAdd) rfl opu_add) (pe_op opu_mul (pv 2) pe_int) (pv 3)) pe_int))))
 (pss_one (ps_ret (pe_lst (pa_cons (pv 1) (pa_cons pe_int (pa_cons pe_int (pa_cons (pv 2) pa_nil)))))))))), rd_start (σ0 := [some (.ref a), none, none, none]) rfl ?_⟩
 walk_at "q"
 refine g_slL hS fun p1 hp1 => ?_
 walk_at "q"
 refine g_list (.inl (SqL.of upd_same)) fun p2 hp2 => ?_
 have ec : cutV (ns.map V.int) none (some 63) = ns.map V.int := by
  have z := cut0 (ns.map V.int) 63
  rw [List.take_of_length_le (by rw [List.length_map]; omega)] at z
  exact z
 rw [ec] at hp2 ⊢
 have e2 : Fr [] H (upd (upd H p1 (.lst (ns.map V.int))) p2 (.lst (ns.map V.int))) := (Fr.new hp1).trans (Fr.new hp2)
 have h2 : (upd (upd H p1 (.lst (ns.map V.int))) p2 (.lst (ns.map V.int))) p2 = some (.lst (ns.map V.int)) := upd_same
 generalize upd (upd H p1 (.lst (ns.map V.int))) p2 (.lst (ns.map V.int)) = H2 at *
 walk_at "q"
 refine ⟨_, rfl, ⟨_, SqL.of h2⟩, for_list (K := K) (a := p2) (xs := ns.map V.int) (fun i σ H' => ∃ (k : Int) (c : Option V), σ = [some (.ref a), some (.ref p2), some (.int k), c] ∧ H' = H2) ⟨_, _, rfl, rfl⟩ (fun i σ H' _ h => ?_) (fun i x σ H' hi h => ?_) (fun σ H' h => ?_)⟩
 ·obtain ⟨k, c, rfl, rfl⟩ := h
  exact SqL.of h2
 ·obtain ⟨k, c, rfl, rfl⟩ := h
  obtain ⟨n, _, rfl⟩ := List.mem_map.mp (List.mem_of_getElem? hi)
  walk_at "q"
  exact ⟨_, _, rfl, rfl⟩
 ·obtain ⟨k, c, rfl, rfl⟩ := h
  walk_at "q"
  refine ⟨le_of (by simp), fun p3 hp3 => ?_⟩
  refine q p3 p2 _ (e2.trans (Fr.new hp3)) (e2.back (fun z => nomatch z) hp3) ⟨ns, 0, 0, k, upd_same, by rw [upd_ne (ne_of_none h2 hp3)]; exact h2, Int.le_refl 0⟩
theorem ok__law_pull {f : Addr} {fd : FuncData} (F : FnP K "_law_pull" s__law_pull f fd) (B : Bi mg) : FnG P w K mg base CX0 10 f fd ["_law_bag_here", "_law_upto"] spPull := by
 refine okG F sc__law_pull (fun vs H Q E h => ?_) (fun cdv A outer s H vs Q E hr h => ?_)
 ·obtain ⟨b, cs, u, rfl, _⟩ := h
  rfl
 obtain ⟨b, cs, u, rfl, hB, hu0, hu1, q⟩ := h
 obtain ⟨cells, i, r, k, hb, hc, hi⟩ := id hB.ex
 refine ⟨_, PSs.nox (pss_cons (ps_if (pt_cmpR (kOp (K := K) (r := uLt) rfl opu_lt) (pe_ix (kIx (K := K) (r := rIx) rfl ix_seq) (pv 0) pe_int (fun _ _ => rfl)) pe_int (nomark _)) (pss_cons (ps_asg (pe_op (kOp (K := K) (r := uAdd) rfl opu_add) (pe_ix (kIx (K := K) (r := rIx) rfl ix_seq) (pv 0) pe_int (fun _ _ => rfl)) pe_int) (pg_sub (pv 0) pe_int set_list))
 (pss_cons (ps_set (i := 2) sc__law_pull.nd rfl (.inl rfl) (pe_op (kOp (K := K) (r := uAdd) rfl opu_add) (pe_ix (kIx (K := K) (r := rIx) rfl ix_seq) (pv 0) pe_int (fun _ _ => rfl)) (pe_op opu_mul (pe_ix (kIx (K := K) (r := rIx) rfl ix_seq) (pv 0) pe_int (fun _ _ => rfl)) pe_int)))
 (pss_cons (ps_if (pt_cmpR opu_le (pe_ix (kIx (K := K) (r := rIx) rfl ix_seq) (pv 0) pe_int (fun _ _ => rfl)) (pe_callB (kCall (K := K) (r := uLen) rfl callu_len) (by rfl) B.b_len (by decide +kernel) (pa_cons (pe_ix (kIx (K := K) (r := rIx) rfl ix_seq) (pv 0) pe_int (fun _ _ => rfl)) pa_nil)) (nomark _)) (pss_one (ps_set (i := 2) sc__law_pull.nd rfl (.inl rfl) (pe_ix (kIx (K := K) (r := rIx) rfl ix_seq) (pe_ix (kIx (K := K) (r := rIx) rfl ix_seq) (pv 0) pe_int (fun _ _ => rfl)) (pe_op opu_sub (pe_ix (kIx (K := K) (r := rIx) rfl ix_seq) (pv 0) pe_int (fun _ _ => rfl)) pe_int) (fun _ _ => rfl)))) pss_nil)
 (pss_cons (ps_if (PW.pt (pw_or (pt_cmpR opu_gt (pe_ix (kIx (K := K) (r := rIx) rfl ix_seq) (pv 0) pe_int (fun _ _ => rfl)) (pe_callB (kCall (K := K) (r := uLen) rfl callu_len) (by rfl) B.b_len (by decide +kernel) (pa_cons (pe_ix (kIx (K := K) (r := rIx) rfl ix_seq) (pv 0) pe_int (fun _ _ => rfl)) pa_nil)) (nomark _)) (pw_or1 (pt_cmpR (kOp (K := K) (r := uLt) rfl opu_lt) (pv 2) (pe_op opu_pow pe_int pe_int) (nomark _))))) (pss_cons (ps_set (i := 3) sc__law_pull.nd rfl (.inl rfl) (pe_op opu_mod (pe_op (kOp (K := K) (r := uAdd) rfl opu_add) (pe_op (kOp (K := K) (r := uAdd) rfl opu_add) (pe_op opu_mul (pv 2) pe_int) (pe_op opu_mul (pe_ix (kIx (K := K) (r := rIx) rfl ix_seq) (pv 0) pe_int (fun _ _ => rfl)) pe_int)) (pe_ix (kIx (K := K) (r := rIx) rfl ix_seq) (pv 0) pe_int (fun _ _ => rfl))) pe_int))
 (pss_cons (ps_set (i := 4) sc__law_pull.nd rfl (.inl rfl) (pe_op opu_mod (pe_op (kOp (K := K) (r := uAdd) rfl opu_add) (pe_op opu_mul (pv 3) (pv 3)) (pe_ix (kIx (K := K) (r := rIx) rfl ix_seq) (pv 0) pe_int (fun _ _ => rfl))) pe_int))
 (pss_one (ps_ret (pe_op opu_mod (pe_op opu_div (pe_op opu_mod (pe_op (kOp (K := K) (r := uAdd) rfl opu_add) (pe_op opu_mul (pv 4) pe_int) (pv 3)) pe_int) pe_int) (pv 1)))))) pss_nil)
 (pss_one (ps_asg (pv 2) (pg_sub (pv 0) pe_int set_list))))))) pss_nil)
 (pss_cons (ps_set (i := 5) sc__law_pull.nd rfl (.inl rfl) (pe_op opu_mod (pe_ix (kIx (K := K) (r := rIx) rfl ix_seq) (pv 0) pe_int (fun _ _ => rfl)) (pv 1)))
 (pss_cons (ps_asg (pe_op opu_div (pe_ix (kIx (K := K) (r := rIx) rfl ix_seq) (pv 0) pe_int (fun _ _ => rfl)) (pv 1)) (pg_sub (pv 0) pe_int set_list))
 (pss_one (ps_ret (pv 5)))))), rd_start (σ0 := [some (.ref b), some (.int u), none, none, none, none]) rfl ?_⟩
 unfold bagO at hb
 have hcb := hB.ne
 walk_at "q"
 refine g_by (fun c1 => ?_) (fun c1 => ?_)
 ·walk_at "q"
  refine g_setL (j := 1) hb rfl ?_
  have hb1 : (upd H b (.lst ([V.ref cs, .int i, .int r, .int k].set 1 (.int (i + 1))))) b = some (.lst [V.ref cs, .int (i + 1), .int r, .int k]) := upd_same
  have hc1 : (upd H b (.lst ([V.ref cs, .int i, .int r, .int k].set 1 (.int (i + 1))))) cs = some (.lst (cells.map V.int)) := by rw [upd_ne hcb]; exact hc
  have hf1 : Fr [b] H (upd H b (.lst ([V.ref cs, .int i, .int r, .int k].set 1 (.int (i + 1))))) := hB.frp
  generalize upd H b (.lst ([V.ref cs, .int i, .int r, .int k].set 1 (.int (i + 1)))) = H1 at *
  walk_at "q"
  refine g_by (fun c2 => ?_) (fun c2 => ?_)
  ·walk_at "q"
   have hl : i + 1 ≤ (cells.length : Int) := by rw [List.length_map] at c2; exact c2
   obtain ⟨j, rfl⟩ : ∃ j : Nat, i = (j : Int) := ⟨i.toNat, by omega⟩
   have hj : j < cells.length := by omega
   have hat : atI (cells.map V.int) ((j : Int) + 1 - 1) = some (.int cells[j]) := by
    rw [show (j : Int) + 1 - 1 = (j : Int) by omega]
    exact atI_nat (by rw [List.getElem?_map, List.getElem?_eq_getElem hj]; rfl)
   refine g_ixL (SqL.of hc1) hat ?_
   generalize cells[j] = seed
   walk_at "q"
   have hB1 : BagAt H1 b cs := ⟨cells, _, r, k, hb1, hc1, by omega⟩
   refine g_by (fun c3 => ?_) (fun c3 => ?_)
   ·have key : ∀ z : Int, Q (.int (z % u)) H1 := fun z => q _ _ (Int.emod_nonneg _ (by omega)) (Int.emod_lt_of_pos _ hu0) hB1 hf1
    walk_at "q"
    exact key _
   ·walk_at "q"
    refine g_by (fun c4 => ?_) (fun c4 => ?_)
    ·have key : ∀ z : Int, Q (.int (z % u)) H1 := fun z => q _ _ (Int.emod_nonneg _ (by omega)) (Int.emod_lt_of_pos _ hu0) hB1 hf1
     walk_at "q"
     exact key _
    ·walk_at "q"
     refine g_setL (j := 2) hb1 rfl ?_
     have hb2 : (upd H1 b (.lst ([V.ref cs, .int ((j : Int) + 1), .int r, .int k].set 2 (.int seed)))) b = some (.lst [V.ref cs, .int ((j : Int) + 1), .int seed, .int k]) := upd_same
     have hB2 : BagAt (upd H1 b (.lst ([V.ref cs, .int ((j : Int) + 1), .int r, .int k].set 2 (.int seed)))) b cs := hB1.put (by omega)
     have hf2 : Fr [b] H (upd H1 b (.lst ([V.ref cs, .int ((j : Int) + 1), .int r, .int k].set 2 (.int seed)))) := hf1.trans hB1.frp
     generalize upd H1 b (.lst ([V.ref cs, .int ((j : Int) + 1), .int r, .int k].set 2 (.int seed))) = H2 at *
     walk_at "q"
     refine g_setL (j := 2) hb2 rfl ?_
     walk_at "q"
     exact q _ _ (Int.emod_nonneg _ (by omega)) (Int.emod_lt_of_pos _ hu0) (hB2.put (by omega)) (hf2.trans hB2.frp)
  ·walk_at "q"
   generalize k + (i + 1) * 7919 = seed
   walk_at "q"
   have hB1 : BagAt H1 b cs := ⟨cells, _, r, k, hb1, hc1, by omega⟩
   refine g_by (fun c3 => ?_) (fun c3 => ?_)
   ·have key : ∀ z : Int, Q (.int (z % u)) H1 := fun z => q _ _ (Int.emod_nonneg _ (by omega)) (Int.emod_lt_of_pos _ hu0) hB1 hf1
    walk_at "q"
    exact key _
   ·walk_at "q"
    refine g_by (fun c4 => ?_) (fun c4 => ?_)
    ·have key : ∀ z : Int, Q (.int (z % u)) H1 := fun z => q _ _ (Int.emod_nonneg _ (by omega)) (Int.emod_lt_of_pos _ hu0) hB1 hf1
     walk_at "q"
     exact key _
    ·walk_at "q"
     refine g_setL (j := 2) hb1 rfl ?_
     have hb2 : (upd H1 b (.lst ([V.ref cs, .int (i + 1), .int r, .int k].set 2 (.int seed)))) b = some (.lst [V.ref cs, .int (i + 1), .int seed, .int k]) := upd_same
     have hB2 : BagAt (upd H1 b (.lst ([V.ref cs, .int (i + 1), .int r, .int k].set 2 (.int seed)))) b cs := hB1.put (by omega)
     have hf2 : Fr [b] H (upd H1 b (.lst ([V.ref cs, .int (i + 1), .int r, .int k].set 2 (.int seed)))) := hf1.trans hB1.frp
     generalize upd H1 b (.lst ([V.ref cs, .int (i + 1), .int r, .int k].set 2 (.int seed))) = H2 at *
     walk_at "q"
     refine g_setL (j := 2) hb2 rfl ?_
     walk_at "q"
     exact q _ _ (Int.emod_nonneg _ (by omega)) (Int.emod_lt_of_pos _ hu0) (hB2.put (by omega)) (hf2.trans hB2.frp)
 ·walk_at "q"
  refine g_setL (j := 2) hb rfl ?_
  walk_at "q"
  exact q _ _ (Int.emod_nonneg _ (by omega)) (Int.emod_lt_of_pos _ hu0) (hB.put hi) hB.frp
end
theorem atI_in {α : Type} {xs : List α} {d : Int} (h0 : 0 ≤ d) (h1 : d < (xs.length : Int)) : ∃ v, v ∈ xs ∧ atI xs d = some v := by
 obtain ⟨j, rfl⟩ : ∃ j : Nat, d = (j : Int) := ⟨d.toNat, by omega⟩
 have hj : j < xs.length := by omega
 exact ⟨xs[j], List.getElem_mem hj, atI_nat (List.getElem?_eq_getElem hj)⟩
def spOne (K : PySem.W.Frag) : Sp := fun vs H Q _ => ∃ (b cs r : Addr) (xs : List V), vs = [.ref b, .ref r] ∧ BagAt H b cs ∧ ((SqL K H r xs ∧ r ≠ b) ∨ SqT K H r xs) ∧ 0 < xs.length ∧ xs.length ≤ 1000 ∧
 ∀ v H', v ∈ xs → BagAt H' b cs → Fr [b] H H' → Q v H'
abbrev s__law_one : Stmt := topS 19
theorem sc__law_one : FnScope ["_law_bag_here", "_law_row"] ["_law_bag_here", "_law_row"] (defScope s__law_one) := ⟨rfl, rfl, rfl, by decide +kernel, rfl, by decide +kernel, by decide +kernel⟩
section
variable {P : Program} {w : World} {K : PySem.W.Frag} {mg : Str → Option Value} {base : Heap}
theorem ok__law_one {f : Addr} {fd : FuncData} (F : FnP K "_law_one" s__law_one f fd) (B : Bi mg) (C__law_pull : CalG P w K mg base 10 "_law_pull" spPull) : FnG P w K mg base CX0 20 f fd ["_law_bag_here", "_law_row"] (spOne K) := by
 refine okG F sc__law_one (fun vs H Q E h => ?_) (fun cdv A outer s H vs Q E hr h => ?_)
 ·obtain ⟨b, cs, r, xs, rfl, _⟩ := h
  rfl
 obtain ⟨b, cs, r, xs, rfl, hB, hx, h0, h1, q⟩ := h
 refine ⟨_, PSs.nox (pss_one (ps_ret (pe_ix (kIx (K := K) (r := rIx) rfl ix_seq) (pv 1) (pe_calG C__law_pull hr rfl (pa_cons (pv 0) (pa_cons (pe_callB (kCall (K := K) (r := uLen) rfl callu_len) (by rfl) B.b_len (by decide +kernel) (pa_cons (pv 1) pa_nil)) pa_nil))) (fun _ _ => rfl)))), rd_start (σ0 := [some (.ref b), some (.ref r)]) rfl ?_⟩
 walk_at "q"
 refine g_len (hx.imp (fun z => z.1) id) ?_
 walk_at "q"
 refine ⟨b, cs, _, rfl, hB, by omega, Int.lt_of_le_of_lt (b := 1000) (by omega) (by decide), fun d H' d0 d1 hB' hF => ?_⟩
 obtain ⟨v, hv, ha⟩ := atI_in d0 d1
 rcases hx with ⟨hx, hn⟩ | hx
 ·exact g_ixL (hF.seq (fun z => hn (List.mem_singleton.mp z)) hx) ha (q v H' hv hB' hF)
 ·exact g_ixT (hF.tup hx) ha (q v H' hv hB' hF)
end
def isLet (c : Nat) : Bool := decide (97 ≤ c ∧ c ≤ 122)
def isFig (c : Nat) : Bool := decide (48 ≤ c ∧ c ≤ 57)
def WordP (x : Str) : Prop := ∃ c r, x.cps.toList = c :: r ∧ isLet c = true ∧ (∀ d ∈ r, (isLet d || isFig d) = true) ∧ r.length ≤ 11
def signs36 : Str := "abcdefghijklmnopqrstuvwxyz0123456789"
theorem signs36_list : signs36.cps.toList = [97, 98, 99, 100, 101, 102, 103, 104, 105, 106, 107, 108, 109, 110, 111, 112, 113, 114, 115, 116, 117, 118, 119, 120, 121, 122, 48, 49, 50, 51, 52, 53, 54, 55, 56, 57] := by decide +kernel
theorem signs36_at {d : Int} (h0 : 0 ≤ d) (h1 : d < 36) : ∃ c, atI signs36.cps.toList d = some c ∧ (isLet c || isFig c) = true := by
 obtain ⟨c, hc, ha⟩ := atI_in (xs := signs36.cps.toList) h0 (by rw [signs36_list]; exact h1)
 refine ⟨c, ha, ?_⟩
 rw [signs36_list] at hc
 have z : ∀ x ∈ ([97, 98, 99, 100, 101, 102, 103, 104, 105, 106, 107, 108, 109, 110, 111, 112, 113, 114, 115, 116, 117, 118, 119, 120, 121, 122, 48, 49, 50, 51, 52, 53, 54, 55, 56, 57] : List Nat), (isLet x || isFig x) = true := by decide
 exact z c hc
theorem signs26_at {d : Int} (h0 : 0 ≤ d) (h1 : d < 26) : ∃ c, atI signs36.cps.toList d = some c ∧ isLet c = true := by
 obtain ⟨j, rfl⟩ : ∃ j : Nat, d = (j : Int) := ⟨d.toNat, by omega⟩
 have hj : j < 26 := by omega
 have z : ∀ j : Nat, j < 26 → ∃ c, signs36.cps.toList[j]? = some c ∧ isLet c = true := by
  rw [signs36_list]
  intro j hj
  have y : ∀ i : Fin 26, isLet (([97, 98, 99, 100, 101, 102, 103, 104, 105, 106, 107, 108, 109, 110, 111, 112, 113, 114, 115, 116, 117, 118, 119, 120, 121, 122, 48, 49, 50, 51, 52, 53, 54, 55, 56, 57] : List Nat).getD i.val 0) = true := by decide
  have y2 := y ⟨j, hj⟩
  have hl : j < ([97, 98, 99, 100, 101, 102, 103, 104, 105, 106, 107, 108, 109, 110, 111, 112, 113, 114, 115, 116, 117, 118, 119, 120, 121, 122, 48, 49, 50, 51, 52, 53, 54, 55, 56, 57] : List Nat).length := by
   show j < 36
   omega
  refine ⟨_, List.getElem?_eq_getElem hl, ?_⟩
  rw [List.getD_eq_getElem?_getD, List.getElem?_eq_getElem hl] at y2
  exact y2
 obtain ⟨c, h1, h2⟩ := z j hj
 exact ⟨c, atI_nat h1, h2⟩
def spWord : Sp := fun vs H Q _ => ∃ (b cs : Addr), vs = [.ref b] ∧ BagAt H b cs ∧ ∀ x H', WordP x → BagAt H' b cs → Fr [b] H H' → Q (.str x) H'
abbrev s__law_word : Stmt := topS 22
theorem sc__law_word : FnScope ["_law_bag_here", "_law_signs", "_law_word_here", "_law_k"] ["_law_bag_here"] (defScope s__law_word) := ⟨rfl, rfl, rfl, by decide +kernel, rfl, by decide +kernel, by decide +kernel⟩
section
variable {P : Program} {w : World} {K : PySem.W.Frag} {mg : Str → Option Value} {base : Heap}
theorem ok__law_word {f : Addr} {fd : FuncData} (F : FnP K "_law_word" s__law_word f fd) (B : Bi mg) (C__law_pull : CalG P w K mg base 10 "_law_pull" spPull) (C__law_one : CalG P w K mg base 20 "_law_one" (spOne K)) : FnG P w K mg base CX0 30 f fd ["_law_bag_here"] spWord := by
 refine okG F sc__law_word (fun vs H Q E h => ?_) (fun cdv A outer s H vs Q E hr h => ?_)
 ·obtain ⟨b, cs, rfl, _⟩ := h
  rfl
 obtain ⟨b, cs, rfl, hB, q⟩ := h
 refine ⟨_, PSs.nox (pss_cons (ps_set (i := 1) sc__law_word.nd rfl (.inl rfl) pe_str)
 (pss_cons (ps_set (i := 2) sc__law_word.nd rfl (.inl rfl) (pe_ix (kIx (K := K) (r := rIx) rfl ix_seq) (pv 1) (pe_calG C__law_pull hr rfl (pa_cons (pv 0) (pa_cons pe_int pa_nil))) (fun _ _ => rfl)))
 (pss_cons (ps_for PassesOwn.never rfl (pi_range1 rfl B.b_range (pa_cons (pe_calG C__law_pull hr rfl (pa_cons (pv 0) (pa_cons (pe_calG C__law_one hr rfl (pa_cons (pv 0) (pa_cons (pe_lst (pa_cons pe_int (pa_cons pe_int pa_nil))) pa_nil))) pa_nil))) pa_nil)) (pg_name (i := 3) sc__law_word.nd rfl (by first | exact Or.inl rfl | exact Or.inr rfl)) (pss_one (ps_set (i := 2) sc__law_word.nd rfl (.inl rfl) (pe_op (kOp (K := K) (r := uAdd) rfl opu_add) (pv 2) (pe_ix (kIx (K := K) (r := rIx) rfl ix_seq) (pv 1) (pe_calG C__law_pull hr rfl (pa_cons (pv 0) (pa_cons pe_int pa_nil))) (fun _ _ => rfl))))))
 (pss_one (ps_ret (pv 2)))))), rd_start (σ0 := [some (.ref b), none, none, none]) rfl ?_⟩
 walk_at "q"
 refine ⟨b, cs, _, rfl, hB, by decide, by decide, fun d H1 d0 d1 hB1 hF1 => ?_⟩
 obtain ⟨c0, ha, hc0⟩ := signs26_at d0 d1
 refine g_ixS (le_of (by decide)) ha ?_
 walk_at "q"
 refine ⟨le_of (by decide), fun p hp => ?_⟩
 have hF2 : Fr [b] H1 (upd H1 p (.lst [V.int 3, .int 12])) := Fr.new hp
 have hB2 := hB1.fr0 (Fr.new (M := []) (o := .lst [V.int 3, .int 12]) hp)
 have hpl : (upd H1 p (.lst [V.int 3, .int 12])) p = some (.lst [V.int 3, .int 12]) := upd_same
 generalize upd H1 p (.lst [V.int 3, .int 12]) = H2 at *
 walk_at "q"
 refine ⟨b, cs, p, [V.int 3, .int 12], rfl, hB2, .inl ⟨SqL.of hpl, (hB1.some hp).1⟩, by decide, by decide, fun v H3 hv hB3 hF3 => ?_⟩
 obtain ⟨n, rfl, n0, n1⟩ : ∃ n : Int, v = .int n ∧ 0 < n ∧ n ≤ 12 := by
  rcases List.mem_cons.mp hv with e | hv
  ·exact ⟨3, e, by decide, by decide⟩
  ·exact ⟨12, List.mem_singleton.mp hv, by decide, by decide⟩
 walk_at "q"
 refine ⟨b, cs, n, rfl, hB3, n0, Int.lt_of_le_of_lt n1 (by decide), fun m H4 m0 m1 hB4 hF4 => ?_⟩
 walk_at "q"
 refine ⟨m, rfl, by omega, by omega, for_range (lo := 0) (n := m.toNat) (fun i σ H' => ∃ (x : Str) (z : Option V), σ = [some (.ref b), some (.str signs36), some (.str x), z] ∧ Fr [b] H H' ∧ BagAt H' b cs ∧
  ∃ r, x.cps.toList = c0 :: r ∧ (∀ d ∈ r, (isLet d || isFig d) = true) ∧ r.length = i) ⟨_, _, rfl, ((hF1.trans hF2).trans hF3).trans hF4, hB4, [], rfl, (fun _ z => nomatch z), rfl⟩ (fun i σ H' hi h => ?_) (fun σ H' h => ?_)⟩
 ·obtain ⟨x, z, rfl, hF, hB', r, hx, hr1, hr2⟩ := h
  walk_at "q"
  refine ⟨b, cs, _, rfl, hB', by decide, by decide, fun d H5 d0 d1 hB5 hF5 => ?_⟩
  obtain ⟨c1, ha1, hc1⟩ := signs36_at d0 d1
  refine g_ixS (le_of (by decide)) ha1 ?_
  have hxl : x.length = r.length + 1 := by rw [TL.len_tl]; show x.cps.toList.length = _; rw [hx]; rfl
  refine g_addS (le_of (by rw [hxl]; show r.length + 1 + 1 ≤ _; omega)) ?_
  walk_at "q"
  refine ⟨_, _, rfl, hF.trans hF5, hB5, r ++ [c1], ?_, ?_, by rw [List.length_append, hr2]; rfl⟩
  ·show TL.tl (x ++ ⟨#[c1]⟩) = _
   rw [TL.tl_append]
   show x.cps.toList ++ [c1] = _
   rw [hx]
   rfl
  ·intro d hd
   rcases List.mem_append.mp hd with hd | hd
   ·exact hr1 d hd
   ·rw [List.mem_singleton.mp hd]; exact hc1
 ·obtain ⟨x, z, rfl, hF, hB', r, hx, hr1, hr2⟩ := h
  walk_at "q"
  exact q x H' ⟨c0, r, hx, hc0, hr1, by omega⟩ hB' hF
end
def spNumber : Sp := fun vs H Q _ => ∃ (b cs : Addr), vs = [.ref b] ∧ BagAt H b cs ∧ ∀ n H', -(10 ^ 30) < n → n < 10 ^ 30 → BagAt H' b cs → Fr [b] H H' → Q (.int n) H'
abbrev s__law_number : Stmt := topS 23
theorem sc__law_number : FnScope ["_law_bag_here"] ["_law_bag_here"] (defScope s__law_number) := ⟨rfl, rfl, rfl, by decide +kernel, rfl, by decide +kernel, by decide +kernel⟩
section
variable {P : Program} {w : World} {K : PySem.W.Frag} {mg : Str → Option Value} {base : Heap}
theorem ok__law_number {f : Addr} {fd : FuncData} (F : FnP K "_law_number" s__law_number f fd) (C__law_pull : CalG P w K mg base 10 "_law_pull" spPull) : FnG P w K mg base CX0 30 f fd ["_law_bag_here"] spNumber := by
 refine okG F sc__law_number (fun vs H Q E h => ?_) (fun cdv A outer s H vs Q E hr h => ?_)
 ·obtain ⟨b, cs, rfl, _⟩ := h
  rfl
 obtain ⟨b, cs, rfl, hB, q⟩ := h
 refine ⟨_, PSs.nox (pss_cons (ps_if (pt_cmpR (kOp (K := K) (r := uEq) rfl (opu_eq hr.units)) (pe_calG C__law_pull hr rfl (pa_cons (pv 0) (pa_cons pe_int pa_nil))) pe_int (nomark _)) (pss_one (ps_ret (pe_op opu_mul (pe_ix (kIx (K := K) (r := rIx) rfl ix_seq) (pe_lst (pa_cons pe_int (pa_cons (pe_op opu_sub pe_int pe_int) pa_nil))) (pe_calG C__law_pull hr rfl (pa_cons (pv 0) (pa_cons pe_int pa_nil))) (fun _ _ => rfl)) (pe_calG C__law_pull hr rfl (pa_cons (pv 0) (pa_cons (pe_op opu_pow pe_int pe_int) pa_nil)))))) pss_nil)
 (pss_one (ps_ret (pe_op opu_sub (pe_calG C__law_pull hr rfl (pa_cons (pv 0) (pa_cons pe_int pa_nil))) pe_int)))), rd_start (σ0 := [some (.ref b)]) rfl ?_⟩
 walk_at "q"
 refine ⟨b, cs, _, rfl, hB, by decide, by decide, fun d H1 d0 d1 hB1 hF1 => ?_⟩
 walk_at "q"
 refine g_by (fun c => ?_) (fun c => ?_)
 ·walk_at "q"
  refine ⟨le_of (by decide), fun p hp => ?_⟩
  have hF2 : Fr [b] H1 (upd H1 p (.lst [V.int 1, .int (0 - 1)])) := Fr.new hp
  have hB2 := hB1.fr0 (Fr.new (M := []) (o := .lst [V.int 1, .int (0 - 1)]) hp)
  have hpl : (upd H1 p (.lst [V.int 1, .int (0 - 1)])) p = some (.lst [V.int 1, .int (0 - 1)]) := upd_same
  generalize upd H1 p (.lst [V.int 1, .int (0 - 1)]) = H2 at *
  walk_at "q"
  refine ⟨b, cs, _, rfl, hB2, by decide, by decide, fun d2 H3 d20 d21 hB3 hF3 => ?_⟩
  obtain ⟨v, hv, ha⟩ := atI_in (xs := [V.int 1, .int (0 - 1)]) d20 d21
  refine g_ixL (hF3.seq (fun z => (hB1.some hp).1 (List.mem_singleton.mp z)) (SqL.of hpl)) ha ?_
  walk_at "q"
  refine ⟨b, cs, _, rfl, hB3, by decide +kernel, by decide +kernel, fun d4 H5 d40 d41 hB5 hF5 => ?_⟩
  have d41' : d4 < 10 ^ 30 := d41
  have fin : ∀ n : Int, -(10 ^ 30) < n → n < 10 ^ 30 → Q (.int n) H5 := fun n h1 h2 => q n H5 h1 h2 hB5 (((hF1.trans hF2).trans hF3).trans hF5)
  rcases List.mem_cons.mp hv with e | hv
  ·subst e
   walk_at "q"
   exact fin _ (by omega) (by omega)
  ·obtain rfl : v = .int (0 - 1) := List.mem_singleton.mp hv
   walk_at "q"
   exact fin _ (by omega) (by omega)
 ·walk_at "q"
  refine ⟨b, cs, _, rfl, hB1, by decide, by decide, fun d2 H2 d20 d21 hB2 hF2 => ?_⟩
  walk_at "q"
  exact q _ _ (by omega) (by omega) hB2 (hF1.trans hF2)
end
def ValOf (k : Str) (v : V) : Prop := (k = "number" ∧ ∃ n, v = .int n ∧ -(10 ^ 30) < n ∧ n < 10 ^ 30) ∨ (k = "flag" ∧ ∃ c, v = .bl c) ∨ (k = "word" ∧ ∃ x, v = .str x ∧ WordP x)
def spValue : Sp := fun vs H Q _ => ∃ (b cs : Addr) (k : Str), vs = [.ref b, .str k] ∧ (k = "number" ∨ k = "flag" ∨ k = "word") ∧ BagAt H b cs ∧ ∀ v H', ValOf k v → BagAt H' b cs → Fr [b] H H' → Q v H'
abbrev s__law_value : Stmt := topS 24
theorem sc__law_value : FnScope ["_law_bag_here", "_law_kind_here"] ["_law_bag_here", "_law_kind_here"] (defScope s__law_value) := ⟨rfl, rfl, rfl, by decide +kernel, rfl, by decide +kernel, by decide +kernel⟩
def wordB (x : Str) : Bool := match x.cps.toList with
 | [] => false
 | c :: r => isLet c && r.all (fun d => isLet d || isFig d) && decide (r.length ≤ 11)
theorem wordB_ok {x : Str} (h : wordB x = true) : WordP x := by
 unfold wordB at h
 cases e : x.cps.toList with
 | nil => rw [e] at h; cases h
 | cons c r =>
  rw [e] at h
  simp only [Bool.and_eq_true, decide_eq_true_eq, List.all_eq_true] at h
  exact ⟨c, r, e, h.1.1, h.1.2, h.2⟩
theorem WordP.b {x : Str} (h : WordP x) : wordB x = true := by
 obtain ⟨c, r, e, h1, h2, h3⟩ := h
 unfold wordB
 rw [e]
 simp only [Bool.and_eq_true, decide_eq_true_eq, List.all_eq_true]
 exact ⟨⟨h1, h2⟩, h3⟩
section
variable {P : Program} {w : World} {K : PySem.W.Frag} {mg : Str → Option Value} {base : Heap}
theorem ok__law_value {f : Addr} {fd : FuncData} (F : FnP K "_law_value" s__law_value f fd) (C__law_pull : CalG P w K mg base 10 "_law_pull" spPull) (C__law_one : CalG P w K mg base 20 "_law_one" (spOne K))
  (C__law_word : CalG P w K mg base 30 "_law_word" spWord) (C__law_number : CalG P w K mg base 30 "_law_number" spNumber) : FnG P w K mg base CX0 40 f fd ["_law_bag_here", "_law_kind_here"] spValue := by
 refine okG F sc__law_value (fun vs H Q E h => ?_) (fun cdv A outer s H vs Q E hr h => ?_)
 ·obtain ⟨b, cs, k, rfl, _⟩ := h
  rfl
 obtain ⟨b, cs, k, rfl, hk, hB, q⟩ := h
 refine ⟨_, PSs.nox (pss_cons (ps_if (pt_cmpR (kOp (K := K) (r := uEq) rfl (opu_eq hr.units)) (pv 1) pe_str (nomark _)) (pss_one (ps_ret (pe_calG C__law_number hr rfl (pa_cons (pv 0) pa_nil)))) pss_nil)
 (pss_cons (ps_if (pt_cmpR (kOp (K := K) (r := uEq) rfl (opu_eq hr.units)) (pv 1) pe_str (nomark _)) (pss_one (ps_ret (pe_cmpR (kOp (K := K) (r := uEq) rfl (opu_eq hr.units)) (pe_calG C__law_pull hr rfl (pa_cons (pv 0) (pa_cons pe_int pa_nil))) pe_int (nomark _)))) pss_nil)
 (pss_cons (ps_if (pt_cmpR (kOp (K := K) (r := uEq) rfl (opu_eq hr.units)) (pe_calG C__law_pull hr rfl (pa_cons (pv 0) (pa_cons pe_int pa_nil))) pe_int (nomark _)) (pss_one (ps_ret (pe_calG C__law_word hr rfl (pa_cons (pv 0) pa_nil)))) pss_nil)
 (pss_one (ps_ret (pe_calG C__law_one hr rfl (pa_cons (pv 0) (pa_cons (pe_lst (pa_cons pe_str (pa_cons pe_str (pa_cons pe_str (pa_cons pe_str (pa_cons pe_str pa_nil)))))) pa_nil)))))))), rd_start (σ0 := [some (.ref b), some (.str k)]) rfl ?_⟩
 rcases hk with rfl | rfl | rfl
 ·walk_at "q"
  exact ⟨b, cs, rfl, hB, fun n H' h1 h2 hB' hF => q _ _ (.inl ⟨rfl, n, rfl, h1, h2⟩) hB' hF⟩
 ·walk_at "q"
  refine ⟨b, cs, _, rfl, hB, by decide, by decide, fun d H1 d0 d1 hB1 hF1 => ?_⟩
  walk_at "q"
  exact q _ _ (.inr (.inl ⟨rfl, _, rfl⟩)) hB1 hF1
 ·walk_at "q"
  refine ⟨b, cs, _, rfl, hB, by decide, by decide, fun d H1 d0 d1 hB1 hF1 => ?_⟩
  walk_at "q"
  refine g_by (fun c => ?_) (fun c => ?_)
  ·walk_at "q"
   exact ⟨b, cs, rfl, hB1, fun x H' hx hB' hF => q _ _ (.inr (.inr ⟨rfl, x, rfl, hx⟩)) hB' (hF1.trans hF)⟩
  ·walk_at "q"
   refine ⟨le_of (by decide), fun p hp => ?_⟩
   have hF2 : Fr [b] H1 (upd H1 p (.lst [V.str "ann", .str "b", .str "z9", .str "if", .str "me"])) := Fr.new hp
   have hB2 := hB1.fr0 (Fr.new (M := []) (o := .lst [V.str "ann", .str "b", .str "z9", .str "if", .str "me"]) hp)
   have hpl : (upd H1 p (.lst [V.str "ann", .str "b", .str "z9", .str "if", .str "me"])) p = some (.lst [V.str "ann", .str "b", .str "z9", .str "if", .str "me"]) := upd_same
   generalize upd H1 p (.lst [V.str "ann", .str "b", .str "z9", .str "if", .str "me"]) = H2 at *
   walk_at "q"
   refine ⟨b, cs, p, _, rfl, hB2, .inl ⟨SqL.of hpl, (hB1.some hp).1⟩, by decide, by decide, fun v H3 hv hB3 hF3 => ?_⟩
   refine q _ _ (.inr (.inr ⟨rfl, ?_⟩)) hB3 ((hF1.trans hF2).trans hF3)
   simp only [List.mem_cons, List.not_mem_nil, or_false] at hv
   rcases hv with rfl | rfl | rfl | rfl | rfl
   all_goals exact ⟨_, rfl, wordB_ok (by decide +kernel)⟩
end
structure BiS (mg : Str → Option Value) : Prop where
 b_isinstance : mg "isinstance" = none
 b_list : mg "list" = none
 b_tuple : mg "tuple" = none
 b_repr : mg "repr" = none
 b_zip : mg "zip" = none
 b_all : mg "all" = none
 b_len : mg "len" = none
def spSame (K : PySem.W.Frag) (n : Nat) : Sp := fun vs H Q _ => ∃ (x y : V) (d : PyData), vs = [x, y] ∧ Dp K H x d ∧ Dp K H y d ∧ Sm n d ∧ ∀ H', Fr [] H H' → Q (.bl true) H'
theorem sm_zero {d : PyData} (h : Sm 0 d) : False := by
 cases d <;> simp only [Sm] at h
abbrev s__law_same : Stmt := topS 20
theorem sc__law_same : FnScope ["_law_found", "_law_due", "_law_same_here", "_law_one_here", "_law_other"] ["_law_found", "_law_due"] (defScope s__law_same) := ⟨rfl, rfl, rfl, by decide +kernel, rfl, by decide +kernel, by decide +kernel⟩
section
variable {P : Program} {w : World} {K : PySem.W.Frag} {mg : Str → Option Value} {base : Heap}
theorem same_leaf {H : Hp} {x y : V} {d : PyData} {n : Nat} (hx : Dp K H x d) (hy : Dp K H y d) (hs : Sm (n + 1) d) (h : ∀ ds, d ≠ .list ds ∧ d ≠ .tuple ds) : x = y ∧ shortV x ∧ ∃ T, TyX K H x (.type T) ∧ kitB T "list" = some false ∧ kitB T "tuple" = some false := by
 cases hx with
 | non => cases hy; exact ⟨rfl, trivial, "NoneType", .base .non, by decide +kernel, by decide +kernel⟩
 | bl b => cases hy; exact ⟨rfl, trivial, "bool", .base (.bl b), by decide +kernel, by decide +kernel⟩
 | int b => cases hy; exact ⟨rfl, hs, "int", .base (.int b), by decide +kernel, by decide +kernel⟩
 | str b => cases hy; exact ⟨rfl, hs, "str", .base (.str b), by decide +kernel, by decide +kernel⟩
 | lst h1 h2 => exact absurd rfl (h _).1
 | tup h1 h2 => exact absurd rfl (h _).2
theorem ok__law_same {n : Nat} {f : Addr} {fd : FuncData} (F : FnP K "_law_same" s__law_same f fd) (B : BiS mg) (C__law_same : CalG P w K mg base n "_law_same" (spSame K n)) : FnG P w K mg base CX0 (n + 1) f fd ["_law_found", "_law_due"] (spSame K (n + 1)) := by
 refine okG F sc__law_same (fun vs H Q E h => ?_) (fun cdv A outer s H vs Q E hr h => ?_)
 ·obtain ⟨x, y, d, rfl, _⟩ := h
  rfl
 obtain ⟨x, y, d, rfl, hx, hy, hs, q⟩ := h
 refine ⟨_, PSs.nox (pss_cons (ps_if (pt_not (pt_val (pe_callB (kCall (K := K) (r := uIsi) rfl callu_isi) (by rfl) B.b_isinstance (by decide +kernel) (pa_cons (pv 1) (pa_cons (pe_tup (pa_cons (pe_bltn (v := .ty "list") (by rfl) B.b_list (by decide +kernel) rfl) (pa_cons (pe_bltn (v := .ty "tuple") (by rfl) B.b_tuple (by decide +kernel) rfl) pa_nil))) pa_nil))))) (pss_one (ps_ret (pe_cmpR (kOp (K := K) (r := uEq) rfl (opu_eq hr.units)) (pe_callB (kCall (K := K) (r := uReprG) rfl (callu_reprG hr)) (by rfl) B.b_repr (by decide +kernel) (pa_cons (pv 0) pa_nil)) (pe_callB (kCall (K := K) (r := uReprG) rfl (callu_reprG hr)) (by rfl) B.b_repr (by decide +kernel) (pa_cons (pv 1) pa_nil)) (nomark _)))) pss_nil)
 (pss_cons (ps_if (PW.pt (pw_or (pt_cmpR (kOp (K := K) (r := uNe) rfl (opu_ne hr.units)) (pe_callB (kCall (K := K) (r := uIsi) rfl callu_isi) (by rfl) B.b_isinstance (by decide +kernel) (pa_cons (pv 1) (pa_cons (pe_bltn (v := .ty "list") (by rfl) B.b_list (by decide +kernel) rfl) pa_nil))) (pe_callB (kCall (K := K) (r := uIsi) rfl callu_isi) (by rfl) B.b_isinstance (by decide +kernel) (pa_cons (pv 0) (pa_cons (pe_bltn (v := .ty "list") (by rfl) B.b_list (by decide +kernel) rfl) pa_nil))) (nomark _)) (pw_or1 (pt_cmpR (kOp (K := K) (r := uNe) rfl (opu_ne hr.units)) (pe_callB (kCall (K := K) (r := uIsi) rfl callu_isi) (by rfl) B.b_isinstance (by decide +kernel) (pa_cons (pv 1) (pa_cons (pe_bltn (v := .ty "tuple") (by rfl) B.b_tuple (by decide +kernel) rfl) pa_nil))) (pe_callB (kCall (K := K) (r := uIsi) rfl callu_isi) (by rfl) B.b_isinstance (by decide +kernel) (pa_cons (pv 0) (pa_cons (pe_bltn (v := .ty "tuple") (by rfl) B.b_tuple (by decide +kernel) rfl) pa_nil))) (nomark _))))) (pss_one (ps_ret pe_bl)) pss_nil)
 (pss_cons (ps_setLc (i := 2) (own := [("_law_one_here", 3), ("_law_other", 4)]) (g := gTup K 2 (gCons (gName 3) (gCons (gName 4) gNil))) (tt := tYes) rfl sc__law_same.nd rfl rfl (sw_true rfl rfl rfl (by decide +kernel)) (RZ.pi_zipA (by rfl) B.b_zip (pa_cons (pv 0) (pa_cons (pv 1) pa_nil))) (blkOk_by (own := [("_law_one_here", 3), ("_law_other", 4)]) (N := ["_law_found", "_law_due", "_law_same_here", "_law_one_here", "_law_other"]) (sc := defScope s__law_same) (by decide +kernel)) (fun _ _ _ _ _ => (by exact (pg_tupK (K := K) rfl rfl (pgs_cons (pg_name (i := 3) sc__law_same.nd rfl (by first | exact Or.inl rfl | exact Or.inr rfl)) (pgs_cons (pg_name (i := 4) sc__law_same.nd rfl (by first | exact Or.inl rfl | exact Or.inr rfl)) pgs_nil))))) (fun _ _ _ _ _ => pts_nil) (fun _ _ _ _ _ => (by exact (pe_calG C__law_same hr rfl (pa_cons (pv 3) (pa_cons (pv 4) pa_nil))))))
 (pss_one (ps_ret (pe_andTK (K := K) rfl (pe_cmpR (kOp (K := K) (r := uEq) rfl (opu_eq hr.units)) (pe_callB (kCall (K := K) (r := uLen) rfl callu_len) (by rfl) B.b_len (by decide +kernel) (pa_cons (pv 0) pa_nil)) (pe_callB (kCall (K := K) (r := uLen) rfl callu_len) (by rfl) B.b_len (by decide +kernel) (pa_cons (pv 1) pa_nil)) (nomark _)) (pe_one (pe_callB (kCall (K := K) (r := rAll) rfl (cr_all rfl)) (by rfl) B.b_all (by decide +kernel) (pa_cons (pv 2) pa_nil))))))))), rd_start (σ0 := [some x, some y, none, none, none]) rfl ?_⟩
 walk_at "q"
 refine ⟨le_of (by decide), fun p hp => ?_⟩
 have e1 : Fr [] H (upd H p (.tup [.ty "list", .ty "tuple"])) := Fr.new hp
 have hpt : (upd H p (.tup [.ty "list", .ty "tuple"])) p = some (.tup [.ty "list", .ty "tuple"]) := upd_same
 generalize upd H p (.tup [.ty "list", .ty "tuple"]) = H1 at *
 replace hx := dp_same e1.same hx
 replace hy := dp_same e1.same hy
 walk_at "q"
 by_cases hd : ∀ ds, d ≠ .list ds ∧ d ≠ .tuple ds
 ·obtain ⟨rfl, hsh, T, ty, k1, k2⟩ := same_leaf hx hy hs hd
  refine g_isi2 hpt ty k1 k2 ?_
  walk_at "q"
  refine g_reprS hsh ?_
  walk_at "q"
  refine g_reprS hsh ?_
  walk_at "q"
  rw [decide_eq_true rfl]
  exact q _ e1
 ·have hcase : (∃ ds, d = .list ds) ∨ (∃ ds, d = .tuple ds) := by
   cases d with
   | list ds => exact .inl ⟨ds, rfl⟩
   | tuple ds => exact .inr ⟨ds, rfl⟩
   | _ => exact absurd (fun ds => ⟨(fun z => nomatch z), (fun z => nomatch z)⟩) hd
  rcases hcase with ⟨ds, rfl⟩ | ⟨ds, rfl⟩
  ·obtain ⟨hs1, hs2⟩ := hs
   cases hx with
   | @lst a xs _ ha hxs =>
   cases hy with
   | @lst b ys _ hb hys =>
   refine g_isi2 hpt (tyx_l hb) (b1 := true) (b2 := false) (by decide +kernel) (by decide +kernel) ?_
   walk_at "q"
   refine g_isi (tyx_l hb) (b := true) (by decide +kernel) ?_
   walk_at "q"
   refine g_isi (tyx_l ha) (b := true) (by decide +kernel) ?_
   walk_at "q"
   refine g_isi (tyx_l hb) (b := false) (by decide +kernel) ?_
   walk_at "q"
   refine g_isi (tyx_l ha) (b := false) (by decide +kernel) ?_
   walk_at "q"
   have hl1 := dpa_len hxs
   have hl2 := dpa_len hys
   refine ⟨a, b, xs, ys, rfl, .inl ⟨ha, hb, fun D hD => lc_it (walk_zip (xs := xs) (ys := ys) (n := ds.length) (by omega)) (fun i H' => Fr [] H1 H' ∧ H' D = some (.lst (List.replicate i (.bl true)))) ⟨Fr.new hD, upd_same⟩ (fun i H' _ h => ⟨h.1.seq (fun z => nomatch z) ha, h.1.seq (fun z => nomatch z) hb⟩) (fun i z H' H'' hi h y => ?_) (fun H' h => ?_)⟩⟩
   ·obtain ⟨T, u, v, rfl, hT, rfl, hu, hv⟩ := y
    obtain ⟨h1, h2⟩ := h
    walk_at "q"
    refine ⟨rfl, ?_⟩
    walk_at "q"
    have eT : Fr [] H' (upd H' T (.tup [u, v])) := Fr.new hT
    obtain ⟨d1, hd1, q1⟩ := dpa_get hxs hu
    obtain ⟨d2, hd2, q2⟩ := dpa_get hys hv
    have ed : d1 = d2 := Option.some.inj (hd1.symm.trans hd2)
    subst ed
    refine ⟨u, v, d1, rfl, dp_same ((h1.trans eT).same) q1, dp_same ((h1.trans eT).same) q2, hs2 d1 (List.mem_of_getElem? hd1), fun H3 e3 => ?_⟩
    refine ⟨_, e3.at (eT.at h2 (fun z => nomatch z)) (fun z => nomatch z), lt_of (by rw [List.length_replicate]; omega), ((h1.trans eT).trans e3).over hD, ?_⟩
    rw [upd_same, List.replicate_succ']
   ·obtain ⟨h1, h2⟩ := h
    walk_at "q"
    refine g_len (.inl (h1.seq (fun z => nomatch z) ha)) ?_
    walk_at "q"
    refine g_len (.inl (h1.seq (fun z => nomatch z) hb)) ?_
    walk_at "q"
    rw [decide_eq_true (show (xs.length : Int) = ys.length by omega)]
    walk_at "q"
    refine ⟨D, List.replicate ds.length true, rfl, SqL.of (by rw [h2, List.map_replicate]), ?_⟩
    rw [show (List.replicate ds.length true).all id = true by simp]
    exact q _ (e1.trans h1)
  ·obtain ⟨hs1, hs2⟩ := hs
   cases hx with
   | @tup a xs _ ha hxs =>
   cases hy with
   | @tup b ys _ hb hys =>
   refine g_isi2 hpt (tyx_t hb) (b1 := false) (b2 := true) (by decide +kernel) (by decide +kernel) ?_
   walk_at "q"
   refine g_isi (tyx_t hb) (b := false) (by decide +kernel) ?_
   walk_at "q"
   refine g_isi (tyx_t ha) (b := false) (by decide +kernel) ?_
   walk_at "q"
   refine g_isi (tyx_t hb) (b := true) (by decide +kernel) ?_
   walk_at "q"
   refine g_isi (tyx_t ha) (b := true) (by decide +kernel) ?_
   walk_at "q"
   have hl1 := dpa_len hxs
   have hl2 := dpa_len hys
   refine ⟨a, b, xs, ys, rfl, .inr ⟨ha, hb, fun D hD => lc_it (walk_zipT (xs := xs) (ys := ys) (n := ds.length) (by omega)) (fun i H' => Fr [] H1 H' ∧ H' D = some (.lst (List.replicate i (.bl true)))) ⟨Fr.new hD, upd_same⟩ (fun i H' _ h => ⟨h.1.tup ha, h.1.tup hb⟩) (fun i z H' H'' hi h y => ?_) (fun H' h => ?_)⟩⟩
   ·obtain ⟨T, u, v, rfl, hT, rfl, hu, hv⟩ := y
    obtain ⟨h1, h2⟩ := h
    walk_at "q"
    refine ⟨rfl, ?_⟩
    walk_at "q"
    have eT : Fr [] H' (upd H' T (.tup [u, v])) := Fr.new hT
    obtain ⟨d1, hd1, q1⟩ := dpa_get hxs hu
    obtain ⟨d2, hd2, q2⟩ := dpa_get hys hv
    have ed : d1 = d2 := Option.some.inj (hd1.symm.trans hd2)
    subst ed
    refine ⟨u, v, d1, rfl, dp_same ((h1.trans eT).same) q1, dp_same ((h1.trans eT).same) q2, hs2 d1 (List.mem_of_getElem? hd1), fun H3 e3 => ?_⟩
    refine ⟨_, e3.at (eT.at h2 (fun z => nomatch z)) (fun z => nomatch z), lt_of (by rw [List.length_replicate]; omega), ((h1.trans eT).trans e3).over hD, ?_⟩
    rw [upd_same, List.replicate_succ']
   ·obtain ⟨h1, h2⟩ := h
    walk_at "q"
    refine g_len (.inr (h1.tup ha)) ?_
    walk_at "q"
    refine g_len (.inr (h1.tup hb)) ?_
    walk_at "q"
    rw [decide_eq_true (show (xs.length : Int) = ys.length by omega)]
    walk_at "q"
    refine ⟨D, List.replicate ds.length true, rfl, SqL.of (by rw [h2, List.map_replicate]), ?_⟩
    rw [show (List.replicate ds.length true).all id = true by simp]
    exact q _ (e1.trans h1)
end
structure BiX (mg : Str → Option Value) : Prop where
 b_ValueError : mg "ValueError" = none
abbrev s_LoreError_ini : Stmt := methS 1 0
theorem sc_LoreError_ini : FnScope ["self", "word"] ["self", "word"] (defScope s_LoreError_ini) := ⟨rfl, rfl, rfl, by decide +kernel, rfl, by decide +kernel, by decide +kernel⟩
theorem ok_LoreError_ini {P : Program} {w : World} {K : PySem.W.Frag} {mg : Str → Option Value} {base : Heap} {f : Addr} {fd : FuncData} (F : FnM K "LoreError.__init__" s_LoreError_ini f fd) (B : BiX mg) : FnG P w K mg base CX0 1 f fd ["self", "word"] (spL K) := by
 refine okG F sc_LoreError_ini (fun vs H Q E h => ?_) (fun cdv A outer s H vs Q E hr h => ?_)
 ·obtain ⟨a, C, y, rfl, _⟩ := h
  rfl
 obtain ⟨a, C, y, rfl, ⟨oe, hn, ha⟩, q⟩ := h
 refine ⟨_, PSs.nox (pss_cons (ps_expr (kVeI (K := K) rfl (pe_veinit (by rfl) B.b_ValueError (find_VE _) (pa_cons (pv 0) (pa_cons (pv 1) pa_nil)))))
 (pss_one (kOst (K := K) rfl (ps_ost (pv 0) (pv 1))))), rd_start (σ0 := [some (.ref a), some y]) rfl ?_⟩
 walk_at "q"
 refine ⟨a, C, [y], rfl, Nat.le_of_ble_eq_true rfl, oe, ha, ?_⟩
 walk_at "q"
 refine ⟨a, C, rfl, oe, hn, .inl ⟨ha, fun d hd hne => ?_⟩⟩
 exact q d _ hd hne (Fr.exd hd ha) upd_same (by rw [upd_ne hne]; exact upd_same)
abbrev s_BadText_ini : Stmt := methS 3 0
theorem sc_BadText_ini : FnScope ["self", "at"] ["self", "at"] (defScope s_BadText_ini) := ⟨rfl, rfl, rfl, by decide +kernel, rfl, by decide +kernel, by decide +kernel⟩
theorem ok_BadText_ini {P : Program} {w : World} {K : PySem.W.Frag} {mg : Str → Option Value} {base : Heap} {f a_TextError : Addr} {fd : FuncData} (F : FnM K "BadText.__init__" s_BadText_ini f fd) (G_TextError : ClG P w K mg base 1 "TextError" a_TextError (spL K)) : FnG P w K mg base CX0 2 f fd ["self", "at"] (spI1 K "badtext" "at") := by
 refine okG F sc_BadText_ini (fun vs H Q E h => ?_) (fun cdv A outer s H vs Q E hr h => ?_)
 ·obtain ⟨a, C, y, rfl, _⟩ := h
  rfl
 obtain ⟨a, C, y, rfl, ⟨oe, hn, ha⟩, hf, q⟩ := h
 refine ⟨_, PSs.nox (pss_cons (ps_expr (pe_fini G_TextError hr rfl (pa_cons (pv 0) (pa_cons pe_str pa_nil))))
 (pss_one (kOst (K := K) rfl (ps_ost (pv 0) (pv 1))))), rd_start (σ0 := [some (.ref a), some y]) rfl ?_⟩
 walk_at "q"
 refine ⟨a, C, _, rfl, ⟨oe, hn, ha⟩, fun d H1 hd hne fr e1 e2 => ?_⟩
 walk_at "q"
 refine ⟨a, C, rfl, oe, hf, .inr ⟨d, _, e1, e2, by decide, ?_⟩⟩
 exact q d _ hd hne (fr.over hd) (by rw [upd_ne (Ne.symm hne)]; exact e1) upd_same
theorem walk_sg {z : Str} : Walk (Its z) z.cps.toList.length (fun _ => True) (YAt (z.cps.toList.map fun c => V.str ⟨#[c]⟩)) := by
 have e : z.cps.toList.length = z.cps.size := Array.length_toList
 rw [e]
 refine ⟨walk_str.goes, walk_str.stops, fun i H v H' hi q y => ?_⟩
 obtain ⟨h1, c, h2, rfl⟩ := walk_str.yields i H v H' hi q y
 refine ⟨h1, ?_⟩
 rw [List.getElem?_map, Array.getElem?_toList, h2]
 rfl
theorem lc_sg {z : Str} {p : Nat → Bool} {g : TG} {te : TE} {vs : List Nat} {σ : L2.St} {H1 : Hp} {D : Addr} {Qd : Hp → Prop} (hz : z.length ≤ 10000) (hD : H1 D = none)
  (body : ∀ (c : Nat) (H' : Hp) (A : V → Hp → Prop), Fr [] H1 H' → (∀ H4, Fr [] H' H4 → A (.bl (p c)) H4) → g (.str ⟨#[c]⟩) (wipe σ vs) H' fun σ2 H2 => wipe σ2 vs = wipe σ vs ∧ te σ2 H2 A)
  (fin : ∀ H', Fr [] H1 H' → H' D = some (.lst ((z.cps.toList.map p).map V.bl)) → Qd H') :
  ∃ W : Nat → Nat → Hp → Prop, (∃ m, W 0 m (upd H1 D (.lst []))) ∧ ∀ i m H, W i m H →
   ((Its z).stop i H ∧ Qd H) ∨ ((Its z).go i H ∧ ∃ Nx : Hp → Prop, (∀ H', Nx H' → ∃ m', m' < m ∧ W (i + 1) m' H') ∧ ∀ x H', (Its z).yld i H x H' → g x (wipe σ vs) H' fun σ2 H2 => wipe σ2 vs = wipe σ vs ∧ tYes σ2 H2 fun b H3 =>
    if b = true then te σ2 H3 fun y H4 => ∃ acc, H4 D = some (.lst acc) ∧ acc.length < sizeLine ∧ Nx (upd H4 D (.lst (acc ++ [y]))) else Nx H3) := by
 have e : z.cps.toList.length = z.length := Array.length_toList
 refine lc_map walk_sg (ys := (z.cps.toList.map p).map V.bl) (fun _ _ => trivial) (by simp) (by simp) (by omega) hD (fun i x y H' A hx hy e k => ?_) fin
 rw [List.getElem?_map] at hx
 rw [List.getElem?_map, List.getElem?_map] at hy
 cases q : z.cps.toList[i]? with
 | none => rw [q] at hx; cases hx
 | some c =>
  rw [q] at hx hy
  cases hx
  cases hy
  exact body c H' A e k
theorem sg_lt (a b : Nat) : decide ((⟨#[a]⟩ : Str).cps.toList < (⟨#[b]⟩ : Str).cps.toList) = decide (a < b) := by
 show decide ([a] < [b]) = decide (a < b)
 by_cases h : a < b
 ·rw [decide_eq_true h]
  exact decide_eq_true (List.Lex.rel h)
 ·rw [decide_eq_false h]
  refine decide_eq_false fun z => ?_
  cases z with
  | rel z => exact h z
  | cons z => cases z
abbrev z_LETTERS : Str := "abcdefghijklmnopqrstuvwxyz"
abbrev z_FIGURES : Str := "0123456789"
abbrev z_MOST_SIGNS : Int := 12
abbrev z_MOST_FIGURES : Int := 30
theorem in_let (c : Nat) : (!(Builtin.Str.occurrences z_LETTERS ⟨#[c]⟩ 0 z_LETTERS.length 1).isEmpty) = isLet c := by
 rw [StrLaws.found_one]
 have e : z_LETTERS.cps.toList = [97, 98, 99, 100, 101, 102, 103, 104, 105, 106, 107, 108, 109, 110, 111, 112, 113, 114, 115, 116, 117, 118, 119, 120, 121, 122] := by decide +kernel
 rw [e]
 unfold isLet
 refine decide_eq_decide.mpr ?_
 simp only [List.mem_cons, List.not_mem_nil, or_false]
 omega
theorem in_fig (c : Nat) : (!(Builtin.Str.occurrences z_FIGURES ⟨#[c]⟩ 0 z_FIGURES.length 1).isEmpty) = isFig c := by
 rw [StrLaws.found_one]
 have e : z_FIGURES.cps.toList = [48, 49, 50, 51, 52, 53, 54, 55, 56, 57] := by decide +kernel
 rw [e]
 unfold isFig
 refine decide_eq_decide.mpr ?_
 simp only [List.mem_cons, List.not_mem_nil, or_false]
 omega
def goodL (l : List Nat) : Bool := match l with
 | [] => false
 | c :: r => decide (r.length ≤ 11) && (isLet c && (c :: r).all (fun d => isLet d || isFig d))
def goodW (z : Str) : Bool := goodL z.cps.toList
def keptW : List Str := ["if", "not", "is", "count", "sum", "least", "most", "yes", "no", "me"]
structure GlV (K : PySem.W.Frag) (mg : Str → Option Value) (a_KEPT : Addr) : Prop where
 l : ∃ t, mg "LETTERS" = some (.str z_LETTERS t)
 f : ∃ t, mg "FIGURES" = some (.str z_FIGURES t)
 s : ∃ t, mg "MOST_SIGNS" = some (.int z_MOST_SIGNS t)
 n : ∃ t, mg "MOST_FIGURES" = some (.int z_MOST_FIGURES t)
 k : mg "KEPT" = some (.ref a_KEPT)
 kt : ∀ H, SqT K H a_KEPT (keptW.map V.str)
structure BiV (mg : Str → Option Value) : Prop where
 b_all : mg "all" = none
 b_len : mg "len" = none
 b_isinstance : mg "isinstance" = none
 b_bool : mg "bool" = none
 b_int : mg "int" = none
 b_str : mg "str" = none
 b_ValueError : mg "ValueError" = none
 b_list : mg "list" = none
 b_range : mg "range" = none
def spB (p : Str → Bool) : Sp := fun vs H Q _ => ∃ z, vs = [.str z] ∧ Tx 100 z ∧ ∀ H', Fr [] H H' → Q (.bl (p z)) H'
theorem at0 {z : Str} {c : Nat} {r : List Nat} (e : z.cps.toList = c :: r) : atI z.cps.toList 0 = some c := by rw [e]; exact atI_nat (j := 0) rfl
theorem len_l (z : Str) : z.length = z.cps.toList.length := Array.length_toList.symm
abbrev s_is_word : Stmt := topS 10
theorem sc_is_word : FnScope ["text", "sign"] ["text"] (defScope s_is_word) := ⟨rfl, rfl, rfl, by decide +kernel, rfl, by decide +kernel, by decide +kernel⟩
abbrev s_is_name : Stmt := topS 11
theorem sc_is_name : FnScope ["text"] ["text"] (defScope s_is_name) := ⟨rfl, rfl, rfl, by decide +kernel, rfl, by decide +kernel, by decide +kernel⟩
abbrev s_kind_of : Stmt := topS 12
theorem sc_kind_of : FnScope ["value"] ["value"] (defScope s_kind_of) := ⟨rfl, rfl, rfl, by decide +kernel, rfl, by decide +kernel, by decide +kernel⟩
section
variable {P : Program} {w : World} {K : PySem.W.Frag} {mg : Str → Option Value} {base : Heap} {a_KEPT : Addr}
theorem ok_is_word {f : Addr} {fd : FuncData} (F : FnP K "is_word" s_is_word f fd) (B : BiV mg) (G : GlV K mg a_KEPT) : FnG P w K mg base CX0 20 f fd ["text"] (spB goodW) := by
 refine okG F sc_is_word (fun vs H Q E h => ?_) (fun cdv A outer s H vs Q E hr h => ?_)
 ·obtain ⟨z, rfl, _⟩ := h
  rfl
 obtain ⟨z, rfl, hz, q⟩ := h
 obtain ⟨tL, g_LETTERS⟩ := G.l
 obtain ⟨tF, g_FIGURES⟩ := G.f
 obtain ⟨tS, g_MOST_SIGNS⟩ := G.s
 have zl := hz.len
 have zs : z.length ≤ sizeLine := le_of (by omega)
 have ll := len_l z
 refine ⟨_, PSs.nox (pss_cons (ps_if (PW.pt (pw_or (pt_not (pt_chain opu_le opu_le pe_int (pe_callB (kCall (K := K) (r := uLen) rfl callu_len) (by rfl) B.b_len (by decide +kernel) (pa_cons (pv 0) pa_nil)) (pe_glob (v := .int z_MOST_SIGNS) rfl g_MOST_SIGNS ⟨_, rfl⟩))) (pw_or1 (pt_cmpR (kOp (K := K) (r := uNotIn) rfl opu_notIn) (pe_ix (kIx (K := K) (r := rIx) rfl ix_seq) (pv 0) pe_int (fun _ _ => rfl)) (pe_glob (v := .str z_LETTERS) rfl g_LETTERS ⟨_, rfl⟩) (by rfl))))) (pss_one (ps_ret pe_bl)) pss_nil)
 (pss_one (ps_ret (pe_callB (kCall (K := K) (r := rAll) rfl (cr_all rfl)) (by rfl) B.b_all (by decide +kernel) (pa_cons (pe_lc (own := [("sign", 1)]) (g := gName 1) (tt := tYes) rfl sc_is_word.nd (pi_str (pv 0)) (blkOk_by (own := [("sign", 1)]) (N := ["text", "sign"]) (sc := defScope s_is_word) (by decide +kernel)) (fun _ _ _ _ _ => (by exact (pg_name (i := 1) sc_is_word.nd rfl (by first | exact Or.inl rfl | exact Or.inr rfl)))) (fun _ _ _ _ _ => pts_nil) (fun _ _ _ _ _ => (by exact (pe_orTK (K := K) rfl (pe_cmpR (kOp (K := K) (r := uIn) rfl opu_in) (pv 1) (pe_glob (v := .str z_LETTERS) rfl g_LETTERS ⟨_, rfl⟩) (by rfl)) (pe_one (pe_cmpR (kOp (K := K) (r := uIn) rfl opu_in) (pv 1) (pe_glob (v := .str z_FIGURES) rfl g_FIGURES ⟨_, rfl⟩) (by rfl))))))) pa_nil))))), rd_start (σ0 := [some (.str z), none]) rfl ?_⟩
 walk_at "q"
 refine g_lenS zs ?_
 walk_at "q"
 have no : goodW z = false → Q (.bl false) H := fun e => by
  have z1 := q H Fr.refl
  rw [e] at z1
  exact z1
 refine g_by (fun c1 => ?_) (fun c1 => ?_)
 ·obtain ⟨c, r, ez⟩ : ∃ c r, z.cps.toList = c :: r := by
   cases e : z.cps.toList with
   | nil => rw [e] at ll; simp at ll; omega
   | cons c r => exact ⟨c, r, rfl⟩
  have lr : r.length + 1 = z.length := by rw [ll, ez]; rfl
  have eg : goodW z = (decide (r.length ≤ 11) && (isLet c && (c :: r).all (fun d => isLet d || isFig d))) := by
   unfold goodW
   rw [ez]
   rfl
  walk_at "q"
  refine g_byN (fun c2 => ?_) (fun c2 => ?_)
  ·walk_at "q"
   refine no ?_
   have h : ¬ r.length ≤ 11 := fun h => c2 (by show (z.length : Int) ≤ 12; omega)
   rw [eg, decide_eq_false h]
   rfl
  ·walk_at "q"
   refine g_ixS zs (at0 ez) ?_
   walk_at "q"
   refine g_notInS ?_
   rw [in_let]
   have h : r.length ≤ 11 := by
    have c3 : (z.length : Int) ≤ 12 := c2
    omega
   rw [decide_eq_true h, Bool.true_and] at eg
   walk_at "q"
   cases hc : isLet c with
   | false =>
    refine g_tt rfl ?_
    walk_at "q"
    refine no ?_
    rw [eg, hc]
    rfl
   | true =>
    refine g_ff rfl ?_
    walk_at "q"
    refine ⟨z, rfl, fun D hD => lc_sg (p := fun d => isLet d || isFig d) (by omega) hD (fun d H' A e k => ?_) (fun H' e hl => ?_)⟩
    ·walk_at "q"
     refine ⟨rfl, ?_⟩
     walk_at "q"
     refine g_inS ?_
     rw [in_let]
     walk_at "q"
     cases hd : isLet d with
     | true =>
      refine g_tt rfl ?_
      have z1 := k H' Fr.refl
      simp only [hd, Bool.true_or] at z1
      exact z1
     | false =>
      refine g_ff rfl ?_
      walk_at "q"
      refine g_inS ?_
      rw [in_fig]
      have z1 := k H' Fr.refl
      simp only [hd, Bool.false_or] at z1
      exact z1
    ·walk_at "q"
     refine ⟨D, _, rfl, SqL.of hl, ?_⟩
     have z1 := q H' e
     rw [eg, hc, Bool.true_and, ← ez] at z1
     rw [List.all_map]
     exact z1
 ·walk_at "q"
  refine no ?_
  unfold goodW
  have e : z.cps.toList = [] := by
   cases e : z.cps.toList with
   | nil => rfl
   | cons c r => rw [e] at ll; simp at ll; omega
  rw [e]
  rfl
theorem ok_is_name {f : Addr} {fd : FuncData} (F : FnP K "is_name" s_is_name f fd) (G : GlV K mg a_KEPT) (C_is_word : CalG P w K mg base 20 "is_word" (spB goodW)) : FnG P w K mg base CX0 21 f fd ["text"] (spB fun z => goodW z && !decide (z ∈ keptW)) := by
 refine okG F sc_is_name (fun vs H Q E h => ?_) (fun cdv A outer s H vs Q E hr h => ?_)
 ·obtain ⟨z, rfl, _⟩ := h
  rfl
 obtain ⟨z, rfl, hz, q⟩ := h
 have g_KEPT := G.k
 refine ⟨_, PSs.nox (pss_one (ps_ret (pe_andTK (K := K) rfl (pe_calG C_is_word hr rfl (pa_cons (pv 0) pa_nil)) (pe_one (pe_cmpR (kOp (K := K) (r := uNotIn) rfl opu_notIn) (pv 0) (pe_glob (v := .ref a_KEPT) rfl g_KEPT rfl) (by rfl)))))), rd_start (σ0 := [some (.str z)]) rfl ?_⟩
 walk_at "q"
 refine ⟨z, rfl, hz, fun H1 f1 => ?_⟩
 walk_at "q"
 have z1 := q H1 f1
 refine g_byB (fun c => ?_) (fun c => ?_)
 ·walk_at "q"
  refine g_notInT (.inr (G.kt _)) (flat_strs _) ?_
  rw [inV_str]
  simp only [c, Bool.true_and] at z1
  exact z1
 ·simp only [c, Bool.false_and] at z1
  rw [c]
  exact z1
theorem ok_kind_of {f : Addr} {fd : FuncData} (F : FnP K "kind_of" s_kind_of f fd) (B : BiV mg) : FnG P w K mg base CX0 20 f fd ["value"] (fun vs H Q _ => ∃ v k, vs = [v] ∧ ValOf k v ∧ ∀ H', Fr [] H H' → Q (.str k) H') := by
 refine okG F sc_kind_of (fun vs H Q E h => ?_) (fun cdv A outer s H vs Q E hr h => ?_)
 ·obtain ⟨v, k, rfl, _⟩ := h
  rfl
 obtain ⟨v, k, rfl, hv, q⟩ := h
 refine ⟨_, PSs.nox (pss_cons (ps_if (pt_val (pe_callB (kCall (K := K) (r := uIsi) rfl callu_isi) (by rfl) B.b_isinstance (by decide +kernel) (pa_cons (pv 0) (pa_cons (pe_bltn (v := .ty "bool") (by rfl) B.b_bool (by decide +kernel) rfl) pa_nil)))) (pss_one (ps_ret pe_str)) pss_nil)
 (pss_one (ps_ret (pe_ifExp (pt_val (pe_callB (kCall (K := K) (r := uIsi) rfl callu_isi) (by rfl) B.b_isinstance (by decide +kernel) (pa_cons (pv 0) (pa_cons (pe_bltn (v := .ty "int") (by rfl) B.b_int (by decide +kernel) rfl) pa_nil)))) pe_str pe_str)))), rd_start (σ0 := [some v]) rfl ?_⟩
 walk_at "q"
 rcases hv with ⟨rfl, n, rfl, _⟩ | ⟨rfl, c, rfl⟩ | ⟨rfl, x, rfl, _⟩
 ·refine g_isi (b := false) (.base (.int n)) (by decide +kernel) ?_
  walk_at "q"
  refine g_isi (b := true) (.base (.int n)) (by decide +kernel) ?_
  walk_at "q"
  exact q H Fr.refl
 ·refine g_isi (b := true) (.base (.bl c)) (by decide +kernel) ?_
  walk_at "q"
  exact q H Fr.refl
 ·refine g_isi (b := false) (.base (.str x)) (by decide +kernel) ?_
  walk_at "q"
  refine g_isi (b := false) (.base (.str x)) (by decide +kernel) ?_
  walk_at "q"
  exact q H Fr.refl
end
theorem str_ext {a b : Str} (h : a.cps.toList = b.cps.toList) : a = b := by
 obtain ⟨⟨a⟩⟩ := a
 obtain ⟨⟨b⟩⟩ := b
 have e : a = b := h
 rw [e]
theorem dec_str (a b : Str) : decide (a = b) = decide (a.cps.toList = b.cps.toList) := decide_eq_decide.mpr ⟨fun h => by rw [h], str_ext⟩
theorem cut_drop1 (z : Str) : (cutS z (some 1) none).cps.toList = z.cps.toList.drop 1 := by
 show ((z.cps.toList.drop (HT.sIx z.length 0 (some ((1 : Nat) : Int)))).take (HT.sIx z.length z.length none - HT.sIx z.length 0 (some ((1 : Nat) : Int)))).toArray.toList = _
 rw [HT.sIx_nat, HT.sIx_none, len_l]
 cases z.cps.toList with
 | nil => rfl
 | cons c r =>
  have e : min 1 (c :: r).length = 1 := by simp
  rw [e]
  simp
theorem cut_take1 (z : Str) : (cutS z none (some 1)).cps.toList = z.cps.toList.take 1 := by
 show ((z.cps.toList.drop (HT.sIx z.length 0 none)).take (HT.sIx z.length z.length (some ((1 : Nat) : Int)) - HT.sIx z.length 0 none)).toArray.toList = _
 rw [HT.sIx_nat, HT.sIx_none, len_l]
 cases z.cps.toList with
 | nil => rfl
 | cons c r =>
  have e : min 1 (c :: r).length = 1 := by simp
  rw [e]
  simp
theorem cut_mid (z : Str) : (cutS z (some 1) (some (-1))).cps.toList = (z.cps.toList.drop 1).dropLast := by
 show ((z.cps.toList.drop (HT.sIx z.length 0 (some ((1 : Nat) : Int)))).take (HT.sIx z.length z.length (some (-1)) - HT.sIx z.length 0 (some ((1 : Nat) : Int)))).toArray.toList = _
 rw [HT.sIx_nat, len_l]
 have e2 : HT.sIx z.cps.toList.length z.cps.toList.length (some (-1)) = z.cps.toList.length - 1 := by
  show (if (-1 : Int) < 0 then (-1 + (z.cps.toList.length : Int)).toNat else min (-1 : Int).toNat z.cps.toList.length) = _
  rw [if_pos (by decide)]
  omega
 rw [e2]
 cases z.cps.toList with
 | nil => rfl
 | cons c r =>
  have e : min 1 (c :: r).length = 1 := by simp
  rw [e]
  simp [List.dropLast_eq_take]
theorem g_cutE {te : TE} {σ : L2.St} {H : Hp} {Q : VK} (Pv : V → Hp → Prop) (h1 : ∀ x H', Pv x H' → Q x H') (h2 : ∀ Q' : VK, (∀ x H', Pv x H' → Q' x H') → te σ H Q') : te σ H Q := h2 Q h1
def figL (l : List Nat) : List Nat := match l with
 | c :: r => if c = 45 then r else c :: r
 | [] => []
theorem figL_cons (c : Nat) (r : List Nat) : figL (c :: r) = if c = 45 then r else c :: r := rfl
def numB (z : Str) : Bool := decide (1 ≤ (figL z.cps.toList).length ∧ (figL z.cps.toList).length ≤ 30) && ((figL z.cps.toList).all isFig && (!decide (z = "-0") && (decide (figL z.cps.toList = [48]) || !decide ((figL z.cps.toList).head? = some 48))))
theorem minus_head (z : Str) : decide (cutS z none (some 1) = "-") = decide (z.cps.toList.head? = some 45) := by
 rw [dec_str, cut_take1]
 refine decide_eq_decide.mpr ?_
 rw [show ("-" : Str).cps.toList = [45] by decide +kernel]
 cases z.cps.toList with
 | nil => simp
 | cons c r => simp
theorem fig_dig {l : List Nat} (h : l.all isFig = true) : NumText.AllDigits l := fun c hc => by
 have z := List.all_eq_true.mp h c hc
 unfold isFig at z
 exact of_decide_eq_true z
theorem dig_lt {l : List Nat} (h : NumText.AllDigits l) : ∀ a : Nat, l.foldl (fun acc c => acc * 10 + (c - 48)) a < (a + 1) * 10 ^ l.length := by
 induction l with
 | nil => intro a; simp
 | cons c r ih =>
  intro a
  have z := ih h.tail (a * 10 + (c - 48))
  have hc := h.head
  rw [List.foldl_cons, List.length_cons, Nat.pow_succ]
  refine Nat.lt_of_lt_of_le z ?_
  rw [Nat.mul_comm (10 ^ r.length) 10, ← Nat.mul_assoc]
  exact Nat.mul_le_mul_right _ (by omega)
theorem num_int {z : Str} (h : numB z = true) : ∃ n : Int, intText? z = some n ∧ n.natAbs < 10 ^ 30 := by
 unfold numB at h
 simp only [Bool.and_eq_true, decide_eq_true_eq] at h
 obtain ⟨⟨h1, h2⟩, h3, _⟩ := h
 have hd := fig_dig h3
 have ll := len_l z
 have bnd := dig_lt hd 0
 have p : 10 ^ (figL z.cps.toList).length ≤ 10 ^ 30 := Nat.pow_le_pow_right (by decide) h2
 have b2 : NumText.digitsVal (figL z.cps.toList) < 10 ^ 30 := by
  unfold NumText.digitsVal
  omega
 cases e : z.cps.toList with
 | nil => rw [e] at h1; simp [figL] at h1
 | cons c r =>
  rw [e] at h1 h2 hd ll b2
  rw [figL_cons] at h1 h2 hd b2
  by_cases hc : c = 45
  ·subst hc
   simp only [if_true] at h1 h2 hd b2
   have ne : r ≠ [] := fun z => by rw [z] at h1; simp at h1
   refine ⟨_, PySem.intText_neg e hd ne (by simp only [List.length_cons] at ll; omega), ?_⟩
   rw [Int.natAbs_neg, Int.natAbs_natCast]
   exact b2
  ·simp only [if_neg hc] at h1 h2 hd b2
   refine ⟨_, PySem.intText_digits (by rw [e]; exact hd) (by rw [e]; simp) (by omega), ?_⟩
   rw [Int.natAbs_natCast, e]
   exact b2
abbrev s_is_number : Stmt := topS 13
theorem sc_is_number : FnScope ["text", "figures", "sign"] ["text"] (defScope s_is_number) := ⟨rfl, rfl, rfl, by decide +kernel, rfl, by decide +kernel, by decide +kernel⟩
section
variable {P : Program} {w : World} {K : PySem.W.Frag} {mg : Str → Option Value} {base : Heap} {a_KEPT : Addr}
theorem ok_is_number {f : Addr} {fd : FuncData} (F : FnP K "is_number" s_is_number f fd) (B : BiV mg) (G : GlV K mg a_KEPT) : FnG P w K mg base CX0 20 f fd ["text"] (spB numB) := by
 refine okG F sc_is_number (fun vs H Q E h => ?_) (fun cdv A outer s H vs Q E hr h => ?_)
 ·obtain ⟨z, rfl, _⟩ := h
  rfl
 obtain ⟨z, rfl, hz, q⟩ := h
 obtain ⟨tF, g_FIGURES⟩ := G.f
 obtain ⟨tS, g_MOST_FIGURES⟩ := G.n
 have zl := hz.len
 have zs : z.length ≤ sizeLine := le_of (by omega)
 have ll := len_l z
 refine ⟨_, PSs.nox (pss_cons (ps_set (i := 1) sc_is_number.nd rfl (.inl rfl) (pe_ifExp (pt_cmpR (kOp (K := K) (r := uEq) rfl (opu_eq hr.units)) (pe_slice sl_str (pv 0) po_none (po_some pe_int)) pe_str (nomark _)) (pe_slice sl_str (pv 0) (po_some pe_int) po_none) (pv 0)))
 (pss_cons (ps_if (PW.pt (pw_or (pt_not (pt_chain opu_le opu_le pe_int (pe_callB (kCall (K := K) (r := uLen) rfl callu_len) (by rfl) B.b_len (by decide +kernel) (pa_cons (pv 1) pa_nil)) (pe_glob (v := .int z_MOST_FIGURES) rfl g_MOST_FIGURES ⟨_, rfl⟩))) (pw_or1 (pt_not (pt_val (pe_callB (kCall (K := K) (r := rAll) rfl (cr_all rfl)) (by rfl) B.b_all (by decide +kernel) (pa_cons (pe_lc (own := [("sign", 2)]) (g := gName 2) (tt := tYes) rfl sc_is_number.nd (pi_str (pv 1)) (blkOk_by (own := [("sign", 2)]) (N := ["text", "figures", "sign"]) (sc := defScope s_is_number) (by decide +kernel)) (fun _ _ _ _ _ => (by exact (pg_name (i := 2) sc_is_number.nd rfl (by first | exact Or.inl rfl | exact Or.inr rfl)))) (fun _ _ _ _ _ => pts_nil) (fun _ _ _ _ _ => (by exact (pe_cmpR (kOp (K := K) (r := uIn) rfl opu_in) (pv 2) (pe_glob (v := .str z_FIGURES) rfl g_FIGURES ⟨_, rfl⟩) (by rfl))))) pa_nil))))))) (pss_one (ps_ret pe_bl)) pss_nil)
 (pss_one (ps_ret (pe_andTK (K := K) rfl (pe_cmpR (kOp (K := K) (r := uNe) rfl (opu_ne hr.units)) (pv 0) pe_str (nomark _)) (pe_one (pe_orTK (K := K) rfl (pe_cmpR (kOp (K := K) (r := uEq) rfl (opu_eq hr.units)) (pv 1) pe_str (nomark _)) (pe_one (pe_cmpR (kOp (K := K) (r := uNe) rfl (opu_ne hr.units)) (pe_ix (kIx (K := K) (r := rIx) rfl ix_seq) (pv 1) pe_int (fun _ _ => rfl)) pe_str (nomark _)))))))))), rd_start (σ0 := [some (.str z), none, none]) rfl ?_⟩
 refine g_seq (g_asg (g_cutE (fun x H' => H' = H ∧ ∃ y, x = .str y ∧ y.cps.toList = figL z.cps.toList) (fun x H' h => ?_) (fun Q' k => ?_)))
 rotate_left
 ·walk_at "q"
  refine g_slS zs ?_
  walk_at "q"
  rw [minus_head]
  refine g_by (fun c => ?_) (fun c => ?_)
  ·walk_at "q"
   refine g_slS zs ?_
   refine k _ _ ⟨rfl, _, rfl, ?_⟩
   rw [cut_drop1]
   cases e : z.cps.toList with
   | nil => rfl
   | cons d r =>
    rw [e] at c
    have c2 : d = 45 := by simpa using c
    subst c2
    rfl
  ·walk_at "q"
   refine k _ _ ⟨rfl, _, rfl, ?_⟩
   cases e : z.cps.toList with
   | nil => rfl
   | cons d r =>
    rw [e] at c
    have c2 : ¬ d = 45 := by simpa using c
    rw [figL_cons, if_neg c2]
 obtain ⟨rfl, y, rfl, hy⟩ := h
 have fl : (figL z.cps.toList).length ≤ z.cps.toList.length := by
  cases e : z.cps.toList with
  | nil => exact Nat.le_refl _
  | cons d r =>
   rw [figL_cons]
   by_cases c : d = 45
   ·rw [if_pos c]; simp
   ·rw [if_neg c]; exact Nat.le_refl _
 have yl : y.length = (figL z.cps.toList).length := by rw [len_l, hy]
 have ys : y.length ≤ sizeLine := le_of (by omega)
 have no : numB z = false → Q (.bl false) H' := fun e => by
  have z1 := q H' Fr.refl
  rw [e] at z1
  exact z1
 have en : numB z = (decide (1 ≤ y.length ∧ y.length ≤ 30) && (y.cps.toList.all isFig && (!decide (z = "-0") && (decide (y.cps.toList = [48]) || !decide (y.cps.toList.head? = some 48))))) := by
  unfold numB
  rw [← hy, ← len_l]
 walk_at "q"
 refine g_lenS ys ?_
 walk_at "q"
 refine g_by (fun c1 => ?_) (fun c1 => ?_)
 ·walk_at "q"
  refine g_byN (fun c2 => ?_) (fun c2 => ?_)
  ·walk_at "q"
   refine no ?_
   have h : ¬ (1 ≤ y.length ∧ y.length ≤ 30) := fun h => c2 (by show (y.length : Int) ≤ 30; omega)
   rw [en, decide_eq_false h]
   rfl
  ·have h : 1 ≤ y.length ∧ y.length ≤ 30 := by
    have c3 : (y.length : Int) ≤ 30 := c2
    omega
   rw [decide_eq_true h, Bool.true_and] at en
   walk_at "q"
   refine ⟨y, rfl, fun D hD => lc_sg (p := isFig) (by omega) hD (fun d H2 A e k => ?_) (fun H2 e hl => ?_)⟩
   ·walk_at "q"
    refine ⟨rfl, ?_⟩
    walk_at "q"
    refine g_inS ?_
    rw [in_fig]
    exact k _ Fr.refl
   ·walk_at "q"
    refine ⟨D, _, rfl, SqL.of hl, ?_⟩
    rw [List.all_map]
    have ef : ((id : Bool → Bool) ∘ isFig) = isFig := rfl
    rw [ef]
    have q2 := fun b (eb : numB z = b) => (eb ▸ q H2 e : Q (.bl b) H2)
    walk_at "q"
    cases hf : y.cps.toList.all isFig with
    | false =>
     refine g_tt rfl ?_
     walk_at "q"
     refine q2 _ ?_
     rw [en, hf]
     rfl
    | true =>
     refine g_ff rfl ?_
     rw [hf, Bool.true_and] at en
     walk_at "q"
     refine g_byN (fun c3 => ?_) (fun c3 => ?_)
     ·rw [decide_eq_false c3, Bool.not_false, Bool.true_and] at en
      walk_at "q"
      have e0 : decide (y = "0") = decide (y.cps.toList = [48]) := by rw [dec_str]; rfl
      rw [e0]
      refine g_by (fun c4 => ?_) (fun c4 => ?_)
      ·have z1 := q2 true (by rw [en, decide_eq_true c4]; rfl)
       rw [decide_eq_true c4]
       exact z1
      ·obtain ⟨c, r, ey⟩ : ∃ c r, y.cps.toList = c :: r := by
        cases e : y.cps.toList with
        | nil => have := len_l y; rw [e] at this; simp at this; omega
        | cons c r => exact ⟨c, r, rfl⟩
       walk_at "q"
       refine g_ixS ys (at0 ey) ?_
       walk_at "q"
       have e5 : decide ((⟨#[c]⟩ : Str) = "0") = decide (c = 48) := by rw [dec_str]; exact decide_eq_decide.mpr (by show [c] = [48] ↔ c = 48; simp)
       rw [e5]
       refine q2 _ ?_
       rw [en, decide_eq_false c4, Bool.false_or, ey]
       simp
     ·have c4 := q2 false (by rw [en, decide_eq_true c3]; rfl)
      rw [decide_eq_true c3]
      exact c4
 ·walk_at "q"
  refine no ?_
  have h : ¬ (1 ≤ y.length ∧ y.length ≤ 30) := fun h => c1 (by show (1 : Int) ≤ y.length; omega)
  rw [en, decide_eq_false h]
  rfl
end
def spValT : Sp := fun vs H Q _ => ∃ u, vs = [u] ∧ ValG u ∧ Q (.str (valT u)) H
def spValTL : Sp := fun vs H Q _ => ∃ u, vs = [u] ∧ ValG u ∧ ∀ H', Fr [] H H' → Q (.str (valT u)) H'
theorem log1920 {i : Int} (h : i.natAbs < 10 ^ 30) : i.natAbs.log2 < 1920 := PySem.Flt.log2_lt_of (by decide) (Nat.lt_of_lt_of_le h (by decide))
def midL (z : Str) : List Nat := (z.cps.toList.drop 1).dropLast
def quoB (z : Str) : Bool := decide (3 ≤ z.length) && (decide (z.cps.toList.head? = some 39) && decide (z.cps.toList.getLast? = some 39))
def meantV (z : Str) : Option V := if z = "yes" then some (.bl true) else if z = "no" then some (.bl false) else if numB z = true then some (.int ((intText? z).getD 0)) else
 if quoB z = true ∧ goodL (midL z) = true then some (.str (cutS z (some 1) (some (-1)))) else none
theorem atI_last {l : List Nat} {c : Nat} (h : l.getLast? = some c) : atI l (-1) = some c := by
 have hl : 0 < l.length := by
  cases l with
  | nil => cases h
  | cons a r => simp
 rw [List.getLast?_eq_getElem?] at h
 unfold atI ixN
 rw [if_neg (by decide), if_pos (by omega)]
 have e : ((-1 : Int) + (l.length : Int)).toNat = l.length - 1 := by omega
 first
  | (rw [Option.bind_some, e]; exact h)
  | (simp only [Option.bind_some]; rw [e]; exact h)
theorem leS_l {t : Str} {d c : Nat} (h : t.cps.toList = [d]) : (!decide ((⟨#[c]⟩ : Str).cps.toList < t.cps.toList)) = decide (d ≤ c) := by
 have e : t = ⟨#[d]⟩ := str_ext (by rw [h])
 subst e
 rw [sg_lt]
 by_cases q : c < d
 ·rw [decide_eq_true q, decide_eq_false (by omega)]; rfl
 ·rw [decide_eq_false q, decide_eq_true (by omega)]; rfl
theorem leS_r {t : Str} {d c : Nat} (h : t.cps.toList = [d]) : (!decide (t.cps.toList < (⟨#[c]⟩ : Str).cps.toList)) = decide (c ≤ d) := by
 have e : t = ⟨#[d]⟩ := str_ext (by rw [h])
 subst e
 rw [sg_lt]
 by_cases q : d < c
 ·rw [decide_eq_true q, decide_eq_false (by omega)]; rfl
 ·rw [decide_eq_false q, decide_eq_true (by omega)]; rfl
def badFs : List (Str × V) := [("at", .int 0), ("word", .str "badtext")]
def spRead (C : Addr) : Sp := fun vs H Q E => ∃ z, vs = [.str z] ∧ Tx 100 z ∧ (∀ v H', meantV z = some v → Fr [] H H' → Q v H') ∧ ∀ d H', meantV z = none → Fr [] H H' → H' d = some (.xd badFs) → E (.ref C) (some d) H'
abbrev s_value_text : Stmt := topS 14
theorem sc_value_text : FnScope ["value"] ["value"] (defScope s_value_text) := ⟨rfl, rfl, rfl, by decide +kernel, rfl, by decide +kernel, by decide +kernel⟩
abbrev s_read_value : Stmt := topS 15
theorem sc_read_value : FnScope ["text"] ["text"] (defScope s_read_value) := ⟨rfl, rfl, rfl, by decide +kernel, rfl, by decide +kernel, by decide +kernel⟩
abbrev s__law_value_text : Stmt := topS 26
theorem sc__law_value_text : FnScope ["_law_value_here"] ["_law_value_here"] (defScope s__law_value_text) := ⟨rfl, rfl, rfl, by decide +kernel, rfl, by decide +kernel, by decide +kernel⟩
abbrev s__law_kind : Stmt := topS 25
theorem sc__law_kind : FnScope ["_law_value_here"] ["_law_value_here"] (defScope s__law_kind) := ⟨rfl, rfl, rfl, by decide +kernel, rfl, by decide +kernel, by decide +kernel⟩
abbrev s__law_good_word : Stmt := topS 27
theorem sc__law_good_word : FnScope ["_law_text", "_law_sign"] ["_law_text"] (defScope s__law_good_word) := ⟨rfl, rfl, rfl, by decide +kernel, rfl, by decide +kernel, by decide +kernel⟩
abbrev s__law_barred : Stmt := topS 21
theorem sc__law_barred : FnScope ["_law_word_here"] ["_law_word_here"] (defScope s__law_barred) := ⟨rfl, rfl, rfl, by decide +kernel, rfl, by decide +kernel, by decide +kernel⟩
section
variable {P : Program} {w : World} {K : PySem.W.Frag} {mg : Str → Option Value} {base : Heap} {a_KEPT a_BadText : Addr}
theorem two_in {K : PySem.W.Frag} (H : Hp) (z a b : Str) (A : V → Hp → Prop) (k : ∀ H', Fr [] H H' → A (.bl (decide (z ∈ ([a, b] : List Str)))) H') : ∀ p, H p = none → uIn K (.str z) (.ref p) (upd H p (.tup [.str a, .str b])) A := fun p hp => by
 refine g_inT (xs := ([a, b] : List Str).map V.str) (.inr (SqT.of upd_same)) (flat_strs _) ?_
 rw [inV_str]
 exact k _ (Fr.new hp)
theorem ok_value_text {f : Addr} {fd : FuncData} (F : FnP K "value_text" s_value_text f fd) (B : BiT mg) : FnG P w K mg base CX0 1 f fd ["value"] spValT := by
 refine okG F sc_value_text (fun vs H Q E h => ?_) (fun cdv A outer s H vs Q E hr h => ?_)
 ·obtain ⟨u, rfl, _⟩ := h
  rfl
 obtain ⟨u, rfl, hu, q⟩ := h
 refine ⟨_, PSs.nox (pss_cons (ps_if (pt_val (pe_callB (kCall (K := K) (r := uIsi) rfl callu_isi) (by rfl) B.b_isinstance (by decide +kernel) (pa_cons (pv 0) (pa_cons (pe_bltn (v := .ty "bool") (by rfl) B.b_bool (by decide +kernel) rfl) pa_nil)))) (pss_one (ps_ret (pe_ifExp (pt_val (pv 0)) pe_str pe_str))) pss_nil)
 (pss_one (ps_ret (pe_ifExp (pt_val (pe_callB (kCall (K := K) (r := uIsi) rfl callu_isi) (by rfl) B.b_isinstance (by decide +kernel) (pa_cons (pv 0) (pa_cons (pe_bltn (v := .ty "int") (by rfl) B.b_int (by decide +kernel) rfl) pa_nil)))) (pe_callTy callu_str (by rfl) B.b_str (by decide +kernel) (pa_cons (pv 0) pa_nil)) (pe_fs (.cons pe_str (.cons (pe_fmt (pv 0)) (.cons pe_str .nil)))))))), rd_start (σ0 := [some u]) rfl ?_⟩
 walk_at "q"
 rcases hu with ⟨i, rfl, hi⟩ | ⟨b, rfl⟩ | ⟨x, rfl, hx⟩
 ·refine g_isi (.base (.int i)) (b := false) (by decide +kernel) ?_
  walk_at "q"
  refine g_isi (.base (.int i)) (b := true) (by decide +kernel) ?_
  walk_at "q"
  refine g_strI (log1920 hi) ?_
  exact q
 ·refine g_isi (.base (.bl b)) (b := true) (by decide +kernel) ?_
  walk_at "q"
  refine g_byB (fun e => ?_) (fun e => ?_)
  ·subst e; exact q
  ·subst e; exact q
 ·refine g_isi (.base (.str x)) (b := false) (by decide +kernel) ?_
  walk_at "q"
  refine g_isi (.base (.str x)) (b := false) (by decide +kernel) ?_
  walk_at "q"
  have hl := hx.len
  repeat walk_at "fs"
  rw [empty_app]
  exact q
theorem ok__law_value_text {f : Addr} {fd : FuncData} (F : FnP K "_law_value_text" s__law_value_text f fd) (B : BiT mg) : FnG P w K mg base CX0 1 f fd ["_law_value_here"] spValTL := by
 refine okG F sc__law_value_text (fun vs H Q E h => ?_) (fun cdv A outer s H vs Q E hr h => ?_)
 ·obtain ⟨u, rfl, _⟩ := h
  rfl
 obtain ⟨u, rfl, hu, q⟩ := h
 refine ⟨_, PSs.nox (pss_cons (ps_if (pt_val (pe_callB (kCall (K := K) (r := uIsi) rfl callu_isi) (by rfl) B.b_isinstance (by decide +kernel) (pa_cons (pv 0) (pa_cons (pe_bltn (v := .ty "bool") (by rfl) B.b_bool (by decide +kernel) rfl) pa_nil)))) (pss_one (ps_ret (pe_ix (kIx (K := K) (r := rIx) rfl ix_seq) (pe_lst (pa_cons pe_str (pa_cons pe_str pa_nil))) (pe_callTy callu_int (by rfl) B.b_int (by decide +kernel) (pa_cons (pv 0) pa_nil)) (fun _ _ => rfl)))) pss_nil)
 (pss_one (ps_ret (pe_ifExp (pt_val (pe_callB (kCall (K := K) (r := uIsi) rfl callu_isi) (by rfl) B.b_isinstance (by decide +kernel) (pa_cons (pv 0) (pa_cons (pe_bltn (v := .ty "int") (by rfl) B.b_int (by decide +kernel) rfl) pa_nil)))) (pe_callTy callu_str (by rfl) B.b_str (by decide +kernel) (pa_cons (pv 0) pa_nil)) (pe_op (kOp (K := K) (r := uAdd) rfl opu_add) (pe_op (kOp (K := K) (r := uAdd) rfl opu_add) pe_str (pv 0)) pe_str))))), rd_start (σ0 := [some u]) rfl ?_⟩
 walk_at "q"
 rcases hu with ⟨i, rfl, hi⟩ | ⟨b, rfl⟩ | ⟨x, rfl, hx⟩
 ·refine g_isi (.base (.int i)) (b := false) (by decide +kernel) ?_
  walk_at "q"
  refine g_isi (.base (.int i)) (b := true) (by decide +kernel) ?_
  walk_at "q"
  refine g_strI (log1920 hi) ?_
  exact q _ Fr.refl
 ·refine g_isi (.base (.bl b)) (b := true) (by decide +kernel) ?_
  walk_at "q"
  refine ⟨le_of (by simp), fun p hp => ?_⟩
  have e1 : Fr [] H (upd H p (.lst [V.str "no", .str "yes"])) := Fr.new hp
  have h1 : (upd H p (.lst [V.str "no", .str "yes"])) p = some (.lst [.str "no", .str "yes"]) := upd_same
  generalize upd H p (.lst [V.str "no", .str "yes"]) = H1 at *
  walk_at "q"
  refine g_intB ?_
  cases b with
  | true => exact g_ixL (SqL.of h1) (v := .str "yes") rfl (q _ e1)
  | false => exact g_ixL (SqL.of h1) (v := .str "no") rfl (q _ e1)
 ·refine g_isi (.base (.str x)) (b := false) (by decide +kernel) ?_
  walk_at "q"
  refine g_isi (.base (.str x)) (b := false) (by decide +kernel) ?_
  have hl := hx.len
  repeat walk_at "fs"
  exact q _ Fr.refl
theorem meant_mid {z : Str} : (cutS z (some 1) (some (-1))).cps.toList = midL z := cut_mid z
theorem ok_read_value {f : Addr} {fd : FuncData} (F : FnP K "read_value" s_read_value f fd) (B : BiV mg) (C_is_word : CalG P w K mg base 20 "is_word" (spB goodW)) (C_is_number : CalG P w K mg base 20 "is_number" (spB numB))
  (G_BadText : ClG P w K mg base 2 "BadText" a_BadText (spI1 K "badtext" "at")) (n1 : PySem.W.findIn K (.ref a_BadText) "word" = some none) (n2 : PySem.W.findIn K (.ref a_BadText) "at" = some none) : FnG P w K mg base (L2.CX P w) 25 f fd ["text"] (spRead a_BadText) := by
 refine okX F sc_read_value (fun vs H Q E h => ?_) (fun cdv A outer s H vs Q E hr h tk => ?_)
 ·obtain ⟨z, rfl, _⟩ := h
  rfl
 obtain ⟨z, rfl, hz, q, qe⟩ := h
 have zl := hz.len
 have zs : z.length ≤ sizeLine := le_of (by omega)
 have ll := len_l z
 refine ⟨_, (pss_cons (ps_if (pt_cmpR (kOp (K := K) (r := uIn) rfl opu_in) (pv 0) (pe_tup (pa_cons pe_str (pa_cons pe_str pa_nil))) (by rfl)) (pss_one (ps_ret (pe_cmpR (kOp (K := K) (r := uEq) rfl (opu_eq hr.units)) (pv 0) pe_str (nomark _)))) pss_nil)
 (pss_cons (ps_if (pt_val (pe_calG C_is_number hr rfl (pa_cons (pv 0) pa_nil))) (pss_one (ps_ret (pe_callTy call_int_str (by rfl) B.b_int (by decide +kernel) (pa_cons (pv 0) pa_nil)))) pss_nil)
 (pss_cons (ps_if (PW.pt (pw_or (pt_cmpR (kOp (K := K) (r := uLt) rfl opu_lt) (pe_callB (kCall (K := K) (r := uLen) rfl callu_len) (by rfl) B.b_len (by decide +kernel) (pa_cons (pv 0) pa_nil)) pe_int (nomark _)) (pw_or (pt_cmpR (kOp (K := K) (r := uNe) rfl (opu_ne hr.units)) (pe_ix (kIx (K := K) (r := rIx) rfl ix_seq) (pv 0) pe_int (fun _ _ => rfl)) pe_str (nomark _)) (pw_or (pt_cmpR (kOp (K := K) (r := uNe) rfl (opu_ne hr.units)) (pe_ix (kIx (K := K) (r := rIx) rfl ix_seq) (pv 0) (pe_un un_neg pe_int) (fun _ _ => rfl)) pe_str (nomark _)) (pw_or1 (pt_not (pt_val (pe_calG C_is_word hr rfl (pa_cons (pe_slice sl_str (pv 0) (po_some pe_int) (po_some (pe_un un_neg pe_int))) pa_nil))))))))) (pss_one (ps_rs rfl tk (pmk_mkX G_BadText hr rfl (pa_cons pe_int pa_nil)))) pss_nil)
 (pss_one (ps_ret (pe_slice sl_str (pv 0) (po_some pe_int) (po_some (pe_un un_neg pe_int)))))))), rd_start (σ0 := [some (.str z)]) rfl ?_⟩
 walk_at "q"
 refine ⟨le_of (by simp), two_in _ _ _ _ _ fun H1 e1 => ?_⟩
 walk_at "q"
 refine g_by (fun c => ?_) (fun c => ?_)
 ·walk_at "q"
  have c2 : z = "yes" ∨ z = "no" := by simpa using c
  rcases c2 with rfl | rfl
  ·exact q _ _ rfl e1
  ·have e : meantV "no" = some (.bl (decide (("no" : Str) = "yes"))) := by
    have d : ¬ (("no" : Str) = "yes") := by decide +kernel
    unfold meantV
    rw [if_neg d, if_pos rfl, decide_eq_false d]
   exact q _ _ e e1
 ·have c2 : ¬ z = "yes" ∧ ¬ z = "no" := by simpa using c
  have em : meantV z = if numB z = true then some (.int ((intText? z).getD 0)) else if quoB z = true ∧ goodL (midL z) = true then some (.str (cutS z (some 1) (some (-1)))) else none := by
   unfold meantV
   rw [if_neg c2.1, if_neg c2.2]
  walk_at "q"
  refine ⟨z, rfl, hz, fun H2 e2 => ?_⟩
  have e12 := e1.trans e2
  walk_at "q"
  refine g_byB (fun c3 => ?_) (fun c3 => ?_)
  ·walk_at "q"
   obtain ⟨n, hn, _⟩ := num_int c3
   refine ⟨z, n, rfl, hn, by omega, ?_⟩
   refine q _ _ ?_ e12
   rw [em, if_pos c3, hn]
   rfl
  ·rw [c3] at em
   rw [if_neg Bool.false_ne_true] at em
   have bad : ¬ (quoB z = true ∧ goodL (midL z) = true) → ∀ H3, Fr [] H2 H3 → ∀ d H4, Fr [] H3 H4 → H4 d = some (.xd badFs) → E (.ref a_BadText) (some d) H4 := fun hb H3 e3 d H4 e4 hd => qe d H4 (by rw [em, if_neg hb]) ((e12.trans e3).trans e4) hd
   walk_at "q"
   refine g_lenS zs ?_
   walk_at "q"
   refine g_by (fun c4 => ?_) (fun c4 => ?_)
   ·walk_at "q"
    refine mkX_I1 G_BadText.ec n1 n2 fun d H' fr e => bad (fun hq => ?_) _ Fr.refl d H' fr e
    have h := hq.1
    unfold quoB at h
    simp only [Bool.and_eq_true, decide_eq_true_eq] at h
    omega
   ·obtain ⟨c0, r, ez⟩ : ∃ c r, z.cps.toList = c :: r := by
     cases e : z.cps.toList with
     | nil => rw [e] at ll; simp at ll; omega
     | cons c r => exact ⟨c, r, rfl⟩
    walk_at "q"
    refine g_ixS zs (at0 ez) ?_
    walk_at "q"
    have e5 : decide ((⟨#[c0]⟩ : Str) = "'") = decide (c0 = 39) := by rw [dec_str]; exact decide_eq_decide.mpr (by show [c0] = [39] ↔ c0 = 39; simp)
    rw [e5]
    refine g_byN (fun c5 => ?_) (fun c5 => ?_)
    ·walk_at "q"
     refine mkX_I1 G_BadText.ec n1 n2 fun d H' fr e => bad (fun hq => ?_) _ Fr.refl d H' fr e
     have h := hq.1
     unfold quoB at h
     simp only [Bool.and_eq_true, decide_eq_true_eq] at h
     rw [ez] at h
     exact c5 (by simpa using h.2.1)
    ·obtain ⟨c1, ec1⟩ : ∃ c, z.cps.toList.getLast? = some c := by rw [ez]; exact ⟨_, List.getLast?_eq_some_getLast (by simp)⟩
     walk_at "q"
     refine g_ixS zs (atI_last ec1) ?_
     walk_at "q"
     have e6 : decide ((⟨#[c1]⟩ : Str) = "'") = decide (c1 = 39) := by rw [dec_str]; exact decide_eq_decide.mpr (by show [c1] = [39] ↔ c1 = 39; simp)
     rw [e6]
     refine g_byN (fun c6 => ?_) (fun c6 => ?_)
     ·walk_at "q"
      refine mkX_I1 G_BadText.ec n1 n2 fun d H' fr e => bad (fun hq => ?_) _ Fr.refl d H' fr e
      have h := hq.1
      unfold quoB at h
      simp only [Bool.and_eq_true, decide_eq_true_eq] at h
      rw [ec1] at h
      exact c6 (Option.some.inj h.2.2)
     ·have hq : quoB z = true := by
       unfold quoB
       simp only [Bool.and_eq_true, decide_eq_true_eq]
       rw [ec1, ez, c5, c6]
       exact ⟨by omega, rfl, rfl⟩
      have ml : (cutS z (some 1) (some (-1))).length ≤ z.length := cutS_length z _ _
      walk_at "q"
      refine g_slS zs ?_
      refine ⟨cutS z (some 1) (some (-1)), rfl, ⟨by omega, fun c hc => ?_⟩, fun H3 e3 => ?_⟩
      ·rw [meant_mid] at hc
       exact hz.ok c (List.mem_of_mem_drop ((List.dropLast_sublist _).subset hc))
      ·have eg : goodW (cutS z (some 1) (some (-1))) = goodL (midL z) := by
        unfold goodW
        rw [meant_mid]
       rw [eg]
       walk_at "q"
       cases hg : goodL (midL z) with
       | false =>
        refine g_tt rfl ?_
        walk_at "q"
        refine mkX_I1 G_BadText.ec n1 n2 fun d H' fr e => bad (fun hq => ?_) _ e3 d H' fr e
        rw [hg] at hq
        exact absurd hq.2 Bool.false_ne_true
       | true =>
        refine g_ff rfl ?_
        walk_at "q"
        refine g_slS zs ?_
        exact q _ _ (by rw [em, if_pos ⟨hq, hg⟩]) (e12.trans e3)
end
theorem WordP.tx {x : Str} (h : WordP x) : Tx 12 x := by
 obtain ⟨c, r, e, hc, hr, hl⟩ := h
 refine ⟨by rw [len_l, e, List.length_cons]; omega, fun d hd => ?_⟩
 rw [e] at hd
 rcases List.mem_cons.mp hd with rfl | hd
 ·unfold isLet at hc
  have := of_decide_eq_true hc
  omega
 ·have z := hr d hd
  unfold isLet isFig at z
  simp only [Bool.or_eq_true, decide_eq_true_eq] at z
  omega
theorem WordP.good {x : Str} (h : WordP x) : goodL x.cps.toList = true := by
 obtain ⟨c, r, e, hc, hr, hl⟩ := h
 rw [e]
 unfold goodL
 simp only [decide_eq_true hl, hc, Bool.true_and, List.all_cons, Bool.true_or, List.all_eq_true]
 exact hr
theorem ValOf.g {k : Str} {u : V} (h : ValOf k u) : ValG u := by
 rcases h with ⟨_, n, rfl, h1, h2⟩ | ⟨_, b, rfl⟩ | ⟨_, x, rfl, hx⟩
 ·exact .inl ⟨n, rfl, by omega⟩
 ·exact .inr (.inl ⟨b, rfl⟩)
 ·exact .inr (.inr ⟨x, rfl, hx.tx⟩)
theorem numL_head {n : Nat} (h : 1 ≤ n) : (TL.numL n).head? ≠ some 48 := by
 induction n using Nat.strongRecOn with
 | _ n ih =>
  by_cases h2 : n < 10
  ·rw [TL.numL_lt h2]
   simp
   omega
  ·rw [TL.numL_step (by omega)]
   have z := ih (n / 10) (by omega) (by omega)
   cases e : TL.numL (n / 10) with
   | nil => exact absurd e (TL.numL_ne _)
   | cons c r => rw [e] at z; simpa using z
theorem fig_all {l : List Nat} (h : NumText.AllDigits l) : l.all isFig = true := List.all_eq_true.mpr fun c hc => decide_eq_true (h c hc)
theorem num_ok {z : Str} {f : List Nat} {n : Nat} (hf : figL z.cps.toList = f) (hn : f = TL.numL n) (hb : n < 10 ^ 30) (h0 : z.cps.toList ≠ [45, 48]) : numB z = true := by
 have h1 : f.length ≤ 30 := by rw [hn]; exact TL.numL_len (by decide) hb
 have h2 : 1 ≤ f.length := by
  have := TL.numL_ne n
  rw [hn]
  exact List.length_pos_iff.mpr this
 unfold numB
 rw [hf, decide_eq_true ⟨h2, h1⟩, hn, fig_all (TL.numL_digits n), Bool.true_and, Bool.true_and]
 rw [decide_eq_false (show ¬ z = "-0" from fun e => h0 (by rw [e]; decide +kernel)), Bool.not_false, Bool.true_and]
 by_cases c : n = 0
 ·subst c
  rw [TL.numL_lt (by decide)]
  rfl
 ·rw [decide_eq_false (numL_head (by omega))]
  simp
theorem meant_val {k : Str} {u : V} (h : ValOf k u) : meantV (valT u) = some u := by
 rcases h with ⟨_, n, rfl, h1, h2⟩ | ⟨_, b, rfl⟩ | ⟨_, x, rfl, hx⟩
 ·have key : ∀ z : Str, z.cps.toList.head? ≠ some 121 → z.cps.toList.head? ≠ some 110 → numB z = true → intText? z = some n → meantV z = some (.int n) := by
   intro z a1 a2 a3 a4
   unfold meantV
   rw [if_neg (fun e => a1 (by rw [e]; decide +kernel)), if_neg (fun e => a2 (by rw [e]; decide +kernel)), if_pos a3, a4]
   rfl
  show meantV (toString n : Str) = _
  by_cases c : 0 ≤ n
  ·obtain ⟨m, rfl⟩ : ∃ m : Nat, n = (m : Int) := ⟨n.toNat, by omega⟩
   have e : (toString (m : Int) : Str).cps.toList = TL.numL m := TL.tl_num m
   have hb : m < 10 ^ 30 := by omega
   have hl : (TL.numL m).length ≤ 30 := TL.numL_len (by decide) hb
   obtain ⟨d, r, el⟩ : ∃ d r, TL.numL m = d :: r := by
    cases q : TL.numL m with
    | nil => exact absurd q (TL.numL_ne m)
    | cons d r => exact ⟨d, r, rfl⟩
   have hd := TL.numL_digits m d (by rw [el]; exact List.mem_cons_self)
   refine key _ ?_ ?_ (num_ok (f := TL.numL m) (n := m) ?_ rfl hb ?_) (TL.int_num (by omega))
   ·rw [e, el]; simp; omega
   ·rw [e, el]; simp; omega
   ·rw [e, el, figL_cons, if_neg (by omega)]
   ·rw [e, el]; simp; omega
  ·obtain ⟨m, rfl⟩ : ∃ m : Nat, n = Int.negSucc m := ⟨(-n - 1).toNat, by omega⟩
   have e : (toString (Int.negSucc m) : Str).cps.toList = 45 :: TL.numL (m + 1) := by
    show (Str.ofString ("-" ++ toString (m + 1))).cps.toList = _
    rw [PyProof.Rows.signs_ofString, String.toList_append, List.map_append]
    have e2 := TL.tl_num (m + 1)
    unfold TL.tl at e2
    rw [PyProof.Rows.signs_ofString] at e2
    have e3 : (toString (m + 1)) = (toString ((m + 1 : Nat) : Int)) := rfl
    rw [e3, e2]
    rfl
   have hb : m + 1 < 10 ^ 30 := by omega
   have hl : (TL.numL (m + 1)).length ≤ 30 := TL.numL_len (by decide) hb
   refine key _ (by rw [e]; simp) (by rw [e]; simp) (num_ok (f := TL.numL (m + 1)) (n := m + 1) (by rw [e, figL_cons, if_pos rfl]) rfl hb ?_) ?_
   ·rw [e]
    intro z
    have z2 : TL.numL (m + 1) = [48] := (List.cons.inj z).2
    exact numL_head (n := m + 1) (by omega) (by rw [z2]; rfl)
   ·rw [PySem.intText_neg e (TL.numL_digits _) (TL.numL_ne _) (by rw [len_l, e, List.length_cons]; omega), TL.numL_val]
    rfl
 ·cases b
  ·unfold meantV
   have d : ¬ (("no" : Str) = "yes") := by decide +kernel
   show (if ("no" : Str) = "yes" then _ else _) = _
   rw [if_neg d]
   rfl
  ·rfl
 ·show meantV ("'" ++ x ++ "'") = _
  have e : ("'" ++ x ++ "'" : Str).cps.toList = 39 :: (x.cps.toList ++ [39]) := by
   rw [tl_app, tl_app]
   rfl
  have hm : midL ("'" ++ x ++ "'") = x.cps.toList := by
   unfold midL
   rw [e, List.drop_one, List.tail_cons, List.dropLast_concat]
  have hq : quoB ("'" ++ x ++ "'") = true := by
   obtain ⟨c, r, ex, _⟩ := hx
   unfold quoB
   simp only [Bool.and_eq_true, decide_eq_true_eq]
   rw [len_l, e, ex]
   refine ⟨by simp, rfl, ?_⟩
   rw [List.getLast?_cons, List.getLast?_append]
   rfl
  have hn : numB ("'" ++ x ++ "'") = false := by
   unfold numB
   rw [e, figL_cons, if_neg (by decide)]
   simp [isFig]
  unfold meantV
  rw [if_neg (fun z => absurd (congrArg (fun s : Str => s.cps.toList.head?) z) (by rw [e, List.head?_cons]; decide +kernel)), if_neg (fun z => absurd (congrArg (fun s : Str => s.cps.toList.head?) z) (by rw [e, List.head?_cons]; decide +kernel)), if_neg (by rw [hn]; exact Bool.false_ne_true), if_pos ⟨hq, by rw [hm]; exact hx.good⟩]
  exact congrArg (fun s => some (V.str s)) (str_ext (by rw [meant_mid, hm]))
abbrev s__law_meant : Stmt := topS 28
theorem sc__law_meant : FnScope ["_law_text", "_law_figures", "_law_good", "_law_sign"] ["_law_text"] (defScope s__law_meant) := ⟨rfl, rfl, rfl, by decide +kernel, rfl, by decide +kernel, by decide +kernel⟩
abbrev s__law_tried : Stmt := topS 29
theorem sc__law_tried : FnScope ["_law_text", "_law_found", "e"] ["_law_text"] (defScope s__law_tried) := ⟨rfl, rfl, rfl, by decide +kernel, rfl, by decide +kernel, by decide +kernel⟩
def badL : List V := [.str "bad", .bl true, .bl true, .bl true, .int 0, .str "badtext"]
def foundL (z : Str) : List V := match meantV z with
 | some v => [v]
 | none => badL
def spMeant : Sp := fun vs H Q _ => ∃ z, vs = [.str z] ∧ Tx 100 z ∧ ∀ p H', Fr [] H H' → H p = none → H' p = some (.lst (meantV z).toList) → Q (.ref p) H'
def spTried : Sp := fun vs H Q _ => ∃ z, vs = [.str z] ∧ Tx 100 z ∧ ∀ p H', Fr [] H H' → H' p = some (.lst (foundL z)) → Q (.ref p) H'
structure ExF (K : PySem.W.Frag) (a_BadText a_TextError a_LoreError : Addr) : Prop where
 n1 : PySem.W.findIn K (.ref a_BadText) "word" = some none
 n2 : PySem.W.findIn K (.ref a_BadText) "at" = some none
 ex : PySem.W.exmOne K (.ref a_BadText) (.ref a_TextError) = some true
 k1 : PySem.W.kitOne K (.ref a_BadText) (.ref a_BadText) = some true
 k2 : PySem.W.kitOne K (.ref a_BadText) (.ref a_LoreError) = some true
 k3 : PySem.W.kitOne K (.ref a_BadText) (.type "ValueError") = some true
section
variable {P : Program} {w : World} {K : PySem.W.Frag} {mg : Str → Option Value} {base : Heap} {a_KEPT a_BadText a_TextError a_LoreError : Addr}
theorem ok__law_kind {f : Addr} {fd : FuncData} (F : FnP K "_law_kind" s__law_kind f fd) (B : BiV mg) : FnG P w K mg base CX0 20 f fd ["_law_value_here"] (fun vs H Q _ => ∃ v k, vs = [v] ∧ ValOf k v ∧ ∀ H', Fr [] H H' → Q (.str k) H') := by
 refine okG F sc__law_kind (fun vs H Q E h => ?_) (fun cdv A outer s H vs Q E hr h => ?_)
 ·obtain ⟨v, k, rfl, _⟩ := h
  rfl
 obtain ⟨v, k, rfl, hv, q⟩ := h
 refine ⟨_, PSs.nox (pss_cons (ps_if (pt_val (pe_callB (kCall (K := K) (r := uIsi) rfl callu_isi) (by rfl) B.b_isinstance (by decide +kernel) (pa_cons (pv 0) (pa_cons (pe_bltn (v := .ty "bool") (by rfl) B.b_bool (by decide +kernel) rfl) pa_nil)))) (pss_one (ps_ret pe_str)) pss_nil)
 (pss_one (ps_ret (pe_ifExp (pt_val (pe_callB (kCall (K := K) (r := uIsi) rfl callu_isi) (by rfl) B.b_isinstance (by decide +kernel) (pa_cons (pv 0) (pa_cons (pe_bltn (v := .ty "int") (by rfl) B.b_int (by decide +kernel) rfl) pa_nil)))) pe_str pe_str)))), rd_start (σ0 := [some v]) rfl ?_⟩
 walk_at "q"
 rcases hv with ⟨rfl, n, rfl, _⟩ | ⟨rfl, c, rfl⟩ | ⟨rfl, x, rfl, _⟩
 ·refine g_isi (b := false) (.base (.int n)) (by decide +kernel) ?_
  walk_at "q"
  refine g_isi (b := true) (.base (.int n)) (by decide +kernel) ?_
  walk_at "q"
  exact q H Fr.refl
 ·refine g_isi (b := true) (.base (.bl c)) (by decide +kernel) ?_
  walk_at "q"
  exact q H Fr.refl
 ·refine g_isi (b := false) (.base (.str x)) (by decide +kernel) ?_
  walk_at "q"
  refine g_isi (b := false) (.base (.str x)) (by decide +kernel) ?_
  walk_at "q"
  exact q H Fr.refl
theorem ok__law_barred {f : Addr} {fd : FuncData} (F : FnP K "_law_barred" s__law_barred f fd) : FnG P w K mg base CX0 1 f fd ["_law_word_here"] (spB fun z => decide (z ∈ keptW)) := by
 refine okG F sc__law_barred (fun vs H Q E h => ?_) (fun cdv A outer s H vs Q E hr h => ?_)
 ·obtain ⟨z, rfl, _⟩ := h
  rfl
 obtain ⟨z, rfl, _, q⟩ := h
 refine ⟨_, PSs.nox (pss_one (ps_ret (pe_cmpR (kOp (K := K) (r := uIn) rfl opu_in) (pv 0) (pe_tup (pa_cons pe_str (pa_cons pe_str (pa_cons pe_str (pa_cons pe_str (pa_cons pe_str (pa_cons pe_str (pa_cons pe_str (pa_cons pe_str (pa_cons pe_str (pa_cons pe_str pa_nil))))))))))) (by rfl)))), rd_start (σ0 := [some (.str z)]) rfl ?_⟩
 walk_at "q"
 refine ⟨le_of (by simp), fun p hp => ?_⟩
 refine g_inT (xs := keptW.map V.str) (.inr (SqT.of upd_same)) (flat_strs _) ?_
 rw [inV_str]
 exact q _ (Fr.new hp)
theorem ok__law_good_word {f : Addr} {fd : FuncData} (F : FnP K "_law_good_word" s__law_good_word f fd) (B : BiV mg) : FnG P w K mg base CX0 20 f fd ["_law_text"] (spB goodW) := by
 refine okG F sc__law_good_word (fun vs H Q E h => ?_) (fun cdv A outer s H vs Q E hr h => ?_)
 ·obtain ⟨z, rfl, _⟩ := h
  rfl
 obtain ⟨z, rfl, hz, q⟩ := h
 have zl := hz.len
 have zs : z.length ≤ sizeLine := le_of (by omega)
 have ll := len_l z
 refine ⟨_, PSs.nox (pss_cons (ps_if (PW.pt (pw_or (pt_not (pt_chain opu_le opu_le pe_int (pe_callB (kCall (K := K) (r := uLen) rfl callu_len) (by rfl) B.b_len (by decide +kernel) (pa_cons (pv 0) pa_nil)) pe_int)) (pw_or1 (pt_not (pt_chain opu_le opu_le pe_str (pe_ix (kIx (K := K) (r := rIx) rfl ix_seq) (pv 0) pe_int (fun _ _ => rfl)) pe_str))))) (pss_one (ps_ret pe_bl)) pss_nil)
 (pss_one (ps_ret (pe_callB (kCall (K := K) (r := rAll) rfl (cr_all rfl)) (by rfl) B.b_all (by decide +kernel) (pa_cons (pe_lc (own := [("_law_sign", 1)]) (g := gName 1) (tt := tYes) rfl sc__law_good_word.nd (pi_str (pv 0)) (blkOk_by (own := [("_law_sign", 1)]) (N := ["_law_text", "_law_sign"]) (sc := defScope s__law_good_word) (by decide +kernel)) (fun _ _ _ _ _ => (by exact (pg_name (i := 1) sc__law_good_word.nd rfl (by first | exact Or.inl rfl | exact Or.inr rfl)))) (fun _ _ _ _ _ => pts_nil) (fun _ _ _ _ _ => (by exact (pe_orTK (K := K) rfl (pe_chain opu_le opu_le pe_str (pv 1) pe_str) (pe_one (pe_chain opu_le opu_le pe_str (pv 1) pe_str)))))) pa_nil))))), rd_start (σ0 := [some (.str z), none]) rfl ?_⟩
 have no : goodW z = false → Q (.bl false) H := fun e => by
  have z1 := q H Fr.refl
  rw [e] at z1
  exact z1
 walk_at "q"
 refine g_lenS zs ?_
 walk_at "q"
 refine g_by (fun c1 => ?_) (fun c1 => ?_)
 ·obtain ⟨c, r, ez⟩ : ∃ c r, z.cps.toList = c :: r := by
   cases e : z.cps.toList with
   | nil => rw [e] at ll; simp at ll; omega
   | cons c r => exact ⟨c, r, rfl⟩
  have lr : r.length + 1 = z.length := by rw [ll, ez]; rfl
  have eg : goodW z = (decide (r.length ≤ 11) && (isLet c && (c :: r).all (fun d => isLet d || isFig d))) := by
   unfold goodW
   rw [ez]
   rfl
  have el : isLet c = (decide (97 ≤ c) && decide (c ≤ 122)) := by unfold isLet; exact Bool.decide_and _ _
  walk_at "q"
  refine g_byN (fun c2 => ?_) (fun c2 => ?_)
  ·walk_at "q"
   refine no ?_
   have h : ¬ r.length ≤ 11 := fun h => c2 (by omega)
   rw [eg, decide_eq_false h]
   rfl
  ·walk_at "q"
   refine g_ixS zs (at0 ez) ?_
   walk_at "q"
   rw [leS_l (d := 97) (by decide +kernel)]
   have h : r.length ≤ 11 := by omega
   rw [decide_eq_true h, Bool.true_and, el] at eg
   refine g_by (fun c3 => ?_) (fun c3 => ?_)
   ·rw [decide_eq_true c3, Bool.true_and] at eg
    walk_at "q"
    rw [leS_r (d := 122) (by decide +kernel)]
    refine g_byN (fun c4 => ?_) (fun c4 => ?_)
    ·walk_at "q"
     refine no ?_
     rw [eg, decide_eq_false c4]
     rfl
    ·rw [decide_eq_true c4, Bool.true_and] at eg
     walk_at "q"
     refine ⟨z, rfl, fun D hD => lc_sg (p := fun d => isLet d || isFig d) (by omega) hD (fun d H' A e k => ?_) (fun H' e hl => ?_)⟩
     ·walk_at "q"
      refine ⟨rfl, ?_⟩
      walk_at "q"
      have z1 := k H' Fr.refl
      rw [leS_l (d := 97) (by decide +kernel)]
      refine g_by (fun c5 => ?_) (fun c5 => ?_)
      ·walk_at "q"
       rw [leS_r (d := 122) (by decide +kernel)]
       refine g_by (fun c6 => ?_) (fun c6 => ?_)
       ·have e6 : isLet d = true := decide_eq_true ⟨c5, c6⟩
        simp only [e6, Bool.true_or] at z1
        rw [decide_eq_true c6]
        exact z1
       ·have e6 : isLet d = false := decide_eq_false fun q => c6 q.2
        have e7 : isFig d = false := decide_eq_false fun q => by omega
        simp only [e6, e7, Bool.or_false] at z1
        walk_at "q"
        rw [leS_l (d := 48) (by decide +kernel)]
        refine g_by (fun c7 => ?_) (fun c7 => ?_)
        ·walk_at "q"
         rw [leS_r (d := 57) (by decide +kernel), decide_eq_false (show ¬ d ≤ 57 by omega)]
         exact z1
        ·exact absurd (show 48 ≤ d by omega) c7
      ·have e6 : isLet d = false := decide_eq_false fun q => c5 q.1
       simp only [e6, Bool.false_or] at z1
       walk_at "q"
       rw [leS_l (d := 48) (by decide +kernel)]
       refine g_by (fun c7 => ?_) (fun c7 => ?_)
       ·walk_at "q"
        rw [leS_r (d := 57) (by decide +kernel)]
        have e7 : isFig d = decide (d ≤ 57) := decide_eq_decide.mpr ⟨fun q => q.2, fun q => ⟨c7, q⟩⟩
        rw [e7] at z1
        exact z1
       ·have e7 : isFig d = false := decide_eq_false fun q => c7 q.1
        rw [e7] at z1
        exact z1
     ·walk_at "q"
      refine ⟨D, _, rfl, SqL.of hl, ?_⟩
      have z1 := q H' e
      rw [eg, ← ez] at z1
      rw [List.all_map]
      exact z1
   ·walk_at "q"
    refine no ?_
    rw [eg, decide_eq_false c3]
    rfl
 ·walk_at "q"
  refine no ?_
  unfold goodW
  have e : z.cps.toList = [] := by
   cases e : z.cps.toList with
   | nil => rfl
   | cons c r => rw [e] at ll; simp at ll; omega
  rw [e]
  rfl
end
section
variable {P : Program} {w : World} {K : PySem.W.Frag} {mg : Str → Option Value} {base : Heap} {a_KEPT a_BadText a_TextError a_LoreError : Addr}
theorem ok__law_meant {f : Addr} {fd : FuncData} (F : FnP K "_law_meant" s__law_meant f fd) (B : BiV mg) (C__law_good_word : CalG P w K mg base 20 "_law_good_word" (spB goodW)) : FnG P w K mg base CX0 25 f fd ["_law_text"] spMeant := by
 refine okG F sc__law_meant (fun vs H Q E h => ?_) (fun cdv A outer s H vs Q E hr h => ?_)
 ·obtain ⟨z, rfl, _⟩ := h
  rfl
 obtain ⟨z, rfl, hz, q⟩ := h
 have zl := hz.len
 have zs : z.length ≤ sizeLine := le_of (by omega)
 have ll := len_l z
 refine ⟨_, PSs.nox (pss_cons (ps_if (pt_cmpR (kOp (K := K) (r := uIn) rfl opu_in) (pv 0) (pe_tup (pa_cons pe_str (pa_cons pe_str pa_nil))) (by rfl)) (pss_one (ps_ret (pe_lst (pa_cons (pe_cmpR (kOp (K := K) (r := uEq) rfl (opu_eq hr.units)) (pv 0) pe_str (nomark _)) pa_nil)))) pss_nil)
 (pss_cons (ps_if (PW.pt (pw_and (pt_cmpR opu_gt (pe_callB (kCall (K := K) (r := uLen) rfl callu_len) (by rfl) B.b_len (by decide +kernel) (pa_cons (pv 0) pa_nil)) pe_int (nomark _)) (pw_and (pt_cmpR (kOp (K := K) (r := uEq) rfl (opu_eq hr.units)) (pe_ix (kIx (K := K) (r := rIx) rfl ix_seq) (pv 0) pe_int (fun _ _ => rfl)) pe_str (nomark _)) (pw_and1 (pt_cmpR (kOp (K := K) (r := uEq) rfl (opu_eq hr.units)) (pe_ix (kIx (K := K) (r := rIx) rfl ix_seq) (pv 0) (pe_un un_neg pe_int) (fun _ _ => rfl)) pe_str (nomark _)))))) (pss_one (ps_ret (pe_ifExp (pt_val (pe_calG C__law_good_word hr rfl (pa_cons (pe_slice sl_str (pv 0) (po_some pe_int) (po_some (pe_un un_neg pe_int))) pa_nil))) (pe_lst (pa_cons (pe_slice sl_str (pv 0) (po_some pe_int) (po_some (pe_un un_neg pe_int))) pa_nil)) (pe_lst pa_nil)))) pss_nil)
 (pss_cons (ps_set (i := 1) sc__law_meant.nd rfl (.inl rfl) (pe_ifExp (pt_cmpR (kOp (K := K) (r := uEq) rfl (opu_eq hr.units)) (pe_slice sl_str (pv 0) po_none (po_some pe_int)) pe_str (nomark _)) (pe_slice sl_str (pv 0) (po_some pe_int) po_none) (pv 0)))
 (pss_cons (ps_set (i := 2) sc__law_meant.nd rfl (.inl rfl) (pe_andTK (K := K) rfl (pe_chain opu_le opu_le pe_int (pe_callB (kCall (K := K) (r := uLen) rfl callu_len) (by rfl) B.b_len (by decide +kernel) (pa_cons (pv 1) pa_nil)) pe_int) (pe_one (pe_callB (kCall (K := K) (r := rAll) rfl (cr_all rfl)) (by rfl) B.b_all (by decide +kernel) (pa_cons (pe_lc (own := [("_law_sign", 3)]) (g := gName 3) (tt := tYes) rfl sc__law_meant.nd (pi_str (pv 1)) (blkOk_by (own := [("_law_sign", 3)]) (N := ["_law_text", "_law_figures", "_law_good", "_law_sign"]) (sc := defScope s__law_meant) (by decide +kernel)) (fun _ _ _ _ _ => (by exact (pg_name (i := 3) sc__law_meant.nd rfl (by first | exact Or.inl rfl | exact Or.inr rfl)))) (fun _ _ _ _ _ => pts_nil) (fun _ _ _ _ _ => (by exact (pe_chain opu_le opu_le pe_str (pv 3) pe_str)))) pa_nil)))))
 (pss_cons (ps_if (PW.pt (pw_or (pt_not (pt_val (pv 2))) (pw_or (pt_cmpR (kOp (K := K) (r := uEq) rfl (opu_eq hr.units)) (pv 0) pe_str (nomark _)) (pw_or1 (PW.pt (pw_and (pt_cmpR opu_gt (pe_callB (kCall (K := K) (r := uLen) rfl callu_len) (by rfl) B.b_len (by decide +kernel) (pa_cons (pv 1) pa_nil)) pe_int (nomark _)) (pw_and1 (pt_cmpR (kOp (K := K) (r := uEq) rfl (opu_eq hr.units)) (pe_ix (kIx (K := K) (r := rIx) rfl ix_seq) (pv 1) pe_int (fun _ _ => rfl)) pe_str (nomark _))))))))) (pss_one (ps_ret (pe_lst pa_nil))) pss_nil)
 (pss_one (ps_ret (pe_lst (pa_cons (pe_callTy call_int_str (by rfl) B.b_int (by decide +kernel) (pa_cons (pv 0) pa_nil)) pa_nil))))))))), rd_start (σ0 := [some (.str z), none, none, none]) rfl ?_⟩
 have q2 : ∀ (H1 : Hp) (p : Addr) (xs : List V), Fr [] H H1 → H1 p = none → (meantV z).toList = xs → Q (.ref p) (upd H1 p (.lst xs)) := fun H1 p xs e1 hp e => by
  subst e
  exact q p _ (e1.trans (Fr.new hp)) (e1.back (fun z => nomatch z) hp) upd_same
 walk_at "q"
 refine ⟨le_of (by simp), two_in _ _ _ _ _ fun H1 e1 => ?_⟩
 walk_at "q"
 refine g_by (fun c => ?_) (fun c => ?_)
 ·walk_at "q"
  have c2 : z = "yes" ∨ z = "no" := by simpa using c
  refine ⟨le_of (by simp), fun p hp => q2 _ _ _ e1 hp ?_⟩
  rcases c2 with rfl | rfl
  ·rfl
  ·have d : ¬ (("no" : Str) = "yes") := by decide +kernel
   unfold meantV
   rw [if_neg d, if_pos rfl, decide_eq_false d]
   rfl
 ·have c2 : ¬ z = "yes" ∧ ¬ z = "no" := by simpa using c
  have em : meantV z = if numB z = true then some (.int ((intText? z).getD 0)) else if quoB z = true ∧ goodL (midL z) = true then some (.str (cutS z (some 1) (some (-1)))) else none := by
   unfold meantV
   rw [if_neg c2.1, if_neg c2.2]
  repeat walk_at "if"
  try dsimp only
  with_reducible refine g_cutS (fun σ' H' => σ' = [some (.str z), none, none, none] ∧ quoB z = false ∧ H' = H1) (fun σ' H' h => ?_) (fun N k => ?_)
  rotate_left
  ·have eq : quoB z = (decide (3 ≤ z.length) && (decide (z.cps.toList.head? = some 39) && decide (z.cps.toList.getLast? = some 39))) := rfl
   walk_at "q"
   refine g_lenS zs ?_
   walk_at "q"
   refine g_by (fun c3 => ?_) (fun c3 => ?_)
   ·obtain ⟨c0, r, ez⟩ : ∃ c r, z.cps.toList = c :: r := by
     cases e : z.cps.toList with
     | nil => rw [e] at ll; simp at ll; omega
     | cons c r => exact ⟨c, r, rfl⟩
    have h3 : 3 ≤ z.length := by omega
    rw [decide_eq_true h3, Bool.true_and] at eq
    have eh : decide (z.cps.toList.head? = some 39) = decide (c0 = 39) := by rw [ez]; exact decide_eq_decide.mpr (by simp)
    rw [eh] at eq
    walk_at "q"
    refine g_ixS zs (at0 ez) ?_
    walk_at "q"
    have e5 : decide ((⟨#[c0]⟩ : Str) = "'") = decide (c0 = 39) := by rw [dec_str]; exact decide_eq_decide.mpr (by show [c0] = [39] ↔ c0 = 39; simp)
    rw [e5]
    refine g_by (fun c5 => ?_) (fun c5 => ?_)
    ·rw [decide_eq_true c5, Bool.true_and] at eq
     obtain ⟨c1, ec1⟩ : ∃ c, z.cps.toList.getLast? = some c := by rw [ez]; exact ⟨_, List.getLast?_eq_some_getLast (by simp)⟩
     have el : decide (z.cps.toList.getLast? = some 39) = decide (c1 = 39) := by rw [ec1]; exact decide_eq_decide.mpr (by simp)
     rw [el] at eq
     walk_at "q"
     refine g_ixS zs (atI_last ec1) ?_
     walk_at "q"
     have e6 : decide ((⟨#[c1]⟩ : Str) = "'") = decide (c1 = 39) := by rw [dec_str]; exact decide_eq_decide.mpr (by show [c1] = [39] ↔ c1 = 39; simp)
     rw [e6]
     refine g_by (fun c6 => ?_) (fun c6 => ?_)
     ·rw [decide_eq_true c6] at eq
      have hn : numB z = false := by
       unfold numB
       rw [ez, c5, figL_cons, if_neg (by decide)]
       simp [isFig]
      rw [if_neg (by rw [hn]; exact Bool.false_ne_true)] at em
      have ml : (cutS z (some 1) (some (-1))).length ≤ z.length := cutS_length z _ _
      walk_at "q"
      refine g_slS zs ?_
      refine ⟨cutS z (some 1) (some (-1)), rfl, ⟨by omega, fun c hc => ?_⟩, fun H3 e3 => ?_⟩
      ·rw [meant_mid] at hc
       exact hz.ok c (List.mem_of_mem_drop ((List.dropLast_sublist _).subset hc))
      ·have eg : goodW (cutS z (some 1) (some (-1))) = goodL (midL z) := by
        unfold goodW
        rw [meant_mid]
       rw [eg]
       walk_at "q"
       refine g_byB (fun hg => ?_) (fun hg => ?_)
       ·walk_at "q"
        refine g_slS zs ?_
        walk_at "q"
        refine ⟨le_of (by simp), fun p hp => q2 _ _ _ (e1.trans e3) hp ?_⟩
        rw [em, if_pos ⟨eq, hg⟩]
        rfl
       ·walk_at "q"
        refine ⟨le_of (by simp), fun p hp => q2 _ _ _ (e1.trans e3) hp ?_⟩
        rw [em, if_neg (fun q => by rw [hg] at q; exact absurd q.2 Bool.false_ne_true)]
        rfl
     ·walk_at "q"
      exact k _ _ ⟨rfl, by rw [eq, decide_eq_false c6], rfl⟩
    ·walk_at "q"
     exact k _ _ ⟨rfl, by rw [eq, decide_eq_false c5]; rfl, rfl⟩
   ·walk_at "q"
    exact k _ _ ⟨rfl, by rw [eq, decide_eq_false (by omega)]; rfl, rfl⟩
  obtain ⟨rfl, hq, rfl⟩ := h
  have em2 : meantV z = if numB z = true then some (.int ((intText? z).getD 0)) else none := by
   rw [em]
   by_cases hb : numB z = true
   ·rw [if_pos hb, if_pos hb]
   ·rw [if_neg hb, if_neg hb, if_neg (fun q => absurd (hq.symm.trans q.1) Bool.false_ne_true)]
  refine g_seq (g_asg (g_cutE (fun x H2 => H2 = H' ∧ ∃ y, x = .str y ∧ y.cps.toList = figL z.cps.toList) (fun x H2 h => ?_) (fun Q' k => ?_)))
  rotate_left
  ·walk_at "q"
   refine g_slS zs ?_
   walk_at "q"
   rw [minus_head]
   refine g_by (fun c => ?_) (fun c => ?_)
   ·walk_at "q"
    refine g_slS zs ?_
    refine k _ _ ⟨rfl, _, rfl, ?_⟩
    rw [cut_drop1]
    cases e : z.cps.toList with
    | nil => rfl
    | cons d r =>
     rw [e] at c
     have c2 : d = 45 := by simpa using c
     subst c2
     rfl
   ·walk_at "q"
    refine k _ _ ⟨rfl, _, rfl, ?_⟩
    cases e : z.cps.toList with
    | nil => rfl
    | cons d r =>
     rw [e] at c
     have c2 : ¬ d = 45 := by simpa using c
     rw [figL_cons, if_neg c2]
  obtain ⟨rfl, y, rfl, hy⟩ := h
  have fl : (figL z.cps.toList).length ≤ z.cps.toList.length := by
   cases e : z.cps.toList with
   | nil => exact Nat.le_refl _
   | cons d r =>
    rw [figL_cons]
    by_cases c : d = 45
    ·rw [if_pos c]; simp
    ·rw [if_neg c]; exact Nat.le_refl _
  have yl : y.length = (figL z.cps.toList).length := by rw [len_l, hy]
  have ys : y.length ≤ sizeLine := le_of (by omega)
  have en : numB z = (decide (1 ≤ y.length ∧ y.length ≤ 30) && (y.cps.toList.all isFig && (!decide (z = "-0") && (decide (y.cps.toList = [48]) || !decide (y.cps.toList.head? = some 48))))) := by
   unfold numB
   rw [← hy, ← len_l]
  refine g_name ?_
  dsimp only
  refine g_seq (g_asg (g_cutE (fun x H3 => Fr [] H2 H3 ∧ x = .bl (decide (1 ≤ y.length ∧ y.length ≤ 30) && y.cps.toList.all isFig)) (fun x H3 h => ?_) (fun Q' k => ?_)))
  rotate_left
  ·walk_at "q"
   refine g_lenS ys ?_
   walk_at "q"
   refine g_by (fun c3 => ?_) (fun c3 => ?_)
   ·walk_at "q"
    refine g_by (fun c4 => ?_) (fun c4 => ?_)
    ·have h : 1 ≤ y.length ∧ y.length ≤ 30 := by omega
     walk_at "q"
     refine ⟨y, rfl, fun D hD => lc_sg (p := isFig) (by omega) hD (fun d H2 A e k => ?_) (fun H4 e hl => ?_)⟩
     ·walk_at "q"
      refine ⟨rfl, ?_⟩
      walk_at "q"
      rw [leS_l (d := 48) (by decide +kernel)]
      have z1 := k _ Fr.refl
      refine g_by (fun c7 => ?_) (fun c7 => ?_)
      ·walk_at "q"
       rw [leS_r (d := 57) (by decide +kernel)]
       have e7 : isFig d = decide (d ≤ 57) := decide_eq_decide.mpr ⟨fun q => q.2, fun q => ⟨c7, q⟩⟩
       rw [e7] at z1
       exact z1
      ·have e7 : isFig d = false := decide_eq_false fun q => c7 q.1
       rw [e7] at z1
       exact z1
     ·walk_at "q"
      refine ⟨D, _, rfl, SqL.of hl, ?_⟩
      refine k _ _ ⟨e, ?_⟩
      rw [List.all_map, decide_eq_true h, Bool.true_and]
      rfl
    ·walk_at "q"
     refine k _ _ ⟨Fr.refl, ?_⟩
     rw [decide_eq_false (show ¬ (1 ≤ y.length ∧ y.length ≤ 30) by omega), decide_eq_false c4]
     rfl
   ·walk_at "q"
    refine k _ _ ⟨Fr.refl, ?_⟩
    rw [decide_eq_false (show ¬ (1 ≤ y.length ∧ y.length ≤ 30) by omega)]
    rfl
  obtain ⟨e3, rfl⟩ := h
  have e13 := e1.trans e3
  have bad : numB z = false → ∀ p, H3 p = none → Q (.ref p) (upd H3 p (.lst [])) := fun hb p hp => q2 _ _ _ e13 hp (by rw [em2, hb]; rfl)
  have good : numB z = true → ∀ (A : Ends), A.rt = Q → tRet (tLst (tCons (tCB (fun xs H Q => ∃ a n, xs = [V.str a] ∧ intText? a = some n ∧ a.length ≤ 640 ∧ Q (.int n) H) (tCons (tVar 0) tNil)) tNil)) A [some (.str z), some (.str y), some (.bl (decide (1 ≤ y.length ∧ y.length ≤ 30) && y.cps.toList.all isFig)), none] H3 := fun hb A hA => by
   obtain ⟨n, hn, _⟩ := num_int hb
   walk_at "q"
   refine ⟨z, n, rfl, hn, by omega, ?_⟩
   walk_at "q"
   rw [hA]
   refine ⟨le_of (by simp), fun p hp => q2 _ _ _ e13 hp (by rw [em2, if_pos hb, hn]; rfl)⟩
  generalize hg : (decide (1 ≤ y.length ∧ y.length ≤ 30) && y.cps.toList.all isFig) = g at *
  rw [← Bool.and_assoc, hg] at en
  walk_at "q"
  cases g with
  | false =>
   refine g_tt rfl ?_
   walk_at "q"
   exact ⟨le_of (by simp), fun p hp => bad en p hp⟩
  | true =>
   rw [Bool.true_and] at en
   simp only [Bool.and_eq_true, decide_eq_true_eq] at hg
   refine g_ff rfl ?_
   walk_at "q"
   refine g_by (fun c3 => ?_) (fun c3 => ?_)
   ·walk_at "q"
    exact ⟨le_of (by simp), fun p hp => bad (by rw [en, decide_eq_true c3]; rfl) p hp⟩
   ·rw [decide_eq_false c3, Bool.not_false, Bool.true_and] at en
    obtain ⟨c0, r, ey⟩ : ∃ c r, y.cps.toList = c :: r := by
     cases e : y.cps.toList with
     | nil => have := len_l y; rw [e] at this; simp at this; omega
     | cons c r => exact ⟨c, r, rfl⟩
    have ly : y.length = r.length + 1 := by rw [len_l, ey]; rfl
    walk_at "q"
    refine g_lenS ys ?_
    walk_at "q"
    refine g_by (fun c4 => ?_) (fun c4 => ?_)
    ·walk_at "q"
     refine g_ixS ys (at0 ey) ?_
     walk_at "q"
     have e5 : decide ((⟨#[c0]⟩ : Str) = "0") = decide (c0 = 48) := by rw [dec_str]; exact decide_eq_decide.mpr (by show [c0] = [48] ↔ c0 = 48; simp)
     rw [e5]
     have r1 : 0 < r.length := by omega
     have e6 : decide (y.cps.toList = [48]) = false := decide_eq_false fun e => by rw [ey] at e; rw [(List.cons.inj e).2] at r1; exact absurd r1 (Nat.lt_irrefl _)
     rw [e6, Bool.false_or, ey] at en
     refine g_by (fun c5 => ?_) (fun c5 => ?_)
     ·walk_at "q"
      exact ⟨le_of (by simp), fun p hp => bad (by rw [en, c5]; rfl) p hp⟩
     ·refine good ?_ _ rfl
      rw [en]
      simp [c5]
    ·refine good ?_ _ rfl
     have e0 : r = [] := List.length_eq_zero_iff.mp (by omega)
     rw [en, ey, e0]
     by_cases c5 : c0 = 48 <;> simp [c5]
theorem ok__law_tried {f : Addr} {fd : FuncData} (F : FnP K "_law_tried" s__law_tried f fd) (B : BiV mg) (C_read_value : CalX P w K mg base 25 "read_value" (spRead a_BadText))
  (G_BadText : ClG P w K mg base 2 "BadText" a_BadText (spI1 K "badtext" "at")) (G_TextError : ClG P w K mg base 1 "TextError" a_TextError (spL K)) (G_LoreError : ClG P w K mg base 1 "LoreError" a_LoreError (spL K)) (X : ExF K a_BadText a_TextError a_LoreError) :
  FnG P w K mg base CX0 30 f fd ["_law_text"] spTried := by
 refine okG F sc__law_tried (fun vs H Q E h => ?_) (fun cdv A outer s H vs Q E hr h => ?_)
 ·obtain ⟨z, rfl, _⟩ := h
  rfl
 obtain ⟨z, rfl, hz, q⟩ := h
 refine ⟨_, PSs.nox (pss_cons (ps_set (i := 1) sc__law_tried.nd rfl (.inl rfl) (pe_lst pa_nil))
 (pss_cons (ps_tryK (K := K) (i := 2) (Wout := fun _ _ _ _ => False) rfl rfl rfl sc__law_tried.nd rfl rfl ⟨rfl, by decide, .inl G_TextError.m⟩ takes0 (fun W pn xe tk _ => by exact (pss_one (ps_set (i := 1) sc__law_tried.nd rfl (.inl rfl) (pe_lst (pa_cons (pe_calX C_read_value tk hr rfl (pa_cons (pv 0) pa_nil)) pa_nil))))) (fun a oe cls d pn hz hf => by exact (pss_one (ps_set (i := 1) sc__law_tried.nd rfl (.inl rfl) (pe_lst (pa_cons pe_str (pa_cons (pe_callB (kCall (K := K) (r := fun K => rIsS K a cls d) rfl (call_isS hz hf)) (by rfl) B.b_isinstance (by decide +kernel) (pa_cons (pv 2) (pa_cons (pe_glob (v := .ref a_BadText) rfl G_BadText.m rfl) pa_nil))) (pa_cons (pe_callB (kCall (K := K) (r := fun K => rIsS K a cls d) rfl (call_isS hz hf)) (by rfl) B.b_isinstance (by decide +kernel) (pa_cons (pv 2) (pa_cons (pe_glob (v := .ref a_LoreError) rfl G_LoreError.m rfl) pa_nil))) (pa_cons (pe_callB (kCall (K := K) (r := fun K => rIsS K a cls d) rfl (call_isS hz hf)) (by rfl) B.b_isinstance (by decide +kernel) (pa_cons (pv 2) (pa_cons (pe_bltn (v := .ty "ValueError") (by rfl) B.b_ValueError (by decide +kernel) rfl) pa_nil))) (pa_cons (kXs (K := K) rfl (pe_xs "at" hz hf (pv 2))) (pa_cons (kXs (K := K) rfl (pe_xs "word" hz hf (pv 2))) pa_nil)))))))))))
 (pss_one (ps_ret (pv 1))))), rd_start (σ0 := [some (.str z), none, none]) rfl ?_⟩
 walk_at "q"
 refine ⟨le_of (by simp), fun p hp => ?_⟩
 have e1 : Fr [] H (upd H p (.lst [])) := Fr.new hp
 generalize upd H p (.lst []) = H1 at *
 walk_at "q"
 refine ⟨z, rfl, hz, fun v H2 hm e2 => ?_, fun d H2 hm e2 hd => ?_⟩
 ·walk_at "q"
  refine ⟨le_of (by simp), fun p2 hp2 => ?_⟩
  walk_at "q"
  refine q _ _ ((e1.trans e2).trans (Fr.new hp2)) ?_
  rw [upd_same]
  unfold foundL
  rw [hm]
 ·refine g_wAs X.ex fun a ha => ?_
  walk_at "q"
  refine ⟨a_BadText, d, badFs, .ref a_BadText, .ref a_BadText, true, rfl, rfl, rfl, hd, G_BadText.ec, fun u h => h, X.k1, ?_⟩
  walk_at "q"
  refine ⟨a_BadText, d, badFs, .ref a_LoreError, .ref a_LoreError, true, rfl, rfl, rfl, hd, G_BadText.ec, fun u h => h, X.k2, ?_⟩
  walk_at "q"
  refine ⟨a_BadText, d, badFs, .ty "ValueError", .type "ValueError", true, rfl, rfl, rfl, hd, G_BadText.ec, fun u h => h, X.k3, ?_⟩
  walk_at "q"
  refine ⟨rfl, a_BadText, d, badFs, .int 0, rfl, rfl, G_BadText.ec, X.n2, hd, rfl, ?_⟩
  walk_at "q"
  refine ⟨rfl, a_BadText, d, badFs, .str "badtext", rfl, rfl, G_BadText.ec, X.n1, hd, rfl, ?_⟩
  walk_at "q"
  refine ⟨le_of (by simp), fun p2 hp2 => ?_⟩
  walk_at "q"
  refine q _ _ ((e1.trans e2).trans (Fr.new hp2)) ?_
  rw [upd_same]
  unfold foundL
  rw [hm]
  rfl
end
abbrev s_law : Stmt := topS 30
theorem sc_law : FnScope ["_law_script", "_law_bag_here", "_law_k", "_law_value_here", "_law_text", "_law_spot", "_law_sign", "_law_bent", "_law_due", "_law_word_here", "_law_good"] ["_law_script"] (defScope s_law) := ⟨rfl, rfl, rfl, by decide +kernel, rfl, by decide +kernel, by decide +kernel⟩
def spLaw (K : PySem.W.Frag) : Sp := fun vs H Q _ => ∃ (a : Addr) (ns : List Int), vs = [.ref a] ∧ SqL K H a (ns.map V.int) ∧ ns.length ≤ 63 ∧ ∀ H', Q (.bl true) H'
theorem val_data {K : PySem.W.Frag} {H : Hp} {k : Str} {u : V} (h : ValOf k u) : Td K H u (scD u) ∧ Sm 2 (scD u) := by
 rcases h with ⟨_, n, rfl, h1, h2⟩ | ⟨_, b, rfl⟩ | ⟨_, x, rfl, hx⟩
 ·exact ⟨.int n, log1920 (by omega)⟩
 ·exact ⟨.bl b, trivial⟩
 ·exact ⟨.str x, hx.tx.short (by decide)⟩
theorem sm_str {n m : Nat} {z : Str} (h : Tx m z) (l : m ≤ 9000) : Sm (n + 1) (.str z) := h.short l
theorem meant_sm {K : PySem.W.Frag} {H : Hp} {z : Str} {v : V} (hz : Tx 100 z) (h : meantV z = some v) : Td K H v (scD v) ∧ Sm 2 (scD v) := by
 unfold meantV at h
 split at h
 ·cases h; exact ⟨.bl _, trivial⟩
 ·split at h
  ·cases h; exact ⟨.bl _, trivial⟩
  ·split at h
   ·rename_i hn
    obtain ⟨n, e, hb⟩ := num_int hn
    rw [e] at h
    cases h
    exact ⟨.int n, log1920 hb⟩
   ·split at h
    ·cases h
     have ml : (cutS z (some 1) (some (-1))).length ≤ z.length := cutS_length z _ _
     have hl := hz.len
     have t : Tx 100 (cutS z (some 1) (some (-1))) := ⟨by omega, fun c hc => by
      rw [meant_mid] at hc
      exact hz.ok c (List.mem_of_mem_drop ((List.dropLast_sublist _).subset hc))⟩
     exact ⟨.str _, t.short (by decide)⟩
    ·cases h
theorem Tx.cut {n : Nat} {z : Str} (h : Tx n z) {lo hi : Option Int} : Tx n (cutS z lo hi) := ⟨Nat.le_trans (cutS_length z lo hi) h.len, fun c hc => by
 unfold cutS at hc
 exact h.ok c (List.mem_of_mem_drop (List.mem_of_mem_take hc))⟩
def signW : List Str := ["", "0", "-", "'", "a", "A", " ", "_", ".", "9"]
theorem sign_tx {s : Str} (h : s ∈ signW) : Tx 1 s := by
 unfold signW at h
 simp only [List.mem_cons, List.not_mem_nil, or_false] at h
 rcases h with rfl | rfl | rfl | rfl | rfl | rfl | rfl | rfl | rfl | rfl <;> exact Tx.lit (by decide +kernel)
def wordsW (x bent : Str) : List Str := [x, bent, "count", "me", "not", "", ⟨(List.replicate (12 : Int).toNat ("a" : Str).cps).foldl (· ++ ·) #[]⟩, ⟨(List.replicate (13 : Int).toNat ("a" : Str).cps).foldl (· ++ ·) #[]⟩, "if1"]
theorem words_tx {x bent s : Str} (hx : Tx 12 x) (hb : Tx 100 bent) (h : s ∈ wordsW x bent) : Tx 100 s := by
 unfold wordsW at h
 simp only [List.mem_cons, List.not_mem_nil, or_false] at h
 rcases h with rfl | rfl | rfl | rfl | rfl | rfl | rfl | rfl | rfl
 ·exact hx.mono (by decide)
 ·exact hb
 all_goals exact Tx.lit (by decide +kernel)
structure BiK (mg : Str → Option Value) : Prop where
 b_range : mg "range" = none
 b_len : mg "len" = none
section
variable {P : Program} {w : World} {K : PySem.W.Frag} {mg : Str → Option Value} {base : Heap} {a_BadText : Addr}
theorem ok_law {f : Addr} {fd : FuncData} (F : FnP K "law" s_law f fd) (B : BiK mg) (C__law_bag : CalG P w K mg base 10 "_law_bag" (spBag K)) (C__law_pull : CalG P w K mg base 10 "_law_pull" spPull) (C__law_one : CalG P w K mg base 20 "_law_one" (spOne K)) (C__law_word : CalG P w K mg base 30 "_law_word" spWord)
  (C__law_value : CalG P w K mg base 40 "_law_value" spValue) (C__law_value_text : CalG P w K mg base 1 "_law_value_text" spValTL) (C_value_text : CalG P w K mg base 1 "value_text" spValT)
  (C_kind_of : CalG P w K mg base 20 "kind_of" (fun vs H Q _ => ∃ v k, vs = [v] ∧ ValOf k v ∧ ∀ H', Fr [] H H' → Q (.str k) H')) (C__law_kind : CalG P w K mg base 20 "_law_kind" (fun vs H Q _ => ∃ v k, vs = [v] ∧ ValOf k v ∧ ∀ H', Fr [] H H' → Q (.str k) H'))
  (C_read_value : CalX P w K mg base 25 "read_value" (spRead a_BadText)) (C__law_same : CalG P w K mg base 3 "_law_same" (spSame K 3)) (C__law_meant : CalG P w K mg base 25 "_law_meant" spMeant) (C__law_tried : CalG P w K mg base 30 "_law_tried" spTried)
  (C__law_good_word : CalG P w K mg base 20 "_law_good_word" (spB goodW)) (C_is_word : CalG P w K mg base 20 "is_word" (spB goodW)) (C_is_name : CalG P w K mg base 21 "is_name" (spB fun z => goodW z && !decide (z ∈ keptW))) (C__law_barred : CalG P w K mg base 1 "_law_barred" (spB fun z => decide (z ∈ keptW))) :
  FnG P w K mg base CX0 100 f fd ["_law_script"] (spLaw K) := by
 refine okG F sc_law (fun vs H Q E h => ?_) (fun cdv A outer s H vs Q E hr h => ?_)
 ·obtain ⟨a, ns, rfl, _⟩ := h
  rfl
 obtain ⟨a, ns, rfl, hS, hl, q⟩ := h
 have tk : ∀ {X : Cx}, Takes X (fun _ _ _ _ => False) := takes0
 refine ⟨_, PSs.nox (pss_cons (ps_set (i := 1) sc_law.nd rfl (.inl rfl) (pe_calG C__law_bag hr rfl (pa_cons (pv 0) pa_nil)))
 (pss_cons (ps_for PassesOwn.never rfl (pi_range1 rfl B.b_range (pa_cons pe_int pa_nil)) (pg_name (i := 2) sc_law.nd rfl (by first | exact Or.inl rfl | exact Or.inr rfl)) (pss_cons (ps_set (i := 3) sc_law.nd rfl (.inl rfl) (pe_calG C__law_value hr rfl (pa_cons (pv 1) (pa_cons (pe_calG C__law_one hr rfl (pa_cons (pv 1) (pa_cons (pe_lst (pa_cons pe_str (pa_cons pe_str (pa_cons pe_str pa_nil)))) pa_nil))) pa_nil))))
 (pss_cons (ps_set (i := 4) sc_law.nd rfl (.inl rfl) (pe_calG C__law_value_text hr rfl (pa_cons (pv 3) pa_nil)))
 (pss_cons (ps_if (pt_not (pt_val (pe_calG C__law_same hr rfl (pa_cons (pe_lst (pa_cons (pe_calG C_value_text hr rfl (pa_cons (pv 3) pa_nil)) (pa_cons (pe_calG C_kind_of hr rfl (pa_cons (pv 3) pa_nil)) (pa_cons (pe_calX C_read_value tk hr rfl (pa_cons (pv 4) pa_nil)) pa_nil)))) (pa_cons (pe_lst (pa_cons (pv 4) (pa_cons (pe_calG C__law_kind hr rfl (pa_cons (pv 3) pa_nil)) (pa_cons (pv 3) pa_nil)))) pa_nil))))) (pss_one (ps_ret pe_bl)) pss_nil)
 (pss_cons (ps_set (i := 5) sc_law.nd rfl (.inl rfl) (pe_calG C__law_pull hr rfl (pa_cons (pv 1) (pa_cons (pe_op (kOp (K := K) (r := uAdd) rfl opu_add) (pe_callB (kCall (K := K) (r := uLen) rfl callu_len) (by rfl) B.b_len (by decide +kernel) (pa_cons (pv 4) pa_nil)) pe_int) pa_nil))))
 (pss_cons (ps_set (i := 6) sc_law.nd rfl (.inl rfl) (pe_calG C__law_one hr rfl (pa_cons (pv 1) (pa_cons (pe_lst (pa_cons pe_str (pa_cons pe_str (pa_cons pe_str (pa_cons pe_str (pa_cons pe_str (pa_cons pe_str (pa_cons pe_str (pa_cons pe_str (pa_cons pe_str (pa_cons pe_str pa_nil))))))))))) pa_nil))))
 (pss_cons (ps_set (i := 7) sc_law.nd rfl (.inl rfl) (pe_op (kOp (K := K) (r := uAdd) rfl opu_add) (pe_op (kOp (K := K) (r := uAdd) rfl opu_add) (pe_slice sl_str (pv 4) po_none (po_some (pv 5))) (pv 6)) (pe_slice sl_str (pv 4) (po_some (pe_op (kOp (K := K) (r := uAdd) rfl opu_add) (pv 5) (pe_calG C__law_pull hr rfl (pa_cons (pv 1) (pa_cons pe_int pa_nil))))) po_none)))
 (pss_cons (ps_set (i := 8) sc_law.nd rfl (.inl rfl) (pe_calG C__law_meant hr rfl (pa_cons (pv 7) pa_nil)))
 (pss_cons (ps_if (pt_not (pt_val (pe_calG C__law_same hr rfl (pa_cons (pe_calG C__law_tried hr rfl (pa_cons (pv 7) pa_nil)) (pa_cons (pe_ifExp (pt_cmpR (kOp (K := K) (r := uNe) rfl (opu_ne hr.units)) (pv 8) (pe_lst pa_nil) (nomark _)) (pv 8) (pe_lst (pa_cons pe_str (pa_cons pe_bl (pa_cons pe_bl (pa_cons pe_bl (pa_cons pe_int (pa_cons pe_str pa_nil)))))))) pa_nil))))) (pss_one (ps_ret pe_bl)) pss_nil)
 (pss_cons (ps_set (i := 9) sc_law.nd rfl (.inl rfl) (pe_calG C__law_one hr rfl (pa_cons (pv 1) (pa_cons (pe_lst (pa_cons (pe_calG C__law_word hr rfl (pa_cons (pv 1) pa_nil)) (pa_cons (pv 7) (pa_cons pe_str (pa_cons pe_str (pa_cons pe_str (pa_cons pe_str (pa_cons (pe_op opu_mul pe_str pe_int) (pa_cons (pe_op opu_mul pe_str pe_int) (pa_cons pe_str pa_nil)))))))))) pa_nil))))
 (pss_cons (ps_set (i := 10) sc_law.nd rfl (.inl rfl) (pe_calG C__law_good_word hr rfl (pa_cons (pv 9) pa_nil)))
 (pss_one (ps_if (pt_not (pt_val (pe_calG C__law_same hr rfl (pa_cons (pe_lst (pa_cons (pe_calG C_is_word hr rfl (pa_cons (pv 9) pa_nil)) (pa_cons (pe_calG C_is_name hr rfl (pa_cons (pv 9) pa_nil)) pa_nil))) (pa_cons (pe_lst (pa_cons (pv 10) (pa_cons (pe_andTK (K := K) rfl (pv 10) (pe_one (pe_notTK (K := K) rfl (pe_calG C__law_barred hr rfl (pa_cons (pv 9) pa_nil)) ))) pa_nil))) pa_nil))))) (pss_one (ps_ret pe_bl)) pss_nil)))))))))))))
 (pss_one (ps_ret pe_bl)))), rd_start (σ0 := [some (.ref a), none, none, none, none, none, none, none, none, none, none]) rfl ?_⟩
 walk_at "q"
 refine ⟨a, ns, rfl, hS, hl, fun b cs H1 hF1 hb1 hB1 => ?_⟩
 walk_at "q"
 refine ⟨8, rfl, by decide, by decide, for_range (lo := 0) (n := 8) (fun i σ H' => BagAt H' b cs ∧ ∃ z1 z2 z3 z4 z5 z6 z7 z8 z9, σ = [some (.ref a), some (.ref b), z1, z2, z3, z4, z5, z6, z7, z8, z9]) ⟨hB1, _, _, _, _, _, _, _, _, _, rfl⟩ (fun i σ H2 hi h => ?_) (fun σ H' h => ?_)⟩
 ·obtain ⟨hB2, z1, z2, z3, z4, z5, z6, z7, z8, z9, rfl⟩ := h
  walk_at "q"
  refine ⟨le_of (by simp), fun p3 hp3 => ?_⟩
  have e3 : Fr [] H2 (upd H2 p3 (.lst [V.str "number", .str "word", .str "flag"])) := Fr.new hp3
  have hp31 : (upd H2 p3 (.lst [V.str "number", .str "word", .str "flag"])) p3 = some (.lst [.str "number", .str "word", .str "flag"]) := upd_same
  generalize upd H2 p3 (.lst [V.str "number", .str "word", .str "flag"]) = H3 at *
  have hB3 := hB2.fr0 e3
  have hnb := (hB2.some hp3).1
  walk_at "q"
  refine ⟨b, cs, p3, _, rfl, hB3, .inl ⟨SqL.of hp31, hnb⟩, by decide, by decide, fun v H4 hv hB4 e4 => ?_⟩
  obtain ⟨k, rfl, hk⟩ : ∃ k : Str, v = .str k ∧ (k = "number" ∨ k = "flag" ∨ k = "word") := by
   simp only [List.mem_cons, List.not_mem_nil, or_false] at hv
   rcases hv with rfl | rfl | rfl
   ·exact ⟨_, rfl, .inl rfl⟩
   ·exact ⟨_, rfl, .inr (.inr rfl)⟩
   ·exact ⟨_, rfl, .inr (.inl rfl)⟩
  refine ⟨b, cs, k, rfl, hk, hB4, fun u H5 hu hB5 e5 => ?_⟩
  walk_at "q"
  refine ⟨u, rfl, hu.g, fun H6 e6 => ?_⟩
  have hB6 := hB5.fr0 e6
  have hT := hu.g.tx
  have hTl := hT.len
  generalize hT0 : valT u = T at *
  have hm : meantV T = some u := by rw [← hT0]; exact meant_val hu
  walk_at "q"
  refine ⟨u, rfl, hu.g, ?_⟩
  rw [hT0]
  walk_at "q"
  refine ⟨u, k, rfl, hu, fun H7 e7 => ?_⟩
  walk_at "q"
  refine ⟨T, rfl, hT.mono (by decide), fun v H8 hv e8 => ?_, fun d H8 hv => ?_⟩
  rotate_left
  ·rw [hm] at hv
   cases hv
  rw [hm] at hv
  cases hv
  walk_at "q"
  refine ⟨le_of (by simp), fun p9 hp9 => ?_⟩
  have e9 : Fr [] H8 (upd H8 p9 (.lst [V.str T, .str k, u])) := Fr.new hp9
  have h9 : (upd H8 p9 (.lst [V.str T, .str k, u])) p9 = some (.lst [.str T, .str k, u]) := upd_same
  generalize upd H8 p9 (.lst [V.str T, .str k, u]) = H9 at *
  walk_at "q"
  refine ⟨u, k, rfl, hu, fun H10 e10 => ?_⟩
  walk_at "q"
  refine ⟨le_of (by simp), fun p11 hp11 => ?_⟩
  have e11 : Fr [] H10 (upd H10 p11 (.lst [V.str T, .str k, u])) := Fr.new hp11
  have h11 : (upd H10 p11 (.lst [V.str T, .str k, u])) p11 = some (.lst [.str T, .str k, u]) := upd_same
  have h911 := (e10.trans e11).at h9 (fun z => nomatch z)
  generalize upd H10 p11 (.lst [V.str T, .str k, u]) = H11 at *
  have hB11 := ((((hB6.fr0 e7).fr0 e8).fr0 e9).fr0 e10).fr0 e11
  walk_at "q"
  have vd := val_data (K := K) (H := H11) hu
  have kt : Tx 6 k := by rcases hk with rfl | rfl | rfl <;> exact Tx.lit (by decide +kernel)
  refine ⟨.ref p9, .ref p11, .list [.str T, .str k, scD u], rfl, .lst (SqL.of h911) (.cons (.str T) (.cons (.str k) (.cons vd.1.dp .nil))), .lst (SqL.of h11) (.cons (.str T) (.cons (.str k) (.cons vd.1.dp .nil))), ?_, fun H12 e12 => ?_⟩
  ·refine ⟨by simp, fun d hd => ?_⟩
   simp only [List.mem_cons, List.not_mem_nil, or_false] at hd
   rcases hd with rfl | rfl | rfl
   ·exact sm_str hT (by decide)
   ·exact sm_str kt (by decide)
   ·exact vd.2
  have hB12 := hB11.fr0 e12
  clear e3 e4 e5 e6 e7 e8 e9 e10 e11 e12 h911 h9 h11 hp31
  walk_at "q"
  have Ts : T.length ≤ sizeLine := le_of (by omega)
  refine g_lenS Ts ?_
  walk_at "q"
  refine ⟨b, cs, _, rfl, hB12, by omega, by omega, fun d H13 d0 d1 hB13 e13 => ?_⟩
  walk_at "q"
  refine ⟨le_of (by simp), fun p14 hp14 => ?_⟩
  have e14 : Fr [] H13 (upd H13 p14 (.lst (signW.map V.str))) := Fr.new hp14
  have h14 : (upd H13 p14 (.lst (signW.map V.str))) p14 = some (.lst (signW.map V.str)) := upd_same
  have hB14 := hB13.fr0 e14
  have hnb14 := (hB13.some hp14).1
  refine ⟨b, cs, p14, signW.map V.str, rfl, hB14, .inl ⟨SqL.of h14, hnb14⟩, by decide, by decide, fun v H15 hv hB15 e15 => ?_⟩
  obtain ⟨sg, hsg, rfl⟩ := List.mem_map.mp hv
  have tsg : Tx 1 sg := sign_tx hsg
  have tsl := tsg.len
  walk_at "q"
  refine g_slS Ts ?_
  have c1 : Tx 31 (cutS T none (some d)) := hT.cut
  have c1l := c1.len
  walk_at "q"
  refine g_addS (le_of (by omega)) ?_
  walk_at "q"
  refine ⟨b, cs, _, rfl, hB15, by decide, by decide, fun d2 H16 d20 d21 hB16 e16 => ?_⟩
  walk_at "q"
  refine g_slS Ts ?_
  have c2 : Tx 31 (cutS T (some (d + d2)) none) := hT.cut
  have c2l := c2.len
  walk_at "q"
  refine g_addS (le_of (by rw [app_len]; omega)) ?_
  have hb : Tx 100 (cutS T none (some d) ++ sg ++ cutS T (some (d + d2)) none) := ((c1.app tsg).app c2).mono (by decide)
  generalize cutS T none (some d) ++ sg ++ cutS T (some (d + d2)) none = bent at *
  walk_at "q"
  refine ⟨bent, rfl, hb, fun p17 H17 e17 _ h17 => ?_⟩
  have hB17 := hB16.fr0 e17
  clear hB16 hB15 hB14 hB13 hB12 hB11 hB6 hB5 hB4 hB3 hB2 e13 e14 e15 e16 h14 hv c1 c2 c1l c2l
  repeat walk_at "if"
  try dsimp only
  with_reducible refine g_cutS (fun σ' H' => BagAt H' b cs ∧ ∃ y1 y2 y3 y4 y5 y6 y7 y8, σ' = [some (.ref a), some (.ref b), y1, y2, y3, y4, y5, some (.str bent), y6, y7, y8]) (fun σ' H' h => ?_) (fun N kN => ?_)
  rotate_left
  ·walk_at "q"
   refine ⟨bent, rfl, hb, fun p18 H18 e18 h18 => ?_⟩
   have h17b := e18.at h17 (fun z => nomatch z)
   have hB18 := hB17.fr0 e18
   walk_at "q"
   refine ⟨le_of (by simp), fun p19 hp19 => ?_⟩
   have e19 : Fr [] H18 (upd H18 p19 (.lst [])) := Fr.new hp19
   have h19 : (upd H18 p19 (.lst [])) p19 = some (.lst []) := upd_same
   have h17c := e19.at h17b (fun z => nomatch z)
   have h18c := e19.at h18 (fun z => nomatch z)
   have hB19 := hB18.fr0 e19
   generalize upd H18 p19 (.lst []) = H19 at *
   walk_at "q"
   refine g_neEL (SqL.of h17c) (SqL.of h19) ?_
   cases hmb : meantV bent with
   | some v =>
    unfold foundL at h18c
    rw [hmb] at h18c h17c
    have md := meant_sm (K := K) (H := H19) hb hmb
    walk_at "q"
    refine g_tt rfl ?_
    walk_at "q"
    refine ⟨_, _, .list [scD v], rfl, .lst (SqL.of h18c) (.cons md.1.dp .nil), .lst (SqL.of h17c) (.cons md.1.dp .nil), ⟨by simp, fun d hd => ?_⟩, fun H20 e20 => ?_⟩
    ·rw [List.mem_singleton.mp hd]; exact md.2
    ·walk_at "q"
     exact kN _ _ ⟨hB19.fr0 e20, _, _, _, _, _, _, _, _, rfl⟩
   | none =>
    unfold foundL at h18c
    rw [hmb] at h18c
    walk_at "q"
    refine ⟨le_of (by simp), fun p20 hp20 => ?_⟩
    have e20 : Fr [] H19 (upd H19 p20 (.lst badL)) := Fr.new hp20
    have h20 : (upd H19 p20 (.lst badL)) p20 = some (.lst badL) := upd_same
    have h18d := e20.at h18c (fun z => nomatch z)
    have hB20 := hB19.fr0 e20
    have hd : ∀ {H : Hp}, DpAll K H badL [.str "bad", .bool true, .bool true, .bool true, .int 0, .str "badtext"] := fun {H} => .cons (.str _) (.cons (.bl _) (.cons (.bl _) (.cons (.bl _) (.cons (.int _) (.cons (.str _) .nil)))))
    walk_at "q"
    refine ⟨_, _, .list [.str "bad", .bool true, .bool true, .bool true, .int 0, .str "badtext"], rfl, .lst (SqL.of h18d) hd, .lst (SqL.of h20) hd, ⟨by simp, fun d hd => ?_⟩, fun H21 e21 => ?_⟩
    ·simp only [List.mem_cons, List.not_mem_nil, or_false] at hd
     rcases hd with rfl | rfl | rfl | rfl | rfl | rfl
     ·exact sm_str (m := 10) (Tx.lit (by decide +kernel)) (by decide)
     ·trivial
     ·trivial
     ·trivial
     ·exact (show (0 : Int).natAbs.log2 < 1920 by decide)
     ·exact sm_str (m := 10) (Tx.lit (by decide +kernel)) (by decide)
    ·walk_at "q"
     exact kN _ _ ⟨hB20.fr0 e21, _, _, _, _, _, _, _, _, rfl⟩
  obtain ⟨hB2, y1, y2, y3, y4, y5, y6, y7, y8, rfl⟩ := h
  clear hB17 h17 e17
  walk_at "q"
  refine ⟨b, cs, rfl, hB2, fun x H3 hx hB3 e3 => ?_⟩
  walk_at "q"
  refine g_mulS (by decide) (by decide) (by decide +kernel) (by decide +kernel) ?_
  walk_at "q"
  refine g_mulS (by decide) (by decide) (by decide +kernel) (by decide +kernel) ?_
  walk_at "q"
  refine ⟨le_of (by simp), fun p4 hp4 => ?_⟩
  have hB4 := hB3.fr0 (Fr.new (o := .lst ((wordsW x bent).map V.str)) hp4)
  have hnb4 := (hB3.some hp4).1
  refine ⟨b, cs, p4, (wordsW x bent).map V.str, rfl, hB4, .inl ⟨SqL.of upd_same, hnb4⟩, (show 0 < 9 by decide), (show 9 ≤ 1000 by decide), fun v H5 hv hB5 e5 => ?_⟩
  obtain ⟨wd, hwd, rfl⟩ := List.mem_map.mp hv
  have twd : Tx 100 wd := words_tx hx.tx hb hwd
  clear hv hB4 e5 e3
  walk_at "q"
  refine ⟨wd, rfl, twd, fun H6 e6 => ?_⟩
  walk_at "q"
  refine ⟨wd, rfl, twd, fun H7 e7 => ?_⟩
  walk_at "q"
  refine ⟨wd, rfl, twd, fun H8 e8 => ?_⟩
  walk_at "q"
  refine ⟨le_of (by simp), fun p9 hp9 => ?_⟩
  have hB8 := ((hB5.fr0 e6).fr0 e7).fr0 e8
  have e9 : Fr [] H8 (upd H8 p9 (.lst [V.bl (goodW wd), .bl (goodW wd && !decide (wd ∈ keptW))])) := Fr.new hp9
  have h9 : (upd H8 p9 (.lst [V.bl (goodW wd), .bl (goodW wd && !decide (wd ∈ keptW))])) p9 = some (.lst [.bl (goodW wd), .bl (goodW wd && !decide (wd ∈ keptW))]) := upd_same
  generalize upd H8 p9 (.lst [V.bl (goodW wd), .bl (goodW wd && !decide (wd ∈ keptW))]) = H9 at *
  have hB9 := hB8.fr0 e9
  walk_at "q"
  have fin : ∀ (p10 : Addr) (H10 : Hp) (A : VK) (E : XK), Fr [] H9 H10 → H10 p10 = some (.lst [.bl (goodW wd), .bl (goodW wd && !decide (wd ∈ keptW))]) → (∀ H', BagAt H' b cs → A (.bl true) H') → spSame K 3 [.ref p9, .ref p10] H10 A E := fun p10 H10 A E e10 h10 kk => by
   refine ⟨_, _, .list [.bool (goodW wd), .bool (goodW wd && !decide (wd ∈ keptW))], rfl, .lst (SqL.of (e10.at h9 (fun z => nomatch z))) (.cons (.bl _) (.cons (.bl _) .nil)), .lst (SqL.of h10) (.cons (.bl _) (.cons (.bl _) .nil)), ⟨by simp, fun d hd => ?_⟩, fun H11 e11 => kk _ ((hB9.fr0 e10).fr0 e11)⟩
   simp only [List.mem_cons, List.not_mem_nil, or_false] at hd
   rcases hd with rfl | rfl <;> trivial
  refine g_byB (fun hg => ?_) (fun hg => ?_)
  ·walk_at "q"
   refine ⟨wd, rfl, twd, fun H10 e10 => ?_⟩
   walk_at "q"
   refine ⟨le_of (by simp), fun p11 hp11 => ?_⟩
   walk_at "q"
   refine fin _ _ _ _ (e10.trans (Fr.new hp11)) (by rw [upd_same, hg]; rfl) fun H12 hB12 => ?_
   walk_at "q"
   exact ⟨hB12, _, _, _, _, _, _, _, _, _, rfl⟩
  ·walk_at "q"
   refine ⟨le_of (by simp), fun p11 hp11 => ?_⟩
   walk_at "q"
   refine fin _ _ _ _ (Fr.new hp11) (by rw [upd_same, hg]; rfl) fun H12 hB12 => ?_
   walk_at "q"
   exact ⟨hB12, _, _, _, _, _, _, _, _, _, rfl⟩
 ·walk_at "q"
  exact q _
end
def d_LoreError_ini : He.DefD := ⟨("LoreError", some "__init__"), "__init__", "LoreError.__init__", defArgs s_LoreError_ini, defBody s_LoreError_ini, defScope s_LoreError_ini, [], []⟩
def d_BadText_ini : He.DefD := ⟨("BadText", some "__init__"), "__init__", "BadText.__init__", defArgs s_BadText_ini, defBody s_BadText_ini, defScope s_BadText_ini, [], []⟩
def d_is_word : He.DefD := ⟨("is_word", none), "is_word", "is_word", defArgs s_is_word, defBody s_is_word, defScope s_is_word, [], []⟩
def d_is_name : He.DefD := ⟨("is_name", none), "is_name", "is_name", defArgs s_is_name, defBody s_is_name, defScope s_is_name, [], []⟩
def d_kind_of : He.DefD := ⟨("kind_of", none), "kind_of", "kind_of", defArgs s_kind_of, defBody s_kind_of, defScope s_kind_of, [], []⟩
def d_is_number : He.DefD := ⟨("is_number", none), "is_number", "is_number", defArgs s_is_number, defBody s_is_number, defScope s_is_number, [], []⟩
def d_value_text : He.DefD := ⟨("value_text", none), "value_text", "value_text", defArgs s_value_text, defBody s_value_text, defScope s_value_text, [], []⟩
def d_read_value : He.DefD := ⟨("read_value", none), "read_value", "read_value", defArgs s_read_value, defBody s_read_value, defScope s_read_value, [], []⟩
def d__law_bag : He.DefD := ⟨("_law_bag", none), "_law_bag", "_law_bag", defArgs s__law_bag, defBody s__law_bag, defScope s__law_bag, [], []⟩
def d__law_pull : He.DefD := ⟨("_law_pull", none), "_law_pull", "_law_pull", defArgs s__law_pull, defBody s__law_pull, defScope s__law_pull, [], []⟩
def d__law_one : He.DefD := ⟨("_law_one", none), "_law_one", "_law_one", defArgs s__law_one, defBody s__law_one, defScope s__law_one, [], []⟩
def d__law_same : He.DefD := ⟨("_law_same", none), "_law_same", "_law_same", defArgs s__law_same, defBody s__law_same, defScope s__law_same, [], []⟩
def d__law_barred : He.DefD := ⟨("_law_barred", none), "_law_barred", "_law_barred", defArgs s__law_barred, defBody s__law_barred, defScope s__law_barred, [], []⟩
def d__law_word : He.DefD := ⟨("_law_word", none), "_law_word", "_law_word", defArgs s__law_word, defBody s__law_word, defScope s__law_word, [], []⟩
def d__law_number : He.DefD := ⟨("_law_number", none), "_law_number", "_law_number", defArgs s__law_number, defBody s__law_number, defScope s__law_number, [], []⟩
def d__law_value : He.DefD := ⟨("_law_value", none), "_law_value", "_law_value", defArgs s__law_value, defBody s__law_value, defScope s__law_value, [], []⟩
def d__law_kind : He.DefD := ⟨("_law_kind", none), "_law_kind", "_law_kind", defArgs s__law_kind, defBody s__law_kind, defScope s__law_kind, [], []⟩
def d__law_value_text : He.DefD := ⟨("_law_value_text", none), "_law_value_text", "_law_value_text", defArgs s__law_value_text, defBody s__law_value_text, defScope s__law_value_text, [], []⟩
def d__law_good_word : He.DefD := ⟨("_law_good_word", none), "_law_good_word", "_law_good_word", defArgs s__law_good_word, defBody s__law_good_word, defScope s__law_good_word, [], []⟩
def d__law_meant : He.DefD := ⟨("_law_meant", none), "_law_meant", "_law_meant", defArgs s__law_meant, defBody s__law_meant, defScope s__law_meant, [], []⟩
def d__law_tried : He.DefD := ⟨("_law_tried", none), "_law_tried", "_law_tried", defArgs s__law_tried, defBody s__law_tried, defScope s__law_tried, [], []⟩
def d_law : He.DefD := ⟨("law", none), "law", "law", defArgs s_law, defBody s_law, defScope s_law, [], []⟩
def fnAll : List He.DefD := [d_LoreError_ini, d_BadText_ini, d_is_word, d_is_name, d_kind_of, d_is_number, d_value_text, d_read_value, d__law_bag, d__law_pull, d__law_one, d__law_same, d__law_barred, d__law_word, d__law_number, d__law_value, d__law_kind, d__law_value_text, d__law_good_word, d__law_meant, d__law_tried, d_law]
def faAll : List He.Fa := [.glo "is_word", .glo "is_name", .glo "kind_of", .glo "is_number", .glo "value_text", .glo "read_value", .glo "_law_bag", .glo "_law_pull", .glo "_law_one", .glo "_law_same", .glo "_law_barred", .glo "_law_word", .glo "_law_number", .glo "_law_value", .glo "_law_kind", .glo "_law_value_text", .glo "_law_good_word", .glo "_law_meant", .glo "_law_tried", .glo "law", .free "len", .free "list", .free "range", .free "isinstance", .free "tuple", .free "repr", .free "zip", .free "all", .free "bool", .free "int", .free "str", .free "ValueError", .glo "LoreError", .glo "TextError", .glo "BadText", .str "LETTERS" z_LETTERS, .str "FIGURES" z_FIGURES, .int "MOST_SIGNS" z_MOST_SIGNS, .int "MOST_FIGURES" z_MOST_FIGURES]
def looseAll : List PySem.Str := (["LoreError", "TextError", "BadText", "is_word", "is_name", "kind_of", "is_number", "value_text", "read_value", "_law_bag", "_law_pull", "_law_one", "_law_same", "_law_barred", "_law_word", "_law_number", "_law_value", "_law_kind", "_law_value_text", "_law_good_word"] : List PySem.Str) ++ (["_law_meant", "_law_tried", "LETTERS", "FIGURES", "KEPT", "MOST_SIGNS", "MOST_FIGURES"] : List PySem.Str)
def tsAll : List He.Tab := []
def exL (K : PySem.W.Frag) : List Bool := [SL.ecB K (He.ga K "LoreError"),
 SL.eciB K (He.ga K "LoreError") (He.fAd K ("LoreError", some "__init__")),
 SL.ecB K (He.ga K "TextError"),
 SL.eciB K (He.ga K "TextError") (He.fAd K ("LoreError", some "__init__")),
 SL.ecB K (He.ga K "BadText"),
 SL.eciB K (He.ga K "BadText") (He.fAd K ("BadText", some "__init__")),
 decide (PySem.W.findIn K (.ref (He.ga K "BadText")) "word" = some none),
 decide (PySem.W.findIn K (.ref (He.ga K "BadText")) "at" = some none),
 decide (PySem.W.exmOne K (.ref (He.ga K "BadText")) (.ref (He.ga K "TextError")) = some true),
 decide (PySem.W.kitOne K (.ref (He.ga K "BadText")) (.ref (He.ga K "BadText")) = some true),
 decide (PySem.W.kitOne K (.ref (He.ga K "BadText")) (.ref (He.ga K "LoreError")) = some true),
 decide (PySem.W.kitOne K (.ref (He.ga K "BadText")) (.type "ValueError") = some true),
 decide (PySem.W.nsIn K mainGlobals "KEPT" = some (some (.ref (He.ga K "KEPT")))) && He.tupB K "KEPT" (keptW.map He.Dv.str)]
def exAll (K : PySem.W.Frag) : Bool := (exL K).all id
theorem exL_at {K : PySem.W.Frag} {b : Bool} (h : exAll K = true) (i : Nat) (e : (exL K)[i]? = some b) : b = true := List.all_eq_true.mp h b (List.mem_of_getElem? e)
abbrev RR : PySem.W.OpenRow := PySem.W.OpenLaw.row PySem.Challenge.rw_sightlore_k01_values_names_and_words
abbrev hk : PySem.W.Hook := SL.hookY 4 faAll fnAll tsAll exAll
def obAll (s : PySem.W.SharedT) : He.AlX := SL.obsY 4 faAll fnAll tsAll exAll (HandSHeadRun.getT s)
theorem ob_eq (s : PySem.W.SharedT) : obAll s = hk.obs s.abs := SL.obsY_eq (HandSHeadRun.getT_eq s)
theorem run (w : World) : HandSHeadRun.RunEq RR (PySem.W.view RR.prog [30]) hk obAll 6000 looseAll w := by
 refine PySem.W.byRow2 "special-get-raises" (P := fun w => HandSHeadRun.RunEq RR (PySem.W.view RR.prog [30]) hk obAll 6000 looseAll w) (fun w os => ?_) (fun w os => ?_) w
 ·kernel_rfl
 ·kernel_rfl
theorem facts {P : Program} {w : World} {K : PySem.W.Frag} {h : Heap} {mg : Str → Option Value} {f : Addr} (X : K.In h) (G : h.Ns mainGlobals mg) (hfa : mg ("law" : Str) = some (.ref f)) (c : SL.SaysY faAll fnAll tsAll exAll w K) :
  ∃ fd : FuncData, (∀ (s : Shared) (v : Value), BindsTo s fd ⟨[v], []⟩ [("_law_script", v)]) ∧ ∀ base : Heap, K.In base → base.Ns mainGlobals mg → FnG P w K mg base CX0 100 f fd ["_law_script"] (spLaw K) := by
 obtain ⟨fd_LoreError_ini, F_LoreError_ini⟩ := c.t.d.def_ 0 (d := d_LoreError_ini) rfl
 have b_LoreError_ini : Binds K fd_LoreError_ini ["self", "word"] [] := F_LoreError_ini.bindsN fun _ _ _ _ _ _ us hl => match us, hl with | [_, _], _ => rfl
 obtain ⟨fd_BadText_ini, F_BadText_ini⟩ := c.t.d.def_ 1 (d := d_BadText_ini) rfl
 have b_BadText_ini : Binds K fd_BadText_ini ["self", "at"] [] := F_BadText_ini.bindsN fun _ _ _ _ _ _ us hl => match us, hl with | [_, _], _ => rfl
 obtain ⟨fd_is_word, F_is_word⟩ := c.t.d.def_ 2 (d := d_is_word) rfl
 have M_is_word := He.glo_ok X G (c.t.d.fact 0 (f := .glo "is_word") rfl)
 have b_is_word : Binds K fd_is_word ["text"] [] := F_is_word.bindsN fun _ _ _ _ _ _ us hl => match us, hl with | [_], _ => rfl
 obtain ⟨fd_is_name, F_is_name⟩ := c.t.d.def_ 3 (d := d_is_name) rfl
 have M_is_name := He.glo_ok X G (c.t.d.fact 1 (f := .glo "is_name") rfl)
 have b_is_name : Binds K fd_is_name ["text"] [] := F_is_name.bindsN fun _ _ _ _ _ _ us hl => match us, hl with | [_], _ => rfl
 obtain ⟨fd_kind_of, F_kind_of⟩ := c.t.d.def_ 4 (d := d_kind_of) rfl
 have M_kind_of := He.glo_ok X G (c.t.d.fact 2 (f := .glo "kind_of") rfl)
 have b_kind_of : Binds K fd_kind_of ["value"] [] := F_kind_of.bindsN fun _ _ _ _ _ _ us hl => match us, hl with | [_], _ => rfl
 obtain ⟨fd_is_number, F_is_number⟩ := c.t.d.def_ 5 (d := d_is_number) rfl
 have M_is_number := He.glo_ok X G (c.t.d.fact 3 (f := .glo "is_number") rfl)
 have b_is_number : Binds K fd_is_number ["text"] [] := F_is_number.bindsN fun _ _ _ _ _ _ us hl => match us, hl with | [_], _ => rfl
 obtain ⟨fd_value_text, F_value_text⟩ := c.t.d.def_ 6 (d := d_value_text) rfl
 have M_value_text := He.glo_ok X G (c.t.d.fact 4 (f := .glo "value_text") rfl)
 have b_value_text : Binds K fd_value_text ["value"] [] := F_value_text.bindsN fun _ _ _ _ _ _ us hl => match us, hl with | [_], _ => rfl
 obtain ⟨fd_read_value, F_read_value⟩ := c.t.d.def_ 7 (d := d_read_value) rfl
 have M_read_value := He.glo_ok X G (c.t.d.fact 5 (f := .glo "read_value") rfl)
 have b_read_value : Binds K fd_read_value ["text"] [] := F_read_value.bindsN fun _ _ _ _ _ _ us hl => match us, hl with | [_], _ => rfl
 obtain ⟨fd__law_bag, F__law_bag⟩ := c.t.d.def_ 8 (d := d__law_bag) rfl
 have M__law_bag := He.glo_ok X G (c.t.d.fact 6 (f := .glo "_law_bag") rfl)
 have b__law_bag : Binds K fd__law_bag ["_law_script"] [] := F__law_bag.bindsN fun _ _ _ _ _ _ us hl => match us, hl with | [_], _ => rfl
 obtain ⟨fd__law_pull, F__law_pull⟩ := c.t.d.def_ 9 (d := d__law_pull) rfl
 have M__law_pull := He.glo_ok X G (c.t.d.fact 7 (f := .glo "_law_pull") rfl)
 have b__law_pull : Binds K fd__law_pull ["_law_bag_here", "_law_upto"] [] := F__law_pull.bindsN fun _ _ _ _ _ _ us hl => match us, hl with | [_, _], _ => rfl
 obtain ⟨fd__law_one, F__law_one⟩ := c.t.d.def_ 10 (d := d__law_one) rfl
 have M__law_one := He.glo_ok X G (c.t.d.fact 8 (f := .glo "_law_one") rfl)
 have b__law_one : Binds K fd__law_one ["_law_bag_here", "_law_row"] [] := F__law_one.bindsN fun _ _ _ _ _ _ us hl => match us, hl with | [_, _], _ => rfl
 obtain ⟨fd__law_same, F__law_same⟩ := c.t.d.def_ 11 (d := d__law_same) rfl
 have M__law_same := He.glo_ok X G (c.t.d.fact 9 (f := .glo "_law_same") rfl)
 have b__law_same : Binds K fd__law_same ["_law_found", "_law_due"] [] := F__law_same.bindsN fun _ _ _ _ _ _ us hl => match us, hl with | [_, _], _ => rfl
 obtain ⟨fd__law_barred, F__law_barred⟩ := c.t.d.def_ 12 (d := d__law_barred) rfl
 have M__law_barred := He.glo_ok X G (c.t.d.fact 10 (f := .glo "_law_barred") rfl)
 have b__law_barred : Binds K fd__law_barred ["_law_word_here"] [] := F__law_barred.bindsN fun _ _ _ _ _ _ us hl => match us, hl with | [_], _ => rfl
 obtain ⟨fd__law_word, F__law_word⟩ := c.t.d.def_ 13 (d := d__law_word) rfl
 have M__law_word := He.glo_ok X G (c.t.d.fact 11 (f := .glo "_law_word") rfl)
 have b__law_word : Binds K fd__law_word ["_law_bag_here"] [] := F__law_word.bindsN fun _ _ _ _ _ _ us hl => match us, hl with | [_], _ => rfl
 obtain ⟨fd__law_number, F__law_number⟩ := c.t.d.def_ 14 (d := d__law_number) rfl
 have M__law_number := He.glo_ok X G (c.t.d.fact 12 (f := .glo "_law_number") rfl)
 have b__law_number : Binds K fd__law_number ["_law_bag_here"] [] := F__law_number.bindsN fun _ _ _ _ _ _ us hl => match us, hl with | [_], _ => rfl
 obtain ⟨fd__law_value, F__law_value⟩ := c.t.d.def_ 15 (d := d__law_value) rfl
 have M__law_value := He.glo_ok X G (c.t.d.fact 13 (f := .glo "_law_value") rfl)
 have b__law_value : Binds K fd__law_value ["_law_bag_here", "_law_kind_here"] [] := F__law_value.bindsN fun _ _ _ _ _ _ us hl => match us, hl with | [_, _], _ => rfl
 obtain ⟨fd__law_kind, F__law_kind⟩ := c.t.d.def_ 16 (d := d__law_kind) rfl
 have M__law_kind := He.glo_ok X G (c.t.d.fact 14 (f := .glo "_law_kind") rfl)
 have b__law_kind : Binds K fd__law_kind ["_law_value_here"] [] := F__law_kind.bindsN fun _ _ _ _ _ _ us hl => match us, hl with | [_], _ => rfl
 obtain ⟨fd__law_value_text, F__law_value_text⟩ := c.t.d.def_ 17 (d := d__law_value_text) rfl
 have M__law_value_text := He.glo_ok X G (c.t.d.fact 15 (f := .glo "_law_value_text") rfl)
 have b__law_value_text : Binds K fd__law_value_text ["_law_value_here"] [] := F__law_value_text.bindsN fun _ _ _ _ _ _ us hl => match us, hl with | [_], _ => rfl
 obtain ⟨fd__law_good_word, F__law_good_word⟩ := c.t.d.def_ 18 (d := d__law_good_word) rfl
 have M__law_good_word := He.glo_ok X G (c.t.d.fact 16 (f := .glo "_law_good_word") rfl)
 have b__law_good_word : Binds K fd__law_good_word ["_law_text"] [] := F__law_good_word.bindsN fun _ _ _ _ _ _ us hl => match us, hl with | [_], _ => rfl
 obtain ⟨fd__law_meant, F__law_meant⟩ := c.t.d.def_ 19 (d := d__law_meant) rfl
 have M__law_meant := He.glo_ok X G (c.t.d.fact 17 (f := .glo "_law_meant") rfl)
 have b__law_meant : Binds K fd__law_meant ["_law_text"] [] := F__law_meant.bindsN fun _ _ _ _ _ _ us hl => match us, hl with | [_], _ => rfl
 obtain ⟨fd__law_tried, F__law_tried⟩ := c.t.d.def_ 20 (d := d__law_tried) rfl
 have M__law_tried := He.glo_ok X G (c.t.d.fact 18 (f := .glo "_law_tried") rfl)
 have b__law_tried : Binds K fd__law_tried ["_law_text"] [] := F__law_tried.bindsN fun _ _ _ _ _ _ us hl => match us, hl with | [_], _ => rfl
 obtain ⟨fd_law, F_law⟩ := c.t.d.def_ 21 (d := d_law) rfl
 have Z_len := He.free_ok X G (c.t.d.fact 20 (f := .free "len") rfl)
 have Z_list := He.free_ok X G (c.t.d.fact 21 (f := .free "list") rfl)
 have Z_range := He.free_ok X G (c.t.d.fact 22 (f := .free "range") rfl)
 have Z_isinstance := He.free_ok X G (c.t.d.fact 23 (f := .free "isinstance") rfl)
 have Z_tuple := He.free_ok X G (c.t.d.fact 24 (f := .free "tuple") rfl)
 have Z_repr := He.free_ok X G (c.t.d.fact 25 (f := .free "repr") rfl)
 have Z_zip := He.free_ok X G (c.t.d.fact 26 (f := .free "zip") rfl)
 have Z_all := He.free_ok X G (c.t.d.fact 27 (f := .free "all") rfl)
 have Z_bool := He.free_ok X G (c.t.d.fact 28 (f := .free "bool") rfl)
 have Z_int := He.free_ok X G (c.t.d.fact 29 (f := .free "int") rfl)
 have Z_str := He.free_ok X G (c.t.d.fact 30 (f := .free "str") rfl)
 have Z_ValueError := He.free_ok X G (c.t.d.fact 31 (f := .free "ValueError") rfl)
 have m_LoreError := He.glo_ok X G (c.t.d.fact 32 (f := .glo "LoreError") rfl)
 have m_TextError := He.glo_ok X G (c.t.d.fact 33 (f := .glo "TextError") rfl)
 have m_BadText := He.glo_ok X G (c.t.d.fact 34 (f := .glo "BadText") rfl)
 have g_LETTERS := He.str_ok X G (c.t.d.fact 35 (f := .str "LETTERS" z_LETTERS) rfl)
 have g_FIGURES := He.str_ok X G (c.t.d.fact 36 (f := .str "FIGURES" z_FIGURES) rfl)
 have g_MOST_SIGNS := He.int_ok X G (c.t.d.fact 37 (f := .int "MOST_SIGNS" z_MOST_SIGNS) rfl)
 have g_MOST_FIGURES := He.int_ok X G (c.t.d.fact 38 (f := .int "MOST_FIGURES" z_MOST_FIGURES) rfl)
 have x_ec_LoreError : (SL.ecB K (He.ga K "LoreError")) = true := exL_at c.more 0 rfl
 have x_ei_LoreError : (SL.eciB K (He.ga K "LoreError") (He.fAd K ("LoreError", some "__init__"))) = true := exL_at c.more 1 rfl
 have x_ec_TextError : (SL.ecB K (He.ga K "TextError")) = true := exL_at c.more 2 rfl
 have x_ei_TextError : (SL.eciB K (He.ga K "TextError") (He.fAd K ("LoreError", some "__init__"))) = true := exL_at c.more 3 rfl
 have x_ec_BadText : (SL.ecB K (He.ga K "BadText")) = true := exL_at c.more 4 rfl
 have x_ei_BadText : (SL.eciB K (He.ga K "BadText") (He.fAd K ("BadText", some "__init__"))) = true := exL_at c.more 5 rfl
 have x_nw_BadText : (decide (PySem.W.findIn K (.ref (He.ga K "BadText")) "word" = some none)) = true := exL_at c.more 6 rfl
 have x_nf_BadText : (decide (PySem.W.findIn K (.ref (He.ga K "BadText")) "at" = some none)) = true := exL_at c.more 7 rfl
 have x_ex : (decide (PySem.W.exmOne K (.ref (He.ga K "BadText")) (.ref (He.ga K "TextError")) = some true)) = true := exL_at c.more 8 rfl
 have x_k1 : (decide (PySem.W.kitOne K (.ref (He.ga K "BadText")) (.ref (He.ga K "BadText")) = some true)) = true := exL_at c.more 9 rfl
 have x_k2 : (decide (PySem.W.kitOne K (.ref (He.ga K "BadText")) (.ref (He.ga K "LoreError")) = some true)) = true := exL_at c.more 10 rfl
 have x_k3 : (decide (PySem.W.kitOne K (.ref (He.ga K "BadText")) (.type "ValueError") = some true)) = true := exL_at c.more 11 rfl
 have x_kept : (decide (PySem.W.nsIn K mainGlobals "KEPT" = some (some (.ref (He.ga K "KEPT")))) && He.tupB K "KEPT" (keptW.map He.Dv.str)) = true := exL_at c.more 12 rfl
 have eL := hfa.symm.trans (He.glo_ok X G (c.t.d.fact 19 (f := .glo "law") rfl))
 cases eL
 have bL := FunD.bindsA (ps := ["_law_script"]) F_law fun _ _ _ _ _ _ us hl => match us, hl with | [_], _ => rfl
 refine ⟨fd_law, fun s v => bL s [v] rfl, fun base _ _ => ?_⟩
 have B : Bi mg := ⟨Z_len, Z_list, Z_range⟩
 have BS : BiS mg := ⟨Z_isinstance, Z_list, Z_tuple, Z_repr, Z_zip, Z_all, Z_len⟩
 have BT : BiT mg := ⟨Z_isinstance, Z_bool, Z_int, Z_str⟩
 have BX : BiX mg := ⟨Z_ValueError⟩
 have BV : BiV mg := ⟨Z_all, Z_len, Z_isinstance, Z_bool, Z_int, Z_str, Z_ValueError, Z_list, Z_range⟩
 have xk := He.ba x_kept
 have GV : GlV K mg (He.ga K "KEPT") := ⟨g_LETTERS, g_FIGURES, g_MOST_SIGNS, g_MOST_FIGURES, PySem.W.mg_of X G (of_decide_eq_true xk.1), fun H => by have z := He.tupB_ok xk.2 H; rw [List.map_map] at z; exact z⟩
 have XF : ExF K (He.ga K "BadText") (He.ga K "TextError") (He.ga K "LoreError") := ⟨of_decide_eq_true x_nw_BadText, of_decide_eq_true x_nf_BadText, of_decide_eq_true x_ex, of_decide_eq_true x_k1, of_decide_eq_true x_k2, of_decide_eq_true x_k3⟩
 have G_LoreError : ClG P w K mg base 1 "LoreError" (He.ga K "LoreError") (spL K) := ⟨m_LoreError, ecB_ok x_ec_LoreError, _, fd_LoreError_ini, ["self", "word"], ok_LoreError_ini F_LoreError_ini BX, eciB_ok x_ei_LoreError, b_LoreError_ini⟩
 have G_TextError : ClG P w K mg base 1 "TextError" (He.ga K "TextError") (spL K) := ⟨m_TextError, ecB_ok x_ec_TextError, _, fd_LoreError_ini, ["self", "word"], ok_LoreError_ini F_LoreError_ini BX, eciB_ok x_ei_TextError, b_LoreError_ini⟩
 have G_BadText : ClG P w K mg base 2 "BadText" (He.ga K "BadText") (spI1 K "badtext" "at") := ⟨m_BadText, ecB_ok x_ec_BadText, _, fd_BadText_ini, ["self", "at"], ok_BadText_ini F_BadText_ini G_TextError, eciB_ok x_ei_BadText, b_BadText_ini⟩
 have C__law_bag := calG_of (P := P) (w := w) (base := base) (ok__law_bag F__law_bag B) M__law_bag F__law_bag.kp b__law_bag
 have C__law_pull := calG_of (P := P) (w := w) (base := base) (ok__law_pull F__law_pull B) M__law_pull F__law_pull.kp b__law_pull
 have C__law_one := calG_of (P := P) (w := w) (base := base) (ok__law_one F__law_one B C__law_pull) M__law_one F__law_one.kp b__law_one
 have C__law_word := calG_of (P := P) (w := w) (base := base) (ok__law_word F__law_word B C__law_pull C__law_one) M__law_word F__law_word.kp b__law_word
 have C__law_number := calG_of (P := P) (w := w) (base := base) (ok__law_number F__law_number C__law_pull) M__law_number F__law_number.kp b__law_number
 have C__law_value := calG_of (P := P) (w := w) (base := base) (ok__law_value F__law_value C__law_pull C__law_one C__law_word C__law_number) M__law_value F__law_value.kp b__law_value
 have R__law_same := calG_rec0 (P := P) (w := w) (base := base) (sp := spSame K) (fun vs H Q E h => by obtain ⟨x, y, d, rfl, _, _, hm, _⟩ := h; exact sm_zero hm) M__law_same F__law_same.kp b__law_same fun n C => ok__law_same F__law_same BS C
 have C_is_word := calG_of (P := P) (w := w) (base := base) (ok_is_word F_is_word BV GV) M_is_word F_is_word.kp b_is_word
 have C_is_name := calG_of (P := P) (w := w) (base := base) (ok_is_name F_is_name GV C_is_word) M_is_name F_is_name.kp b_is_name
 have C_kind_of := calG_of (P := P) (w := w) (base := base) (ok_kind_of F_kind_of BV) M_kind_of F_kind_of.kp b_kind_of
 have C_is_number := calG_of (P := P) (w := w) (base := base) (ok_is_number F_is_number BV GV) M_is_number F_is_number.kp b_is_number
 have C_value_text := calG_of (P := P) (w := w) (base := base) (ok_value_text F_value_text BT) M_value_text F_value_text.kp b_value_text
 have C_read_value := calX_of (P := P) (w := w) (base := base) (ok_read_value F_read_value BV C_is_word C_is_number G_BadText XF.n1 XF.n2) M_read_value F_read_value.kp b_read_value
 have C__law_barred := calG_of (P := P) (w := w) (base := base) (ok__law_barred F__law_barred) M__law_barred F__law_barred.kp b__law_barred
 have C__law_kind := calG_of (P := P) (w := w) (base := base) (ok__law_kind F__law_kind BV) M__law_kind F__law_kind.kp b__law_kind
 have C__law_value_text := calG_of (P := P) (w := w) (base := base) (ok__law_value_text F__law_value_text BT) M__law_value_text F__law_value_text.kp b__law_value_text
 have C__law_good_word := calG_of (P := P) (w := w) (base := base) (ok__law_good_word F__law_good_word BV) M__law_good_word F__law_good_word.kp b__law_good_word
 have C__law_meant := calG_of (P := P) (w := w) (base := base) (ok__law_meant F__law_meant BV C__law_good_word) M__law_meant F__law_meant.kp b__law_meant
 have C__law_tried := calG_of (P := P) (w := w) (base := base) (ok__law_tried F__law_tried BV C_read_value G_BadText G_TextError G_LoreError XF) M__law_tried F__law_tried.kp b__law_tried
 have BK : BiK mg := ⟨Z_range, Z_len⟩
 exact ok_law F_law BK C__law_bag C__law_pull C__law_one C__law_word C__law_value C__law_value_text C_value_text C_kind_of C__law_kind C_read_value (R__law_same 3) C__law_meant C__law_tried C__law_good_word C_is_word C_is_name C__law_barred
end LW
open PySem PySem.W PySem.Calls PyProof.Rows
set_option maxHeartbeats 0 in
theorem PySem.Challenge.cw_sightlore_k01_values_names_and_words_holds : PySem.Challenge.rw_sightlore_k01_values_names_and_words.Holds := by
 w_on; o_law
 refine HandSHeadRun.head_any (r := OpenLaw.row PySem.Challenge.rw_sightlore_k01_values_names_and_words) (q := view (OpenLaw.row PySem.Challenge.rw_sightlore_k01_values_names_and_words).prog [30]) (H := LW.hk) (ob := LW.obAll) (M := 6000) (loose := LW.looseAll) (d := HandSHeadRun.topDef (OpenLaw.row PySem.Challenge.rw_sightlore_k01_values_names_and_words).prog 30) (kwd := []) LW.ob_eq
  (by kernel_rfl) (fun s => by kernel_rfl) LW.run (by kernel_rfl) (by kernel_rfl) (by kernel_rfl) (by rfl) (by first | assumption | decide +kernel) (by decide +kernel) ⟨rfl, rfl, rfl, rfl, rfl, by decide +kernel⟩ ?hw ?hc
 case hw => w_witness2
 case hc =>
  refine SL.walkG (l := PySem.Challenge.rw_sightlore_k01_values_names_and_words) (n := 63) (k := 100) (x := "_law_script") rfl (by decide) (by kernel_rfl) ⟨rfl, by decide, by decide⟩ ?F
  intro w mg fa h Y G hmg0
  obtain ⟨K, KX, c⟩ := Y
  have hmg : mg ("law" : PySem.Str) = some (.ref fa) := by
   have e : (HandSHeadRun.topDef (OpenLaw.row PySem.Challenge.rw_sightlore_k01_values_names_and_words).prog 30).name = ("law" : PySem.Str) := by kernel_rfl
   rw [← e]
   exact hmg0
  obtain ⟨fd, hb, hF⟩ := LW.facts (P := (PySem.Challenge.rw_sightlore_k01_values_names_and_words).prog) (w := w) KX G hmg c
  exact ⟨K, fd, LW.spLaw K, KX, hb, fun H a ns hl hS => ⟨a, ns, rfl, hS, hl, fun _ => rfl⟩, hF⟩
