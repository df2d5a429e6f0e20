import PyProof.Rows.All
import Wide.All
import OpenK.AllK
import Wide.FinOn
import HandS.ForMost
import HandS.Zip
import HandS.Flow
import HandS.Conv
import HandS.IsInst
import HandS.Codes
import HandS.Wide
import HandS.StrMore
import HandS.Defaults
import HandS.Exc
import HandS.HeadEnd
import HandS.HeadHook2
import HandS.Head2
import HandS.RaiseMore
import HandS.Walk
import HandS.FStr
import HandS.HeadHook3
import HandS.HeadHook4
import HandS.TupAny
import HandS.SetFor
import HandS.DictComp
import HandS.ExcInit
import HandS.ExcIs
import KE.KExcIs
import HandS.ExcField
import HandS.ExcOwn
import HandS.WordsExc
import HandS.SetBool
import HandS.SetKeys
import KE.GoesEnum
import KE.GoesMore
import KE.DataMinMax
import KE.SortKeyHeap
import HandS.SortKw
import HandS.Keys
import HandS.MakeKwOnly
import HandS.ReplaceLit
import PyProof.StrReplace2
import PyProof.StrOps2
import PyProof.MeetsStr3
import PySem.Challenge.RW_sightlore_k02_order_of_values_and_rows
set_option Elab.async false
set_option linter.all false
set_option maxRecDepth 100000
set_option maxHeartbeats 2000000
namespace SL
open PySem PySem.Spec PyProof.Rows L2
def Fix : HO → Prop
 | .tup _ => True
 | .frz _ (.tup _) => True
 | _ => False
def Fr (M : List Addr) (H H' : Hp) : Prop := ∀ a o, H a = some o → (a ∉ M ∨ Fix o) → H' a = some o
theorem Fr.refl {M : List Addr} {H : Hp} : Fr M H H := fun _ _ h _ => h
theorem Fr.trans {M : List Addr} {H H1 H2 : Hp} (a : Fr M H H1) (b : Fr M H1 H2) : Fr M H H2 := fun x o h z => b x o (a x o h z) z
theorem Fr.mono {M N : List Addr} {H H' : Hp} (h : Fr M H H') (s : ∀ a ∈ M, a ∈ N) : Fr N H H' := fun a o e z => h a o e (z.imp (fun n m => n (s a m)) id)
theorem Fr.nil {N : List Addr} {H H' : Hp} (h : Fr [] H H') : Fr N H H' := h.mono fun _ z => nomatch z
theorem Fr.new {M : List Addr} {H : Hp} {p : Addr} {o : HO} (h : H p = none) : Fr M H (upd H p o) := fun a u e _ => by
 rw [upd_ne (ne_of_none e h)]
 exact e
theorem Fr.mut {M : List Addr} {H : Hp} {p : Addr} {o u : HO} (hm : p ∈ M) (h : H p = some u) (hu : ¬ Fix u) : Fr M H (upd H p o) := fun a v e z => by
 by_cases c : a = p
 ·subst c
  rw [h] at e
  cases e
  rcases z with z | z
  ·exact absurd hm z
  ·exact absurd z hu
 ·rw [upd_ne c]
  exact e
theorem Fr.over {M : List Addr} {H H' : Hp} {p : Addr} {o : HO} (e : Fr M H H') (h : H p = none) : Fr M H (upd H' p o) := fun a u ha z => by
 rw [upd_ne (ne_of_none ha h)]
 exact e a u ha z
theorem Fr.same {H H' : Hp} (h : Fr [] H H') : Same H H' := fun b o e => h b o e (.inl (fun z => nomatch z))
theorem Fr.of_same {M : List Addr} {H H' : Hp} (h : Same H H') : Fr M H H' := fun a o e _ => h a o e
theorem Fr.at {M : List Addr} {H H' : Hp} {a : Addr} {o : HO} (h : Fr M H H') (e : H a = some o) (n : a ∉ M) : H' a = some o := h a o e (.inl n)
theorem Fr.back {M : List Addr} {H H' : Hp} {p : Addr} (e : Fr M H H') (hM : p ∉ M) (h : H' p = none) : H p = none := by
 cases q : H p with
 | none => rfl
 | some o =>
  rw [e p o q (.inl hM)] at h
  cases h
theorem Fr.tup {K : PySem.W.Frag} {M : List Addr} {H H' : Hp} {a : Addr} {xs : List V} (e : Fr M H H') (h : SqT K H a xs) : SqT K H' a xs := by
 rcases h with (h | ⟨o, h⟩) | h
 ·exact .inl (.inl (e a _ h (.inr trivial)))
 ·exact .inl (.inr ⟨o, e a _ h (.inr trivial)⟩)
 ·exact .inr h
theorem Fr.seq {K : PySem.W.Frag} {M : List Addr} {H H' : Hp} {a : Addr} {xs : List V} (e : Fr M H H') (n : a ∉ M) (h : SqL K H a xs) : SqL K H' a xs := by
 rcases h with (h | ⟨o, h⟩) | h
 ·exact .inl (.inl (e a _ h (.inl n)))
 ·exact .inl (.inr ⟨o, e a _ h (.inl n)⟩)
 ·exact .inr h
theorem nofix_lst {xs : List V} : ¬ Fix (.lst xs) := fun z => z
mutual
inductive Td (K : PySem.W.Frag) (H : Hp) : V → PyData → Prop
 | non : Td K H .non .none
 | bl (b : Bool) : Td K H (.bl b) (.bool b)
 | int (i : Int) : Td K H (.int i) (.int i)
 | str (x : Str) : Td K H (.str x) (.str x)
 | tup {a : Addr} {xs : List V} {ds : List PyData} : SqT K H a xs → TdAll K H xs ds → Td K H (.ref a) (.tuple ds)
inductive TdAll (K : PySem.W.Frag) (H : Hp) : List V → List PyData → Prop
 | nil : TdAll K H [] []
 | cons {v : V} {vs : List V} {d : PyData} {ds : List PyData} : Td K H v d → TdAll K H vs ds → TdAll K H (v :: vs) (d :: ds)
end
section
variable {K : PySem.W.Frag} {H H' : Hp} {M : List Addr}
mutual
theorem Td.fr (e : Fr M H H') : ∀ {v : V} {d : PyData}, Td K H v d → Td K H' v d
 | _, _, .non => .non
 | _, _, .bl b => .bl b
 | _, _, .int i => .int i
 | _, _, .str x => .str x
 | _, _, .tup h hs => .tup (e.tup h) (TdAll.fr e hs)
theorem TdAll.fr (e : Fr M H H') : ∀ {vs : List V} {ds : List PyData}, TdAll K H vs ds → TdAll K H' vs ds
 | _, _, .nil => .nil
 | _, _, .cons h hs => .cons (Td.fr e h) (TdAll.fr e hs)
end
mutual
theorem Td.dp : ∀ {v : V} {d : PyData}, Td K H v d → Dp K H v d
 | _, _, .non => .non
 | _, _, .bl b => .bl b
 | _, _, .int i => .int i
 | _, _, .str x => .str x
 | _, _, .tup h hs => .tup h (TdAll.dp hs)
theorem TdAll.dp : ∀ {vs : List V} {ds : List PyData}, TdAll K H vs ds → DpAll K H vs ds
 | _, _, .nil => .nil
 | _, _, .cons h hs => .cons (Td.dp h) (TdAll.dp hs)
end
theorem Td.tuple_inv {v : V} {ds : List PyData} (h : Td K H v (.tuple ds)) : ∃ a xs, v = .ref a ∧ SqT K H a xs ∧ TdAll K H xs ds := by
 cases h with
 | tup h1 h2 => exact ⟨_, _, rfl, h1, h2⟩
end
def uAdd (K : PySem.W.Frag) : R2 := fun x y H Q => match x, y with
 | .int i, .int j => Q (.int (i + j)) H
 | .str a, .str b => a.length + b.length ≤ sizeLine ∧ Q (.str (a ++ b)) H
 | .ref a, .ref b => rCat (.ref a) (.ref b) H Q ∨ rCatT K (.ref a) (.ref b) H Q
 | _, _ => False
def uSub : R2 := fun x y H Q => match x, y with
 | .int i, .int j => Q (.int (i - j)) H
 | _, _ => False
def uMul : R2 := fun x y H Q => match x, y with
 | .int i, .int j => IntMulOk i j ∧ Q (.int (i * j)) H
 | .ref a, .int k => rRep (.ref a) (.int k) H Q
 | .str a, .int k => 2 ≤ k ∧ k ≤ 1000 ∧ 0 < a.length ∧ a.length ≤ 1000 ∧ Q (.str ⟨(List.replicate k.toNat a.cps).foldl (· ++ ·) #[]⟩) H
 | _, _ => False
def uDiv : R2 := fun x y H Q => match x, y with
 | .int i, .int j => CDivW i j ∧ Q (.int (i / j)) H
 | _, _ => False
def uMod : R2 := fun x y H Q => match x, y with
 | .int i, .int j => 0 < j ∧ Q (.int (i % j)) H
 | _, _ => False
def uPow : R2 := fun x y H Q => match x, y with
 | .int i, .int j => CPow i j ∧ Q (.int (i ^ j.toNat)) H
 | _, _ => False
def rEqE (K : PySem.W.Frag) (x y : V) (H : Hp) (Q : Bool → Prop) : Prop :=
 (∃ a b xs, x = .ref a ∧ y = .ref b ∧ SqT K H a xs ∧ SqT K H b [] ∧ Q (decide (xs = []))) ∨ (∃ a b xs, x = .ref a ∧ y = .ref b ∧ SqL K H a xs ∧ SqL K H b [] ∧ Q (decide (xs = []))) ∨
 ∃ a b kvs, x = .ref a ∧ y = .ref b ∧ H a = some (.dK kvs) ∧ H b = some (.dK []) ∧ Q (decide (kvs = []))
def uEq (K : PySem.W.Frag) : R2 := fun x y H Q => (scal x y = true ∧ Q (.bl (decide (x = y))) H) ∨ rEqD K x y H Q ∨ rEqE K x y H fun b => Q (.bl b) H
def uNe (K : PySem.W.Frag) : R2 := fun x y H Q => (scal x y = true ∧ Q (.bl (!decide (x = y))) H) ∨ rNeD K x y H Q ∨ rEqE K x y H fun b => Q (.bl (!b)) H
def uLt (K : PySem.W.Frag) : R2 := fun x y H Q => match x, y with
 | .int i, .int j => Q (.bl (decide (i < j))) H
 | .str a, .str b => Q (.bl (decide (a.cps.toList < b.cps.toList))) H
 | _, _ => False
def uGt : R2 := fun x y H Q => match x, y with
 | .int i, .int j => Q (.bl (decide (j < i))) H
 | _, _ => False
def uLe : R2 := fun x y H Q => match x, y with
 | .int i, .int j => Q (.bl (decide (i ≤ j))) H
 | .str a, .str b => Q (.bl (!decide (b.cps.toList < a.cps.toList))) H
 | _, _ => False
def uGe : R2 := fun x y H Q => match x, y with
 | .int i, .int j => Q (.bl (decide (j ≤ i))) H
 | _, _ => False
section
variable {X : Cx}
theorem opu_add : OpR X (binaryOp .Add) (uAdd X.K) := by
 intro pins s σ H x y v u Q I rx ry h
 cases x <;> cases y <;> first
  | exact absurd h id
  | exact op_add pins s σ H _ _ v u Q I rx ry ⟨_, _, rfl, rfl, h⟩
  | exact op_add_str pins s σ H _ _ v u Q I rx ry ⟨_, _, rfl, rfl, h.1, h.2⟩
  | exact h.elim (fun h => op_cat pins s σ H _ _ v u Q I rx ry h) (fun h => op_catT pins s σ H _ _ v u Q I rx ry h)
theorem opu_sub : OpR X (binaryOp .Sub) uSub := by
 intro pins s σ H x y v u Q I rx ry h
 cases x <;> cases y <;> first
  | exact absurd h id
  | exact op_sub pins s σ H _ _ v u Q I rx ry ⟨_, _, rfl, rfl, h⟩
theorem foldl_size (c : Array Nat) : ∀ (m : Nat) (acc : Array Nat), ((List.replicate m c).foldl (· ++ ·) acc).size = acc.size + m * c.size
 | 0, acc => by simp
 | m + 1, acc => by
  rw [List.replicate_succ, List.foldl_cons, foldl_size c m, Array.size_append, Nat.succ_mul]
  omega
theorem op_repS : OpR X (binaryOp .Mult) (fun x y H Q => ∃ (a : Str) (k : Int), x = .str a ∧ y = .int k ∧ 2 ≤ k ∧ k ≤ 1000 ∧ 0 < a.length ∧ a.length ≤ 1000 ∧ Q (.str ⟨(List.replicate k.toNat a.cps).foldl (· ++ ·) #[]⟩) H) := by
 intro pins s σ H x y v u Q I rx ry h
 obtain ⟨a, k, rfl, rfl, h1, h2, h3, h4, q⟩ := h
 obtain ⟨t, rfl⟩ := rx
 obtain ⟨t', rfl⟩ := ry
 have hm : a.length * k.toNat ≤ 1000000 := Nat.le_trans (Nat.mul_le_mul h4 (show k.toNat ≤ 1000 by omega)) (by decide)
 refine PySem.P.mul_str ?_ (fun _ _ => ?_) (fun _ _ => ?_) ?_
 ·rw [decide_eq_false (show ¬ k < -(2 ^ 63) by omega), decide_eq_false (show ¬ k ≥ 2 ^ 63 by omega)]; rfl
 ·have e : ((2 : Int) ^ 63 - 1) / 1000 ≤ (2 ^ 63 - 1) / k := by
   rw [Int.le_ediv_iff_mul_le (by omega)]
   have : ((2 : Int) ^ 63 - 1) / 1000 * k ≤ (2 ^ 63 - 1) / 1000 * 1000 := Int.mul_le_mul_of_nonneg_left h2 (by decide)
   have e2 : ((2 : Int) ^ 63 - 1) / 1000 * 1000 ≤ 2 ^ 63 - 1 := by decide
   omega
  have e3 : (1000 : Int) ≤ (2 ^ 63 - 1) / 1000 := by decide
  omega
 ·exact decide_eq_false (by have := sizeLine_eq; omega)
 ·rw [if_neg (by omega), if_neg (by simp only [Bool.or_eq_true, beq_iff_eq]; omega)]
  refine ⟨?_, .str _, H, I.tok _, ⟨_, rfl⟩, q⟩
  show ((List.replicate k.toNat a.cps).foldl (· ++ ·) #[]).size ≤ sizeLine
  rw [foldl_size]
  have e : a.cps.size = a.length := rfl
  have e2 : (#[] : Array Nat).size = 0 := rfl
  have := sizeLine_eq
  rw [e, e2, Nat.mul_comm]
  omega
theorem opu_mul : OpR X (binaryOp .Mult) uMul := by
 intro pins s σ H x y v u Q I rx ry h
 cases x <;> cases y <;> first
  | exact absurd h id
  | exact (opI fun _ _ _ _ _ _ _ hc q => mul_int q hc : OpR X (binaryOp .Mult) (rI IntMulOk fun i j => .int (i * j))) pins s σ H _ _ v u Q I rx ry ⟨_, _, rfl, rfl, h.1, h.2⟩
  | exact op_rep pins s σ H _ _ v u Q I rx ry h
  | exact op_repS pins s σ H _ _ v u Q I rx ry ⟨_, _, rfl, rfl, h⟩
theorem opu_div : OpR X (binaryOp .FloorDiv) uDiv := by
 intro pins s σ H x y v u Q I rx ry h
 cases x <;> cases y <;> first
  | exact absurd h id
  | exact op_fdivW pins s σ H _ _ v u Q I rx ry ⟨_, _, rfl, rfl, h.1, h.2⟩
theorem opu_mod : OpR X (binaryOp .Mod) uMod := by
 intro pins s σ H x y v u Q I rx ry h
 cases x <;> cases y <;> first
  | exact absurd h id
  | exact op_mod pins s σ H _ _ v u Q I rx ry ⟨_, _, rfl, rfl, h.1, h.2⟩
theorem opu_pow : OpR X (binaryOp .Pow) uPow := by
 intro pins s σ H x y v u Q I rx ry h
 cases x <;> cases y <;> first
  | exact absurd h id
  | exact op_pow pins s σ H _ _ v u Q I rx ry ⟨_, _, rfl, rfl, h.1, h.2⟩
theorem nil_of {xs : List V} {its : List Value} (r : Vals xs its) : decide (its = []) = decide (xs = []) := by
 cases r <;> rfl
theorem nil_of_kv {xs : List (Key × V)} {vs : List (Key × Value)} (r : KV xs vs) : decide (vs = []) = decide (xs = []) := by
 cases r <;> rfl
theorem size0 {its : List Value} : (its.toArray.size == 0) = decide (its = []) := by cases its <;> rfl
theorem op_eqE (hu : X.A.units + 64 < cLine) : OpR X (compareOp .Eq) (fun x y H Q => rEqE X.K x y H fun b => Q (.bl b) H) := by
 intro pins s σ H x y v u Q I rx ry h
 have hu1 : X.A.units < cLine := by omega
 rcases h with ⟨a, b, xs, rfl, rfl, ha, hb, q⟩ | ⟨a, b, xs, rfl, rfl, ha, hb, q⟩ | ⟨a, b, kvs, rfl, rfl, ha, hb, q⟩
 ·cases rx; cases ry
  obtain ⟨its, r, p, _⟩ := I.tuple ha
  obtain ⟨its2, r2, p2, _⟩ := I.tuple hb
  cases r2
  refine SeqAt.RcAt.tuples (e := fun _ => true) p p2 hu1 (fun j _ h2 => absurd h2 (Nat.not_lt_zero j)) X.prog X.w _ _ ⟨.bl (decide (xs = [])), H, I, ?_, q⟩
  rw [← nil_of r, ← size0]
  simp [L2.RelV]
 ·cases rx; cases ry
  obtain ⟨its, r, p, _⟩ := I.list ha
  obtain ⟨its2, r2, p2, _⟩ := I.list hb
  cases r2
  cases its with
  | nil =>
   refine SeqAt.RcAt.lists (e := fun _ => true) p.isList p2.isList rfl hu1 (fun j _ h2 => absurd h2 (Nat.not_lt_zero j)) X.prog X.w _ _ ⟨.bl (decide (xs = [])), H, I, ?_, q⟩
   rw [← nil_of r]
   rfl
  | cons c cs =>
   refine SeqAt.RcAt.lists_lengths p.isList p2.isList (by simp) hu1 X.prog X.w _ _ ⟨.bl (decide (xs = [])), H, I, ?_, q⟩
   rw [← nil_of r]
   rfl
 ·cases rx; cases ry
  obtain ⟨_, ya, va, ra, da⟩ := dk_of I.hok ha
  obtain ⟨_, yb, vb, rb, db⟩ := dk_of I.hok hb
  cases rb
  refine PySem.W.keq_eq (r := true) ya yb da db hu1 (fun hl => ?_) ⟨.bl (decide (kvs = [])), H, I, ?_, q⟩
  ·cases va with
   | nil => exact .nil
   | cons c cs => cases hl
  ·rw [← nil_of_kv ra]
   cases va <;> rfl
theorem op_neE (hu : X.A.units + 64 < cLine) : OpR X (compareOp .NotEq) (fun x y H Q => rEqE X.K x y H fun b => Q (.bl (!b)) H) := by
 intro pins s σ H x y v u Q I rx ry h
 have hu1 : X.A.units < cLine := by omega
 rcases h with ⟨a, b, xs, rfl, rfl, ha, hb, q⟩ | ⟨a, b, xs, rfl, rfl, ha, hb, q⟩ | ⟨a, b, kvs, rfl, rfl, ha, hb, q⟩
 ·cases rx; cases ry
  obtain ⟨its, r, p, _⟩ := I.tuple ha
  obtain ⟨its2, r2, p2, _⟩ := I.tuple hb
  cases r2
  refine SeqAt.RcNeAt.tuples (e := fun _ => true) p p2 hu1 (fun j _ h2 => absurd h2 (Nat.not_lt_zero j)) X.prog X.w _ _ ⟨.bl (!decide (xs = [])), H, I, ?_, q⟩
  rw [← nil_of r, ← size0]
  simp [L2.RelV]
 ·cases rx; cases ry
  obtain ⟨its, r, p, _⟩ := I.list ha
  obtain ⟨its2, r2, p2, _⟩ := I.list hb
  cases r2
  cases its with
  | nil =>
   refine SeqAt.RcNeAt.lists (e := fun _ => true) p.isList p2.isList rfl hu1 (fun j _ h2 => absurd h2 (Nat.not_lt_zero j)) X.prog X.w _ _ ⟨.bl (!decide (xs = [])), H, I, ?_, q⟩
   rw [← nil_of r]
   rfl
  | cons c cs =>
   refine SeqAt.RcNeAt.lists_lengths p.isList p2.isList (by simp) hu1 X.prog X.w _ _ ⟨.bl (!decide (xs = [])), H, I, ?_, q⟩
   rw [← nil_of r]
   rfl
 ·cases rx; cases ry
  obtain ⟨_, ya, va, ra, da⟩ := dk_of I.hok ha
  obtain ⟨_, yb, vb, rb, db⟩ := dk_of I.hok hb
  cases rb
  refine PySem.W.keq_ne (r := true) ya yb da db hu1 (fun hl => ?_) ⟨.bl (!decide (kvs = [])), H, I, ?_, q⟩
  ·cases va with
   | nil => exact .nil
   | cons c cs => cases hl
  ·rw [← nil_of_kv ra]
   cases va <;> rfl
theorem opu_eq (hu : X.A.units + 64 < cLine) : OpR X (compareOp .Eq) (uEq X.K) := by
 intro pins s σ H x y v u Q I rx ry h
 exact h.elim (fun h => op_eq pins s σ H _ _ v u Q I rx ry h) (fun h => h.elim (fun h => op_eqD hu pins s σ H _ _ v u Q I rx ry h) (fun h => op_eqE hu pins s σ H _ _ v u Q I rx ry h))
theorem opu_ne (hu : X.A.units + 64 < cLine) : OpR X (compareOp .NotEq) (uNe X.K) := by
 intro pins s σ H x y v u Q I rx ry h
 exact h.elim (fun h => op_ne pins s σ H _ _ v u Q I rx ry h) (fun h => h.elim (fun h => op_neD hu pins s σ H _ _ v u Q I rx ry h) (fun h => op_neE hu pins s σ H _ _ v u Q I rx ry h))
theorem opu_lt : OpR X (compareOp .Lt) (uLt X.K) := by
 intro pins s σ H x y v u Q I rx ry h
 cases x <;> cases y <;> first
  | exact absurd h id
  | exact op_lt pins s σ H _ _ v u Q I rx ry ⟨_, _, rfl, rfl, h⟩
  | exact op_lt_str pins s σ H _ _ v u Q I rx ry ⟨_, _, rfl, rfl, h⟩
theorem opu_gt : OpR X (compareOp .Gt) uGt := by
 intro pins s σ H x y v u Q I rx ry h
 cases x <;> cases y <;> first
  | exact absurd h id
  | exact op_gt pins s σ H _ _ v u Q I rx ry ⟨_, _, rfl, rfl, h⟩
theorem opu_le : OpR X (compareOp .LtE) uLe := by
 intro pins s σ H x y v u Q I rx ry h
 cases x <;> cases y <;> first
  | exact absurd h id
  | exact op_le pins s σ H _ _ v u Q I rx ry ⟨_, _, rfl, rfl, h⟩
  | exact op_le_str pins s σ H _ _ v u Q I rx ry ⟨_, _, rfl, rfl, h⟩
end
end SL
set_option Elab.async false
set_option linter.all false
set_option maxRecDepth 100000
set_option maxHeartbeats 2000000
namespace SL
open PySem PySem.Spec PyProof.Rows L2
section
variable {K : PySem.W.Frag} {σ : L2.St} {H : Hp} {Q : VK} {R : Bool → Hp → Prop} {D : Ends} {v x y : V} {i : Nat} {ta tb tc te : TE} {t u : TT} {ts tu : TS} {r : R2} {G : TG}
theorem g_var (h : σ[i]? = some (some v)) (q : Q v H) : tVar i σ H Q := ⟨v, h, q⟩
theorem g_c (q : Q v H) : tC v σ H Q := q
theorem g_op (q : ta σ H fun x H1 => tb σ H1 fun y H2 => r x y H2 Q) : tOp r ta tb σ H Q := q
theorem g_un {ru : V → Hp → VK → Prop} (q : ta σ H fun x H1 => ru x H1 Q) : tUn ru ta σ H Q := q
theorem g_test (q : ta σ H fun x H' => ∃ k, x = .bl k ∧ R k H') : tTest ta σ H R := q
theorem g_B (q : ta σ H fun x H' => ∃ k, x = .bl k ∧ R k H') : tB ta σ H R := q
theorem g_k {A : Bool → Prop} {b : Bool} (q : A b) : ∃ k, V.bl b = V.bl k ∧ A k := ⟨b, rfl, q⟩
theorem g_and (q : t σ H fun c H1 => if c = true then u σ H1 R else R false H1) : tAnd t u σ H R := q
theorem g_or (q : t σ H fun c H1 => if c = true then R true H1 else u σ H1 R) : tOr t u σ H R := q
theorem g_not (q : t σ H fun c H1 => R (!c) H1) : tNot t σ H R := q
theorem g_ifE (q : t σ H fun c H1 => if c = true then ta σ H1 Q else tb σ H1 Q) : tIf t ta tb σ H Q := q
theorem g_seq (q : ts { D with nx := tu D } σ H) : tSeq ts tu D σ H := q
theorem g_asg (q : te σ H fun w H1 => G w σ H1 D.nx) : tAsg te G D σ H := q
theorem g_name {P : L2.St → Hp → Prop} (q : P (σ.set i (some v)) H) : gName i v σ H P := q
theorem g_sub {to ti : TE} {tset : TSet} {P : L2.St → Hp → Prop} (q : to σ H fun o H1 => ti σ H1 fun k H2 => tset o k v H2 fun H3 => P σ H3) : gSub to ti tset v σ H P := q
theorem g_if (q : t σ H fun b H1 => if b = true then ts D σ H1 else tu D σ H1) : tIfS t ts tu D σ H := q
theorem g_ret (q : te σ H D.rt) : tRet te D σ H := q
theorem g_next (q : D.nx σ H) : tNext D σ H := q
theorem g_drop (q : te σ H fun _ H1 => D.nx σ H1) : tDrop te D σ H := q
theorem g_nil {A : List V → Hp → Prop} (q : A [] H) : tNil σ H A := q
theorem g_cons {tr : TA} {A : List V → Hp → Prop} (q : ta σ H fun x H1 => tr σ H1 fun xs H2 => A (x :: xs) H2) : tCons ta tr σ H A := q
theorem g_tup {tl : TA} (q : tl σ H fun xs H1 => xs.length ≤ sizeLine ∧ ∀ p, H1 p = none → Q (.ref p) (upd H1 p (.tup xs))) : tTup tl σ H Q := q
theorem g_lst {tl : TA} (q : tl σ H fun xs H1 => xs.length ≤ sizeLine ∧ ∀ p, H1 p = none → Q (.ref p) (upd H1 p (.lst xs))) : tLst tl σ H Q := q
theorem g_cb {rc : List V → Hp → VK → Prop} {tl : TA} (q : tl σ H fun vs H1 => rc vs H1 Q) : tCB rc tl σ H Q := q
theorem g_call {sp : Sp} {dvs : List V} {E : XK} {tl : TA} (q : tl σ H fun vs H1 => sp (vs ++ dvs) H1 Q E) : tCall sp dvs E tl σ H Q := q
theorem g_sl {rs : V → Option Int → Option Int → Hp → VK → Prop} {tl th : TO} (q : te σ H fun x H1 => tl σ H1 fun l H2 => th σ H2 fun u H3 => rs x l u H3 Q) : tSl rs te tl th σ H Q := q
theorem g_noPart {A : Option Int → Hp → Prop} (q : A none H) : tNoPart σ H A := q
theorem g_part {A : Option Int → Hp → Prop} (q : te σ H fun x H1 => ∃ i, x = .int i ∧ A (some i) H1) : tPart te σ H A := q
theorem g_ki {A : Int → Prop} {i : Int} (q : A i) : ∃ k, V.int i = V.int k ∧ A k := ⟨i, rfl, q⟩
theorem g_for {wi : TI} (q : wi σ H fun J H1 => ∃ W : Nat → Nat → L2.St → Hp → Prop, (∃ m, W 0 m σ H1) ∧ ∀ i m σ H, W i m σ H →
 (J.stop i H ∧ D.nx σ H) ∨ (J.go i H ∧ ∃ N : L2.St → Hp → Prop, (∀ σ' H', N σ' H' → ∃ m', m' < m ∧ W (i + 1) m' σ' H') ∧ ∀ x H', J.yld i H x H' → G x σ H' fun σ2 H2 => ts { D with nx := N, ct := N, bk := D.nx } σ2 H2)) : tFor wi G ts D σ H := q
theorem g_iR1 {tl : TA} {S : It → Hp → Prop} (q : tl σ H fun vs H1 => ∃ j : Int, vs = [.int j] ∧ -(2 ^ 62) ≤ j ∧ j < 2 ^ 62 ∧ S (Itr 0 j.toNat) H1) : iRng1 tl σ H S := q
theorem g_iR2 {tl : TA} {S : It → Hp → Prop} (q : tl σ H fun vs H1 => ∃ i j : Int, vs = [.int i, .int j] ∧ (-(2 ^ 62) ≤ i ∧ i < 2 ^ 62 ∧ -(2 ^ 62) ≤ j ∧ j < 2 ^ 62) ∧ S (Itr i (j - i).toNat) H1) : iRng2 tl σ H S := q
theorem g_iL {S : It → Hp → Prop} (q : te σ H fun x H1 => ∃ a, x = .ref a ∧ (∃ xs, SqL K H1 a xs) ∧ S (Itl K a) H1) : iList K te σ H S := q
theorem g_iT {S : It → Hp → Prop} (q : te σ H fun x H1 => ∃ a, x = .ref a ∧ (∃ xs, SqT K H1 a xs) ∧ S (Itt K a) H1) : iTup K te σ H S := q
theorem g_lc {wi : TI} {vs : List Nat} (q : wi σ H fun J H1 => ∀ D, H1 D = none → ∃ W : Nat → Nat → Hp → Prop, (∃ m, W 0 m (upd H1 D (.lst []))) ∧ ∀ i m H, W i m H →
 (J.stop i H ∧ Q (.ref D) H) ∨ (J.go i H ∧ ∃ Nx : Hp → Prop, (∀ H', Nx H' → ∃ m', m' < m ∧ W (i + 1) m' H') ∧ ∀ x H', J.yld i H x H' → G x (wipe σ vs) H' fun σ2 H2 => wipe σ2 vs = wipe σ vs ∧ t σ2 H2 fun b H3 =>
  if b = true then te σ2 H3 fun y H4 => ∃ acc, H4 D = some (.lst acc) ∧ acc.length < sizeLine ∧ Nx (upd H4 D (.lst (acc ++ [y]))) else Nx H3)) : tLc wi G t te vs σ H Q := q
theorem g_gtup {p : Addr} {xs : List V} {n : Nat} {tt : TGs} {P : L2.St → Hp → Prop} (h : SqT K H p xs) (hl : xs.length = n) (q : tt xs σ H P) : gTup K n tt (.ref p) σ H P := ⟨p, xs, rfl, h, hl, q⟩
theorem g_gcons {xs : List V} {tt : TGs} {P : L2.St → Hp → Prop} (q : G v σ H fun σ' H' => tt xs σ' H' P) : gCons G tt (v :: xs) σ H P := ⟨v, xs, rfl, q⟩
theorem g_gnil {P : L2.St → Hp → Prop} (q : P σ H) : gNil [] σ H P := ⟨rfl, q⟩
theorem g_yes (q : R true H) : tYes σ H R := q
theorem g_andT (q : ta σ H fun x H1 => ∃ k, TruV K x H1 k ∧ if k = true then tb σ H1 Q else Q x H1) : tAndT K ta tb σ H Q := q
theorem g_orT (q : ta σ H fun x H1 => ∃ k, TruV K x H1 k ∧ if k = true then Q x H1 else tb σ H1 Q) : tOrT K ta tb σ H Q := q
theorem g_notT (q : ta σ H fun x H1 => ∃ k, TruV K x H1 k ∧ Q (.bl (!k)) H1) : tNotT K ta σ H Q := q
theorem g_truB {A : Bool → Prop} {b : Bool} (q : A b) : ∃ k, TruV K (.bl b) H k ∧ A k := ⟨b, rfl, q⟩
theorem g_addI {i j : Int} (q : Q (.int (i + j)) H) : uAdd K (.int i) (.int j) H Q := q
theorem g_addS {a b : Str} (h : a.length + b.length ≤ sizeLine) (q : Q (.str (a ++ b)) H) : uAdd K (.str a) (.str b) H Q := ⟨h, q⟩
theorem g_addL {a b : Addr} {xs ys : List V} (h : H a = some (.lst xs)) (h2 : H b = some (.lst ys)) (hs : xs.length + ys.length ≤ sizeLine) (q : ∀ p, H p = none → Q (.ref p) (upd H p (.lst (xs ++ ys)))) : uAdd K (.ref a) (.ref b) H Q :=
 .inl ⟨a, b, xs, ys, rfl, rfl, h, h2, hs, q⟩
theorem g_subI {i j : Int} (q : Q (.int (i - j)) H) : uSub (.int i) (.int j) H Q := q
theorem g_mulI {i j : Int} (h : IntMulOk i j) (q : Q (.int (i * j)) H) : uMul (.int i) (.int j) H Q := ⟨h, q⟩
theorem g_divI {i j : Int} (h : CDivW i j) (q : Q (.int (i / j)) H) : uDiv (.int i) (.int j) H Q := ⟨h, q⟩
theorem g_modI {i j : Int} (h : 0 < j) (q : Q (.int (i % j)) H) : uMod (.int i) (.int j) H Q := ⟨h, q⟩
theorem g_powI {i j : Int} (h : CPow i j) (q : Q (.int (i ^ j.toNat)) H) : uPow (.int i) (.int j) H Q := ⟨h, q⟩
theorem g_ltI {i j : Int} (q : Q (.bl (decide (i < j))) H) : uLt K (.int i) (.int j) H Q := q
theorem g_gtI {i j : Int} (q : Q (.bl (decide (j < i))) H) : uGt (.int i) (.int j) H Q := q
theorem g_leI {i j : Int} (q : Q (.bl (decide (i ≤ j))) H) : uLe (.int i) (.int j) H Q := q
theorem g_geI {i j : Int} (q : Q (.bl (decide (j ≤ i))) H) : uGe (.int i) (.int j) H Q := q
theorem dec_i {i j : Int} : decide (V.int i = V.int j) = decide (i = j) := by
 by_cases h : i = j
 ·rw [decide_eq_true h, h]; exact decide_eq_true rfl
 ·rw [decide_eq_false h]; exact decide_eq_false fun z => h (V.int.inj z)
theorem dec_s {i j : Str} : decide (V.str i = V.str j) = decide (i = j) := by
 by_cases h : i = j
 ·rw [decide_eq_true h, h]; exact decide_eq_true rfl
 ·rw [decide_eq_false h]; exact decide_eq_false fun z => h (V.str.inj z)
theorem dec_b {i j : Bool} : decide (V.bl i = V.bl j) = decide (i = j) := by
 by_cases h : i = j
 ·rw [decide_eq_true h, h]; exact decide_eq_true rfl
 ·rw [decide_eq_false h]; exact decide_eq_false fun z => h (V.bl.inj z)
theorem g_eqI {i j : Int} (q : Q (.bl (decide (i = j))) H) : uEq K (.int i) (.int j) H Q := .inl ⟨rfl, by rw [dec_i]; exact q⟩
theorem g_eqS {i j : Str} (q : Q (.bl (decide (i = j))) H) : uEq K (.str i) (.str j) H Q := .inl ⟨rfl, by rw [dec_s]; exact q⟩
theorem g_eqB {i j : Bool} (q : Q (.bl (decide (i = j))) H) : uEq K (.bl i) (.bl j) H Q := .inl ⟨rfl, by rw [dec_b]; exact q⟩
theorem g_neI {i j : Int} (q : Q (.bl (!decide (i = j))) H) : uNe K (.int i) (.int j) H Q := .inl ⟨rfl, by rw [dec_i]; exact q⟩
theorem g_neS {i j : Str} (q : Q (.bl (!decide (i = j))) H) : uNe K (.str i) (.str j) H Q := .inl ⟨rfl, by rw [dec_s]; exact q⟩
theorem g_neB {i j : Bool} (q : Q (.bl (!decide (i = j))) H) : uNe K (.bl i) (.bl j) H Q := .inl ⟨rfl, by rw [dec_b]; exact q⟩
theorem g_ixL {p : Addr} {xs : List V} {i : Int} (h : SqL K H p xs) (e : atI xs i = some v) (q : Q v H) : rIx K (.ref p) (.int i) H Q := .inl ⟨p, xs, i, v, rfl, rfl, h, e, q⟩
theorem g_ixT {p : Addr} {xs : List V} {i : Int} (h : SqT K H p xs) (e : atI xs i = some v) (q : Q v H) : rIx K (.ref p) (.int i) H Q := .inr (.inl ⟨p, xs, i, v, rfl, rfl, h, e, q⟩)
theorem g_ixS {z : Str} {i : Int} {c : Nat} (h : z.length ≤ sizeLine) (e : atI z.cps.toList i = some c) (q : Q (.str ⟨#[c]⟩) H) : rIx K (.str z) (.int i) H Q := .inr (.inr ⟨z, i, c, rfl, rfl, h, e, q⟩)
theorem g_setL {p : Addr} {xs : List V} {k : Int} {j : Nat} {P : Hp → Prop} (h : H p = some (.lst xs)) (e : ixN xs.length k = some j) (q : P (upd H p (.lst (xs.set j v)))) : rSetL (.ref p) (.int k) v H P := ⟨p, xs, k, j, rfl, rfl, h, e, q⟩
theorem g_slL {p : Addr} {xs : List V} {lo hi : Option Int} (h : SqL K H p xs) (q : ∀ p, H p = none → Q (.ref p) (upd H p (.lst (cutV xs lo hi)))) : rSlL K (.ref p) lo hi H Q := ⟨p, xs, rfl, h, q⟩
theorem cut0 (xs : List V) (n : Nat) : cutV xs none (some (n : Int)) = xs.take n := by
 unfold cutV
 rw [HT.sIx_none, HT.sIx_nat, List.drop_zero, Nat.sub_zero]
 by_cases h : n ≤ xs.length
 ·rw [Nat.min_eq_left h]
 ·rw [Nat.min_eq_right (by omega), List.take_length, List.take_of_length_le (by omega)]
theorem rd_start {tm : TS} {N : List Str} {vs : List V} {σ0 : L2.St} (e : start N vs = σ0) (q : tm D σ0 H) : tm D (start N vs) H := by rw [e]; exact q
theorem lt_of {n : Nat} (h : n ≤ 100000) : n < sizeLine := Nat.lt_of_le_of_lt h (by decide)
theorem le_of {n : Nat} (h : n ≤ 100000) : n ≤ sizeLine := Nat.le_trans h (by decide)
theorem g_tt {c : Bool} {A B : Prop} (h : c = true) (q : A) : if c = true then A else B := by rw [if_pos h]; exact q
theorem g_ff {c : Bool} {A B : Prop} (h : c = false) (q : B) : if c = true then A else B := by rw [if_neg (by rw [h]; exact Bool.false_ne_true)]; exact q
theorem g_by {c : Prop} [Decidable c] {A B : Prop} (h1 : c → A) (h2 : ¬ c → B) : if decide c = true then A else B := by
 by_cases h : c
 ·exact g_tt (decide_eq_true h) (h1 h)
 ·exact g_ff (decide_eq_false h) (h2 h)
theorem mulR {i j : Int} (h1 : -(2 ^ 64) < j) (h2 : j < 2 ^ 64) : IntMulOk i j := .of_right (intBits_le_64 h1 h2)
theorem mulL {i j : Int} (h1 : -(2 ^ 64) < i) (h2 : i < 2 ^ 64) : IntMulOk i j := .of_left (intBits_le_64 h1 h2)
theorem divS {i j : Int} (h : 0 < j) (h2 : j < 2 ^ 200) : CDivW i j := by
 refine ⟨h, ?_⟩
 have e : j.natAbs < 2 ^ 200 := by omega
 exact Nat.lt_of_lt_of_le (PySem.Flt.log2_lt_of (by decide) e) (by decide)
end
end SL
set_option Elab.async false
set_option linter.all false
set_option maxRecDepth 100000
set_option maxHeartbeats 2000000
namespace SL
open PySem PySem.Spec PyProof.Rows L2
structure Cal (P : Program) (w : World) (K : PySem.W.Frag) (mg : Str → Option Value) (base : Heap) (k : Nat) (x : Str) (sp : Sp) : Prop where
 ex : ∃ (f : Addr) (fd : FuncData) (ps : List Str), FnOk P w K mg base CX0 k f fd ps sp ∧ mg x = some (.ref f) ∧ PySem.W.keepIn K (.ref f) = true ∧ Binds K fd ps []
section
variable {P : Program} {w : World} {K : PySem.W.Frag} {mg : Str → Option Value} {base : Heap}
theorem Cal.mono {j k : Nat} {x : Str} {sp : Sp} (c : Cal P w K mg base j x sp) (h : j ≤ k) : Cal P w K mg base k x sp := by
 obtain ⟨f, fd, ps, F, m, kp, b⟩ := c.ex
 exact ⟨f, fd, ps, F.mono h, m, kp, b⟩
theorem Cal.imp {k : Nat} {x : Str} {sp sp' : Sp} (c : Cal P w K mg base k x sp) (h : ∀ vs H Q E, sp' vs H Q E → sp vs H Q E) : Cal P w K mg base k x sp' := by
 obtain ⟨f, fd, ps, F, m, kp, b⟩ := c.ex
 exact ⟨f, fd, ps, F.imp h, m, kp, b⟩
end
section
variable {X : Cx} {k j : Nat} {x : Str} {sp : Sp} {p pos : Pos} {e : Expr} {es : List Expr} {t : TA}
def uLen (K : PySem.W.Frag) : List V → Hp → VK → Prop := fun xs H Q => ∃ x, xs = [x] ∧ match x with
 | .str z => z.length ≤ sizeLine ∧ Q (.int z.length) H
 | .ref p => (∃ ys, (SqL K H p ys ∨ SqT K H p ys) ∧ Q (.int ys.length) H) ∨ ∃ kvs, H p = some (.dK kvs) ∧ Q (.int kvs.length) H
 | _ => False
theorem callu_len : CallR X (.builtin "len") (uLen X.K) := by
  intro pins s σ H xs us Q I r h
  obtain ⟨x, rfl, h⟩ := h
  cases x <;> first
    | exact absurd h id
    | exact call_len_str pins s σ H _ us Q I r ⟨_, rfl, h.1, h.2⟩
    | (rcases h with ⟨ys, h1, h2⟩ | ⟨kvs, h1, h2⟩
       · exact call_len_seq pins s σ H _ us Q I r ⟨_, ys, rfl, h1, h2⟩
       · obtain ⟨u, rfl, r1⟩ := vals1 r
         cases r1
         exact d_len I (.inl h1) fun t s' I' => ⟨.int _, H, I', ⟨_, rfl⟩, h2⟩)
def uList (K : PySem.W.Frag) : List V → Hp → VK → Prop := fun xs H Q => (∃ p ys, xs = [.ref p] ∧ (SqL K H p ys ∨ SqT K H p ys) ∧ ∀ l, H l = none → Q (.ref l) (upd H l (.lst ys))) ∨ rListD xs H Q
theorem callu_list (hc : X.calm = true := by rfl) : CallR X (.type "list") (uList X.K) := call_list_of.or (call_list_dK hc)
def uIsi (K : PySem.W.Frag) : List V → Hp → VK → Prop := fun xs H Q => rIsi K xs H Q ∨ rIsiT K xs H Q
theorem callu_isi : CallR X (.builtin "isinstance") (uIsi X.K) := call_isi.or call_isiT
end
section
variable {K : PySem.W.Frag} {H : Hp} {Q : VK}
theorem g_len {p : Addr} {ys : List V} (h : SqL K H p ys ∨ SqT K H p ys) (q : Q (.int ys.length) H) : uLen K [.ref p] H Q := ⟨_, rfl, .inl ⟨ys, h, q⟩⟩
theorem g_list {p : Addr} {ys : List V} (h : SqL K H p ys ∨ SqT K H p ys) (q : ∀ l, H l = none → Q (.ref l) (upd H l (.lst ys))) : uList K [.ref p] H Q := .inl ⟨p, ys, rfl, h, q⟩
end
end SL
namespace SL
open PySem PySem.Spec PyProof.Rows L2
def shownV : V → Str
 | .int i => toString i
 | .str z => reprText z
 | .bl b => if b then "True" else "False"
 | _ => "None"
def shortV : V → Prop
 | .int i => i.natAbs.log2 < 1920
 | .str z => (reprText z).length ≤ sizeLine
 | .bl _ => True
 | .non => True
 | _ => False
def uRepr : List V → Hp → VK → Prop := fun xs H Q => ∃ x, xs = [x] ∧ shortV x ∧ Q (.str (shownV x)) H
theorem callu_repr {X : Cx} : CallR X (.builtin "repr") uRepr := by
 intro pins s σ H xs us Q I r h
 obtain ⟨x, rfl, hs, q⟩ := h
 obtain ⟨u, rfl, r1⟩ := vals1 r
 cases x with
 | int i =>
  obtain ⟨t, rfl⟩ := r1
  exact PySem.P.repr_of_int hs ⟨.str _, H, I.tok _, ⟨_, rfl⟩, q⟩
 | str z =>
  obtain ⟨t, rfl⟩ := r1
  exact PySem.P.repr_of_str ⟨.str _, H, I.tok _, ⟨_, rfl⟩, q⟩ hs
 | bl b =>
  cases r1
  exact PySem.P.repr_of_bool ⟨.str (if b then "True" else "False"), H, I.tok _, ⟨_, by cases b <;> rfl⟩, q⟩
 | non =>
  cases r1
  exact PySem.P.repr_of_none ⟨.str _, H, I.tok _, ⟨_, rfl⟩, q⟩
 | _ => exact absurd hs id
section
variable {K : PySem.W.Frag} {H : Hp} {Q : VK} {x : V}
theorem tyx_l {p : Addr} {xs : List V} (h : SqL K H p xs) : TyX K H (.ref p) (.type "list") := by
 rcases h with (h | ⟨o, h⟩) | ⟨o, its, n, h1, h2, _⟩
 ·exact .base (.lst h)
 ·exact .base (.frz h)
 ·exact .kList h1 h2
theorem tyx_t {p : Addr} {xs : List V} (h : SqT K H p xs) : TyX K H (.ref p) (.type "tuple") := by
 rcases h with (h | ⟨o, h⟩) | ⟨o, its, n, h1, h2, _⟩
 ·exact .base (.tup h)
 ·exact .fTuple h
 ·exact .kTuple h1 h2
theorem g_isi {T U : String} {b : Bool} (ty : TyX K H x (.type T)) (e : kitB T U = some b) (q : Q (.bl b) H) : uIsi K [x, .ty U] H Q := .inl ⟨x, .ty U, _, _, b, rfl, .ty U, ty, kit_ty e, q⟩
theorem g_isi2 {T U1 U2 : String} {b1 b2 : Bool} {tp : Addr} (ht : H tp = some (.tup [.ty U1, .ty U2])) (ty : TyX K H x (.type T)) (e1 : kitB T U1 = some b1) (e2 : kitB T U2 = some b2) (q : Q (.bl (b1 || b2)) H) : uIsi K [x, .ref tp] H Q := by
 refine .inr ⟨x, tp, [.ty U1, .ty U2], _, [.type U1, .type U2], b1 || b2, rfl, ht, .cons (.ty U1) (.cons (.ty U2) .nil), ty, ?_, q⟩
 refine kitAny_cons (kit_ty e1) (fun h => ?_) (fun h => by rw [h]; rfl)
 subst h
 refine kitAny_cons (kit_ty e2) (fun h => ?_) (fun h => by rw [h]; rfl)
 subst h
 exact kitAny_nil
end
def Sm : Nat → PyData → Prop
 | 0, _ => False
 | _ + 1, .int i => i.natAbs.log2 < 1920
 | _ + 1, .str z => (reprText z).length ≤ sizeLine
 | _ + 1, .bool _ => True
 | _ + 1, .none => True
 | n + 1, .list ds => ds.length ≤ 10000 ∧ ∀ d ∈ ds, Sm n d
 | n + 1, .tuple ds => ds.length ≤ 10000 ∧ ∀ d ∈ ds, Sm n d
 | _ + 1, .dict _ => False
section
variable {K : PySem.W.Frag} {H H' : Hp} {M : List Addr}
mutual
theorem dp_same (e : Same H H') : ∀ {v : V} {d : PyData}, Dp K H v d → Dp K H' v d
 | _, _, .non => .non
 | _, _, .bl b => .bl b
 | _, _, .int i => .int i
 | _, _, .str x => .str x
 | _, _, .lst h hs => .lst (e.seq h) (dpa_same e hs)
 | _, _, .tup h hs => .tup ((Fr.of_same (M := []) e).tup h) (dpa_same e hs)
theorem dpa_same (e : Same H H') : ∀ {vs : List V} {ds : List PyData}, DpAll K H vs ds → DpAll K H' vs ds
 | _, _, .nil => .nil
 | _, _, .cons h hs => .cons (dp_same e h) (dpa_same e hs)
end
theorem dpa_len : ∀ {vs : List V} {ds : List PyData}, DpAll K H vs ds → vs.length = ds.length
 | _, _, .nil => rfl
 | _, _, .cons _ hs => congrArg Nat.succ (dpa_len hs)
theorem dpa_get : ∀ {vs : List V} {ds : List PyData} {i : Nat} {v : V}, DpAll K H vs ds → vs[i]? = some v → ∃ d, ds[i]? = some d ∧ Dp K H v d
 | _, _, _, _, .nil, e => by simp at e
 | _, _, 0, v, .cons h _, e => by simp at e; subst e; exact ⟨_, rfl, h⟩
 | _, _, i + 1, v, .cons _ hs, e => by
  obtain ⟨d, h1, h2⟩ := dpa_get (i := i) (v := v) hs (by simpa using e)
  exact ⟨d, by simpa using h1, h2⟩
end
end SL
namespace SL
open PySem PySem.Spec PyProof.Rows L2
section
variable {K : PySem.W.Frag} {σ : L2.St} {H : Hp} {a b : Addr} {xs ys : List V}
theorem walk_zipT {n : Nat} (hn : n = min xs.length ys.length) : Walk (RZ.ItzT K a b) n (fun H => SqT K H a xs ∧ SqT K H b ys) (YPair (fun i => xs[i]?) (fun i => ys[i]?)) :=
 have both : ∀ {i : Nat}, i < n → i < xs.length ∧ i < ys.length := fun {i} lt => by omega
 {
  goes := fun i _ lt q => ⟨xs, ys, xs[i]'(both lt).1, ys[i]'(both lt).2, q.1, q.2, List.getElem?_eq_getElem _, List.getElem?_eq_getElem _⟩
  stops := fun _ q => ⟨xs, ys, q.1, q.2, by omega⟩
  yields := fun i H v H' _ q y => have ⟨T, x, z, isT, new, as, fx, fy⟩ := y; ⟨T, x, z, isT, new, as, fx xs q.1, fy ys q.2⟩
 }
theorem g_izA {tl : TA} {S : It → Hp → Prop} (q : tl σ H fun vs H1 => ∃ a b xs ys, vs = [.ref a, .ref b] ∧ ((SqL K H1 a xs ∧ SqL K H1 b ys ∧ S (Itz K a b) H1) ∨ (SqT K H1 a xs ∧ SqT K H1 b ys ∧ S (RZ.ItzT K a b) H1))) : RZ.iZipA K tl σ H S := q
theorem g_iz {tl : TA} {S : It → Hp → Prop} (q : tl σ H fun vs H1 => ∃ a b xs ys, vs = [.ref a, .ref b] ∧ SqL K H1 a xs ∧ SqL K H1 b ys ∧ S (Itz K a b) H1) : iZip K tl σ H S := q
end
end SL
set_option Elab.async false
set_option linter.all false
set_option maxRecDepth 100000
set_option maxHeartbeats 2000000
namespace SL
open PySem PySem.Spec PyProof.Rows L2
structure RoomG (k : Nat) (A : Around) : Prop where
 rm : Room k A
 gd : A.guards = some []
theorem RoomG.mono {j k : Nat} {A : Around} (r : RoomG k A) (h : j ≤ k) : RoomG j A := ⟨r.rm.mono h, r.gd⟩
theorem RoomG.units {k : Nat} {A : Around} (r : RoomG k A) : A.units + 64 < cLine := r.rm.units
structure FnG (P : Program) (w : World) (K : PySem.W.Frag) (mg : Str → Option Value) (base : Heap) (CX : CXT) (k : Nat) (f : Addr) (fd : FuncData) (ps : List Str) (sp : Sp) : Prop where
 len : ∀ vs H Q E, sp vs H Q E → vs.length = ps.length
 go : ∀ (A : Around) (outer : List Env) (s : Shared) (H : Hp) (args : Args) (us : List Value) (vs : List V) (Q : VK) (E : XK), RoomG k A →
  Env0 P w K mg base A outer s H → BindsTo s fd args (ps.zip us) → Vals vs us → sp vs H Q E → codeAny (model P w) A (.call (.ref f) args) (CR CX outer P w H s Q E) s
section
variable {P : Program} {w : World} {K : PySem.W.Frag} {mg : Str → Option Value} {base : Heap} {CX : CXT}
theorem FnG.up {j k : Nat} {f : Addr} {fd : FuncData} {ps : List Str} {sp : Sp} (F : FnG P w K mg base CX j f fd ps sp) (h : j ≤ k) : FnG P w K mg base CX k f fd ps sp :=
 ⟨F.len, fun A outer s H args us vs Q E r => F.go A outer s H args us vs Q E (r.mono h)⟩
theorem FnG.imp {k : Nat} {f : Addr} {fd : FuncData} {ps : List Str} {sp sp' : Sp} (F : FnG P w K mg base CX k f fd ps sp) (h : ∀ vs H Q E, sp' vs H Q E → sp vs H Q E) : FnG P w K mg base CX k f fd ps sp' :=
 ⟨fun vs H Q E z => F.len vs H Q E (h vs H Q E z), fun A outer s H args us vs Q E r e b v z => F.go A outer s H args us vs Q E r e b v (h vs H Q E z)⟩
theorem fng_of {k : Nat} {f : Addr} {x qual : Str} {pr : Arguments} {bd : List Stmt} {sc : Scope} {dV kV doc pm cdv ct oc : Value} {an od : Option Addr} {osl : Array (Option Value)} {N ps : List Str} {sp : Sp}
  (lk : K.lookup f = some ⟨oc, od, .func (PySem.W.fnOf x qual pr bd sc dV kV doc pm an cdv ct), osl⟩) (hcd : PySem.W.codeIn K cdv qual = true) (S : FnScope N ps sc) (hlen : ∀ vs H Q E, sp vs H Q E → vs.length = ps.length)
  (hb : ∀ (A : Around) (outer : List Env) (s : Shared) (H : Hp) (vs : List V) (Q : VK) (E : XK), RoomG k (A.deeper (envOfC qual sc s.heap.objs.size f cdv)) → sp vs H Q E →
   ∃ t, PSs (cxOf CX P w K mg base N qual sc f cdv A outer s H E) bd t ∧ t { nx := fun _ H' => Q .non H', rt := Q } (start N vs) H) :
  FnG P w K mg base CX (k + 1) f (PySem.W.fnOf x qual pr bd sc dV kV doc pm an cdv ct) ps sp := by
 constructor
 ·exact hlen
 intro A outer s H args us vs Q E hr env0 hbind rel hsp
 have nl := hlen _ _ _ _ hsp
 have inH : K.In s.heap := env0.mod.kin.keeps fun b o z => (env0.bs b o z).1
 have nolim : s.heap.NoLimit := env0.mod.nolimit.keeps fun b o z => (env0.bs b o z).1
 have kinds : ∀ y ∈ ps.zip us, sc.names.lookup y.1 = some .local ∨ (sc.names.lookup y.1 = some .cell ∧ ((cellsFrom (s.heap.objs.size + 1) sc.names []).lookup y.1).isSome = true) := by
  rintro ⟨n, v⟩ hy
  exact (S.par n (List.of_mem_zip hy).1).imp id fun q => ⟨q, PySem.W.cellsFrom_some _ _ _ (.inl q)⟩
 refine codeAny_call_function hr.rm.depth (inH _ _ lk) rfl S.co S.gen rfl (PySem.W.codeRec_of inH hcd) (hbind _ _ _ _ (wpAny_newFunctionEnv_cells S.kind kinds fun en hen s1 ic => ?_))
 subst hen
 refine ⟨nolim.keeps ic.toInCall.keep, codeAny_func ?_⟩
 obtain ⟨t, ht, hq⟩ := hb A outer s H vs Q E ⟨hr.rm.deeper _, hr.gd⟩ hsp
 have J0 : Inv (cxOf CX P w K mg base N qual sc f cdv A outer s H E) [] (start N vs) H s1 := inv_start S hr.rm.hd env0 nl rel ic
 refine wpAny_mono (ht.run [] s1 (start N vs) H _ J0 hq) (fun fl s2 h2 => ?_) fun e s2 h2 => h2
 cases fl with
 | next =>
  obtain ⟨σ2, H2, J, q2⟩ := h2
  exact ⟨V.non, H2, J.os, J.bare, J.base, J.hok, rfl, q2⟩
 | ret u =>
  obtain ⟨v, σ2, H2, J, rv, q2⟩ := h2
  exact ⟨v, H2, J.os, J.bare, J.base, J.hok, rv, q2⟩
 | brk => exact h2.elim fun _ z => z.elim fun _ z => z.2.elim
 | cont => exact h2.elim fun _ z => z.elim fun _ z => z.2.elim
theorem okG {x qual : Str} {pr : Arguments} {bd : List Stmt} {sc : Scope} {dvs : List V} {kws : List (Str × V)} {f : Addr} {fd : FuncData} {N ps : List Str} {k : Nat} {sp : Sp} (F : FunD K x qual pr bd sc dvs kws f fd) (S : FnScope N ps sc) (hlen : ∀ vs H Q E, sp vs H Q E → vs.length = ps.length)
  (hb : ∀ (cdv : Value) (A : Around) (outer : List Env) (s : Shared) (H : Hp) (vs : List V) (Q : VK) (E : XK), RoomG k (A.deeper (envOfC qual sc s.heap.objs.size f cdv)) → sp vs H Q E →
   ∃ t, PSs (cxOf CX P w K mg base N qual sc f cdv A outer s H E) bd t ∧ t { nx := fun _ H' => Q .non H', rt := Q } (start N vs) H) : FnG P w K mg base CX (k + 1) f fd ps sp := by
 obtain ⟨oc, od, dV, kV, doc, pm, an, cdv, ct, osl, rfl, lk, hcd, _, _⟩ := F.ex
 exact fng_of lk hcd S hlen fun A outer s H vs Q E hr hsp => hb cdv A outer s H vs Q E hr hsp
structure CalG (P : Program) (w : World) (K : PySem.W.Frag) (mg : Str → Option Value) (base : Heap) (k : Nat) (x : Str) (sp : Sp) : Prop where
 ex : ∃ (f : Addr) (fd : FuncData) (ps : List Str), FnG P w K mg base CX0 k f fd ps sp ∧ mg x = some (.ref f) ∧ PySem.W.keepIn K (.ref f) = true ∧ Binds K fd ps []
theorem CalG.mono {j k : Nat} {x : Str} {sp : Sp} (c : CalG P w K mg base j x sp) (h : j ≤ k) : CalG P w K mg base k x sp := by
 obtain ⟨f, fd, ps, F, m, kp, b⟩ := c.ex
 exact ⟨f, fd, ps, F.up h, m, kp, b⟩
theorem CalG.imp {k : Nat} {x : Str} {sp sp' : Sp} (c : CalG P w K mg base k x sp) (h : ∀ vs H Q E, sp' vs H Q E → sp vs H Q E) : CalG P w K mg base k x sp' := by
 obtain ⟨f, fd, ps, F, m, kp, b⟩ := c.ex
 exact ⟨f, fd, ps, F.imp h, m, kp, b⟩
end
section
variable {X : Cx} {k j : Nat} {x : Str} {sp : Sp} {p pos : Pos} {e : Expr} {es : List Expr} {t : TA}
theorem run_fng {CX : CXT} {f : Addr} {fd : FuncData} {ps : List Str} {dvs : List V} {ds : List Value} {E : XK} {pins : List (Addr × Obj)} {σ : L2.St} {H : Hp} {s : Shared} {Q : VK} {us : List Value} {vs : List V}
  (F : FnG X.prog X.w X.K X.mg X.base CX k f fd ps sp) (hr : RoomG k X.A) (hb : Binds X.K fd ps ds) (hd : Vals dvs ds) (hx : Passes CX X E) (I : Inv X pins σ H s) (r : Vals vs us) (h : sp (vs ++ dvs) H Q E) :
  wpAny (model X.prog X.w) X.A (call (.ref f) us) (EP X pins σ Q) X.xe s := by
 have rel : Vals (vs ++ dvs) (us ++ ds) := r.append hd
 have ln : (us ++ ds).length = ps.length := rel.length.symm.trans (F.len _ _ _ _ h)
 refine wpAny_call (codeAny_mono (F.go X.A X.stack s H ⟨us, []⟩ (us ++ ds) (vs ++ dvs) Q E hr I.env0 (hb s us I.kIn ln) rel h) fun res s2 hq => ?_)
 cases res with
 | ok fl =>
  cases fl with
  | ret u => exact I.after hq
  | _ => exact hq.elim
 | error z => exact hx pins σ H s z s2 I hq
theorem pe_calG (c : CalG X.prog X.w X.K X.mg X.base k x sp) (hr : RoomG j X.A) (hg : Gl X x) (ha : PA X (e :: es) t) (hk : k ≤ j := by first | decide | omega)
  (hdb : (x == ("__debug__" : Str)) = false := by decide) (hst : starEach (e :: es) X.env = (false, eval e X.env) :: starEach es X.env := by rfl) (hnp : (backTo pos (starEach es X.env)).any (·.1) = false := by rfl) :
  PE X (.Call (.Name x p) (e :: es) [] pos) (tCall sp [] E0 t) := by
 obtain ⟨f, fd, ps, F, hm, kp, b⟩ := c.ex
 constructor
 intro pins s σ H Q I h
 refine wpAny_Call_Name_kw (ld_glob I hg hm (PySem.W.callWith_K (h₀ := X.base) I.ok.mod.kin kp (thn (ha.run pos pins s σ H _ I h) fun us s1 z => ?_) hst hnp) hdb)
 obtain ⟨vs, H1, I1, r, q⟩ := z
 exact ⟨I1.kIn, run_fng F (hr.mono hk) b .nil pass0 I1 r q⟩
end
theorem calG_of {P : Program} {w : World} {K : PySem.W.Frag} {mg : Str → Option Value} {base : Heap} {k : Nat} {x : Str} {sp : Sp} {f : Addr} {fd : FuncData} {ps : List Str} (F : FnG P w K mg base CX0 k f fd ps sp) (m : mg x = some (.ref f)) (kp : PySem.W.keepIn K (.ref f) = true) (b : Binds K fd ps []) : CalG P w K mg base k x sp := ⟨f, fd, ps, F, m, kp, b⟩
def scrO (vs : List Value) : Obj := { cls := .type "list", data := .seq vs.toArray }
theorem law_from {P : Program} {w : World} {K : PySem.W.Frag} {mg mb : Str → Option Value} {k : Nat} {fa a : Addr} {fd : FuncData} {x : Str} {sp : Sp} {s : Shared} {vs : List Value} {H : Hp}
  (kin : K.In s.heap) (gns : s.heap.Ns mainGlobals mg) (bns : s.heap.Ns builtinsNs mb) (bok : ∀ x : Str, x ≠ "__name__" → mb x = bootBuiltins x) (nolim : s.heap.NoLimit) (nog : s.gens = #[]) (scr : s.heap.get? a = some (scrO vs)) (hr : RoomG k callerA)
  (F : ∀ base : Heap, K.In base → base.Ns mainGlobals mg → FnG P w K mg base CX0 k fa fd [x] sp) (hbind : ∀ (s : Shared) (u : Value), BindsTo s fd ⟨[u], []⟩ [(x, u)])
  (hsp : sp [.ref a] H (fun v _ => v = .bl true) fun _ _ _ => False) (hO : Only H) (hok : HOk P w H s.heap) (hA : ∀ b, H b ≠ none → b = a) (hK : H a ≠ none → K.lookup a = none) :
  codeAny (model P w) callerA (.call (.ref fa) ⟨[.ref a], []⟩) (fun r s2 => r = .ok (.ret (.bool true)) ∧ OldK s.heap s2.heap ∧ s2.os = s.os ∧ AllBare s2.gens) s := by
 have dfree : ∀ {b : Addr} {o : Obj} {es : Array DictEntry} {ep : Nat}, s.heap.get? b = some o → o.data = .dict es ep → H b = none := by
  intro b o es ep h1 h2
  cases q : H b with
  | none => rfl
  | some u =>
   have hb : b = a := hA b (by rw [q]; exact fun z => nomatch z)
   rw [hb, scr] at h1
   cases h1
   cases h2
 have nsH : ∀ {b : Addr} {m : Str → Option Value}, s.heap.Ns b m → (hidT s.heap H).Ns b m := by
  rintro b m ⟨o, es, ep, h1, h2, h3⟩
  exact ⟨o, es, ep, hidT_get h1 (dfree h1 h2), h2, h3⟩
 have kH : K.In (hidT s.heap H) := by
  intro b o h1
  refine hidT_get (kin b o h1) ?_
  cases q : H b with
  | none => rfl
  | some u =>
   have hb : b = a := hA b (by rw [q]; exact fun z => nomatch z)
   rw [hb] at h1 q
   rw [hK (by rw [q]; exact fun z => nomatch z)] at h1
   cases h1
 obtain ⟨mc, l1, l2⟩ := nolim
 have md : Mod K mg (hidT s.heap H) := ⟨kH, nsH gns, ⟨mb, nsH bns, bok⟩, ⟨mc, nsH l1, l2⟩⟩
 have env : Env0 P w K mg (hidT s.heap H) callerA [] s H := ⟨rfl, md, fun _ _ z => of_hidT z, Nat.le_of_eq (hidT_size _ _), trivial, fun b hb => (nomatch (show b ∈ ([] : List Addr) from hb)), hok, .of_eq nog⟩
 refine codeAny_mono ((F _ kH (nsH gns)).go callerA [] s H ⟨[.ref a], []⟩ [.ref a] [.ref a] _ _ hr env (hbind s (.ref a)) (.cons rfl .nil) hsp) fun r s2 h => ?_
 cases r with
 | error z => exact h.elim
 | ok fl =>
  cases fl with
  | ret u =>
   obtain ⟨v, H2, os, bare, un, hok2, rv, q⟩ := h
   have q1 : v = .bl true := q
   rw [q1] at rv
   have ru : u = Value.bool true := rv
   rw [ru]
   refine ⟨rfl, OldK.of_keep fun b o h1 => ?_, os, bare⟩
   rcases hO b with z | ⟨ob, xs, z⟩
   ·exact un.keep b o h1 z (fun y => nomatch (show b ∈ ([] : List Addr) from y)) (fun y => nomatch y)
   ·obtain ⟨g1, _⟩ := hok b _ z
    obtain ⟨g2, _⟩ := hok2 b _ (un.frzs b ob _ z)
    rw [h1] at g1
    cases g1
    exact g2
  | _ => exact h.elim
theorem law_run {P : Program} {w : World} {K : PySem.W.Frag} {mg mb : Str → Option Value} {k : Nat} {fa a : Addr} {fd : FuncData} {x : Str} {sp : Sp} {s : Shared} {vs : List Value} {ns : List Int}
  (kin : K.In s.heap) (gns : s.heap.Ns mainGlobals mg) (bns : s.heap.Ns builtinsNs mb) (bok : ∀ x : Str, x ≠ "__name__" → mb x = bootBuiltins x) (nolim : s.heap.NoLimit) (nog : s.gens = #[]) (scr : s.heap.get? a = some (scrO vs)) (hin : IntsAre vs ns) (small : ns.length ≤ sizeLine) (hr : RoomG k callerA)
  (F : ∀ base : Heap, K.In base → base.Ns mainGlobals mg → FnG P w K mg base CX0 k fa fd [x] sp) (hbind : ∀ (s : Shared) (u : Value), BindsTo s fd ⟨[u], []⟩ [(x, u)])
  (hsp : ∀ H : Hp, Only H → SqL K H a (ns.map V.int) → sp [.ref a] H (fun v _ => v = .bl true) fun _ _ _ => False) :
  codeAny (model P w) callerA (.call (.ref fa) ⟨[.ref a], []⟩) (fun r s2 => r = .ok (.ret (.bool true)) ∧ OldK s.heap s2.heap ∧ s2.os = s.os ∧ AllBare s2.gens) s := by
 have rel := vals_ints hin
 have ln := hin.length
 cases hk : K.lookup a with
 | none =>
  let H0 : Hp := fun b => if b = a then some (.frz (scrO vs) (.lst (ns.map V.int))) else none
  have at_a : H0 a = some (.frz (scrO vs) (.lst (ns.map V.int))) := if_pos rfl
  have off_a : ∀ b, b ≠ a → H0 b = none := fun b hb => if_neg hb
  have only : Only H0 := fun b => by
   by_cases hb : b = a
   ·rw [hb]; exact .inr ⟨_, _, at_a⟩
   ·exact .inl (off_a b hb)
  refine law_from (H := H0) kin gns bns bok nolim nog scr hr F hbind (hsp H0 only (.inl (.inr ⟨_, at_a⟩))) only (fun b u z => ?_) (fun b z => ?_) fun _ => hk
  ·by_cases hb : b = a
   ·subst hb
    rw [at_a] at z
    cases z
    exact ⟨scr, (by rw [List.length_map]; exact small), vs, _, rel, scr⟩
   ·rw [off_a b hb] at z
    cases z
  ·by_cases hb : b = a
   ·exact hb
   ·exact absurd (off_a b hb) z
 | some o =>
  have h1 := kin a o hk
  rw [scr] at h1
  cases h1
  refine law_from (H := fun _ => none) kin gns bns bok nolim nog scr hr F hbind (hsp _ (fun _ => .inl rfl) (.inr ⟨_, vs.toArray, _, hk, rfl, rfl, rfl, by rw [List.size_toArray, ln]; exact small, by simpa using rel⟩)) (fun _ => .inl rfl) (fun b u z => ?_) (fun b z => absurd rfl z) fun z => absurd rfl z
  have z2 : (none : Option HO) = some u := z
  cases z2
theorem walkG {l : PySem.W.OpenLaw} {n k : Nat} {q : Program} {loose : List Str} {XP : (Str → Option Value) → Heap → Prop} {YP : World → Heap → Prop} {d : DefRec} {x : Str} (hn : l.most = some n) (hn2 : n ≤ sizeLine) (hdf : d.params.defaults = []) (hr : Room k callerA)
  (F : ∀ (w : World) (mg : Str → Option Value) (fa : Addr) (h : Heap), YP w h → h.Ns mainGlobals mg → mg d.name = some (.ref fa) →
   ∃ (K : PySem.W.Frag) (fd : FuncData) (sp : Sp), K.In h ∧ (∀ (s : Shared) (u : Value), BindsTo s fd ⟨[u], []⟩ [(x, u)]) ∧
    (∀ (H : Hp) (a : Addr) (ns : List Int), ns.length ≤ n → SqL K H a (ns.map V.int) → sp [.ref a] H (fun v _ => v = .bl true) fun _ _ _ => False) ∧ ∀ base : Heap, K.In base → base.Ns mainGlobals mg → FnG l.prog w K mg base CX0 k fa fd [x] sp) :
  PySem.W.WalkO q loose XP YP l.row.toRowW d [] (fun f vs => PySem.call f vs) := by
 refine Att.attach_call hn hdf fun w s₀ s₁ mg mb fa o pm cd doc a vs ns G Y ho hd hcd hmg hobj hints hlen hg => ?_
 obtain ⟨K, fd, sp, kin, hb, hsp, hF⟩ := F w mg fa _ Y G.T.g hmg
 exact law_run kin G.T.g G.T.b G.T.builtins G.T.nolimit hg hobj hints (Nat.le_trans hlen hn2) ⟨hr, rfl⟩ hF hb fun H _ hS => hsp H a ns hlen hS
end SL
set_option Elab.async false
set_option linter.all false
set_option maxRecDepth 100000
set_option maxHeartbeats 2000000
namespace SL
open PySem PySem.Spec PyProof.Rows L2
def isSc : V → Bool
 | .int _ | .str _ | .bl _ | .non => true
 | _ => false
def scD : V → PyData
 | .int i => .int i
 | .str x => .str x
 | .bl b => .bool b
 | _ => .none
def keyD : Key → PyData
 | .inl i => .int i
 | .inr x => .str x
def kvD (kvs : List (Key × V)) : PyData := .dict (kvs.map fun kv => (keyD kv.1, scD kv.2))
theorem sc_reads {h : Heap} {x : V} {u : Value} (s : isSc x = true) (r : RelV x u) : Reads h u (scD x) [] := by
 cases x with
 | int i => obtain ⟨t, rfl⟩ := r; exact .int i t
 | str i => obtain ⟨t, rfl⟩ := r; exact .str i t
 | bl b => cases r; exact .bool b
 | non => cases r; exact .none
 | _ => cases s
theorem key_reads {h : Heap} {k : Key} {u : Value} (r : keyIs k u = true) : Reads h u (keyD k) [] := by
 rcases keyIs_shape r with ⟨i, t, rfl, rfl⟩ | ⟨x, t, rfl, rfl⟩
 ·exact .int i t
 ·exact .str x t
theorem pairs_reads {P : Program} {w : World} {h : Heap} : ∀ {es : List DictEntry} {kvs : List (Key × V)} {vs : List (Key × Value)}, Pairs (mixKind P w) es vs → KV kvs vs → (∀ kv ∈ kvs, isSc kv.2 = true) →
  ReadsAll h (es.map (·.key)) ((kvs.map fun kv => (keyD kv.1, scD kv.2)).map (·.1)) [] ∧ ReadsAll h (es.map (·.val)) ((kvs.map fun kv => (keyD kv.1, scD kv.2)).map (·.2)) []
 | _, _, _, .nil, .nil, _ => ⟨.nil, .nil⟩
 | en :: _, (k, v) :: r, kv2 :: _, .cons h1 h2 h3, .cons g1 g2, hs => by
  obtain ⟨i1, i2⟩ := pairs_reads (h := h) h3 g2 fun kv z => hs kv (List.mem_cons_of_mem _ z)
  obtain ⟨e1, e2⟩ := g1
  have e3 : keyIs k en.key = true := by
   have e4 : k = kv2.1 := e1
   rw [e4]; exact h1
  have r1 : RelV v kv2.2 := e2
  rw [← h2] at r1
  exact ⟨.cons (key_reads e3) i1, .cons (sc_reads (hs _ List.mem_cons_self) r1) i2⟩
def rReprD (K : PySem.W.Frag) : List V → Hp → VK → Prop := fun xs H Q => ∃ (p : Addr) (d : PyData), xs = [.ref p] ∧ (Dp K H (.ref p) d ∨ ∃ kvs, H p = some (.dK kvs) ∧ (∀ kv ∈ kvs, isSc kv.2 = true) ∧ d = kvD kvs) ∧
 d.showable = true ∧ d.depth ≤ 50 ∧ d.shown.length ≤ sizeLine ∧ Q (.str d.shown) H
mutual
theorem dp_nodict {K : PySem.W.Frag} {H : Hp} : ∀ {v : V} {d : PyData}, Dp K H v d → d.hasDict = false
 | _, _, .non => by simp only [PyData.hasDict]
 | _, _, .bl _ => by simp only [PyData.hasDict]
 | _, _, .int _ => by simp only [PyData.hasDict]
 | _, _, .str _ => by simp only [PyData.hasDict]
 | _, _, .lst _ h => by simp only [PyData.hasDict]; exact dpa_nodict h
 | _, _, .tup _ h => by simp only [PyData.hasDict]; exact dpa_nodict h
theorem dpa_nodict {K : PySem.W.Frag} {H : Hp} : ∀ {vs : List V} {ds : List PyData}, DpAll K H vs ds → PyData.hasDictAll ds = false
 | _, _, .nil => by simp only [PyData.hasDictAll]
 | _, _, .cons h hs => by simp only [PyData.hasDictAll, dp_nodict h, dpa_nodict hs, Bool.or_self]
end
section
variable {X : Cx} {k : Nat}
theorem call_reprD (hr : RoomG k X.A) : CallR X (.builtin "repr") (rReprD X.K) := by
 intro pins s σ H xs us Q I r h
 obtain ⟨p, d, rfl, hd, hs, hdep, hsz, q⟩ := h
 obtain ⟨u, rfl, r1⟩ := vals1 r
 have hu : X.A.units + (d.depth + 1) < cLine := by have := hr.units; omega
 rcases hd with hd | ⟨kvs, hp, hsc, rfl⟩
 ·cases r1
  obtain ⟨as, hR⟩ := Dp.reads I d _ _ hd (show RelV (.ref p) (.ref p) from rfl)
  exact repr_of_reads' hR hs (fun z => by rw [dp_nodict hd] at z; cases z) hr.gd hu (fun _ _ z => z) (fun h' u tk hk => ⟨.str _, H, I.kept (t' := tk) hk, ⟨u, rfl⟩, q⟩) hsz
 ·cases r1
  obtain ⟨_, y, vs, rk, o, es, ep, e, ex, hdat, _, pr, _⟩ := I.hok p _ hp
  obtain ⟨i1, i2⟩ := pairs_reads (h := s.heap) pr rk hsc
  have hR : Reads s.heap (.ref p) (kvD kvs) (p :: [] ++ []) := .dict e ex.1 hdat i1 i2
  refine repr_of_reads' hR hs (fun _ z => ?_) hr.gd hu (fun _ _ z => z) (fun h' u tk hk => ⟨.str _, H, I.kept (t' := tk) hk, ⟨u, rfl⟩, q⟩) hsz
  have z1 : sysModules = p := by simpa using z
  rw [← z1] at y
  simp at y
def uReprG (K : PySem.W.Frag) : List V → Hp → VK → Prop := fun xs H Q => uRepr xs H Q ∨ rReprD K xs H Q
theorem callu_reprG (hr : RoomG k X.A) : CallR X (.builtin "repr") (uReprG X.K) := callu_repr.or (call_reprD hr)
end
section
variable {K : PySem.W.Frag} {H : Hp} {Q : VK} {x : V}
theorem g_reprS (h : shortV x) (q : Q (.str (shownV x)) H) : uReprG K [x] H Q := .inl ⟨x, rfl, h, q⟩
theorem g_dget {td ty : TE} {σ : L2.St} (q : td σ H fun x H1 => ty σ H1 fun y H2 => ∃ a v, x = .ref a ∧ DGet H2 a y (some v) ∧ Q v H2) : tDGet td ty σ H Q := q
end
end SL
namespace SL
open PySem PySem.Spec PyProof.Rows L2
section
variable {X : Cx} {K : PySem.W.Frag}
theorem kOp {r : PySem.W.Frag → R2} {f : Value → Value → Sem Value} (e : X.K = K) (h : OpR X f (r X.K)) : OpR X f (r K) := e ▸ h
theorem kIx {r : PySem.W.Frag → R2} (e : X.K = K) (h : IxR X (r X.K)) : IxR X (r K) := e ▸ h
theorem kSl {r : PySem.W.Frag → V → Option Int → Option Int → Hp → VK → Prop} (e : X.K = K) (h : SlR X (r X.K)) : SlR X (r K) := e ▸ h
theorem kCall {r : PySem.W.Frag → List V → Hp → VK → Prop} {f : Value} (e : X.K = K) (h : CallR X f (r X.K)) : CallR X f (r K) := e ▸ h
variable {a b : Expr} {rest es : List Expr} {ta tb te : TE} {tgs : TGs} {pos : Pos} {tg : Expr} {n k : Nat}
theorem pe_andTK (e : X.K = K) (ha : PE X a ta) (hb : PE X (.BoolOp .And (b :: rest) pos) tb) : PE X (.BoolOp .And (a :: b :: rest) pos) (tAndT K ta tb) := by subst e; exact pe_andT ha hb
theorem pi_listK (e : X.K = K) (h : PE X a ta) : PI X tg a (iList K ta) := by subst e; exact pi_list h
theorem pi_tupK (e : X.K = K) (h : PE X a ta) : PI X tg a (iTup K ta) := by subst e; exact pi_tup h
theorem pg_tupK (e : X.K = K) (hc : X.calm = true) (h : PGs X es tgs) (hn : (assignEach es X.env).length = n := by rfl) (hst : (assignEach es X.env).findIdx? (·.1) = none := by rfl) : PG X (.Tuple es k pos) (gTup K n tgs) := by subst e; exact pg_tup hc h hn hst
end
end SL
namespace SL
open PySem PySem.Spec PyProof.Rows L2
def uTuple (K : PySem.W.Frag) : List V → Hp → VK → Prop := fun xs H Q => ∃ p ys, xs = [.ref p] ∧ ((SqL K H p ys ∧ ∀ l, H l = none → Q (.ref l) (upd H l (.tup ys))) ∨ (SqT K H p ys ∧ Q (.ref p) H))
theorem callu_tuple {X : Cx} : CallR X (.type "tuple") (uTuple X.K) := call_tuple_of
section
variable {K : PySem.W.Frag} {H : Hp} {Q : VK}
theorem g_tupleL {p : Addr} {ys : List V} (h : SqL K H p ys) (q : ∀ l, H l = none → Q (.ref l) (upd H l (.tup ys))) : uTuple K [.ref p] H Q := ⟨p, ys, rfl, .inl ⟨h, q⟩⟩
end
end SL
namespace SL
open PySem PySem.Spec PyProof.Rows L2
section
variable {X : Cx} {K : PySem.W.Frag} {ex : Expr} {T : String} {rb : V → List V → Hp → VK → Prop} {to : TE} {tl : TA} {σ : L2.St} {H : Hp} {Q : VK}
theorem kBM (e : X.K = K) (h : PE X ex (tBM X.K T rb to tl)) : PE X ex (tBM K T rb to tl) := e ▸ h
theorem g_bm (q : to σ H fun x H1 => tyV K T x H1 ∧ tl σ H1 fun xs H2 => rb x xs H2 Q) : tBM K T rb to tl σ H Q := q
theorem g_bm0 (q : to σ H fun x H1 => tyV K T x H1 ∧ rb x [] H1 Q) : tBM0 K T rb to σ H Q := q
theorem g_tyS {A : Prop} {z : Str} (q : A) : tyV K "str" (.str z) H ∧ A := ⟨rfl, q⟩
theorem g_tyL {A : Prop} {p : Addr} {xs : List V} (h : SqL K H p xs) (q : A) : tyV K "list" (.ref p) H ∧ A := ⟨.inl ⟨rfl, xs, h⟩, q⟩
end
end SL
namespace SL
open PySem PySem.Spec PyProof.Rows L2
section
variable {K : PySem.W.Frag} {σ : L2.St} {H : Hp} {Q : VK} {tk tv : TE} {trs : List (TE × TE)} {A : List (V × V) → Hp → Prop}
theorem g_pairs (q : tk σ H fun x H1 => tv σ H1 fun y H2 => tPairs trs σ H2 fun ps H3 => A ((x, y) :: ps) H3) : tPairs ((tk, tv) :: trs) σ H A := q
theorem g_pairs0 (q : A [] H) : tPairs [] σ H A := q
end
end SL
set_option Elab.async false
set_option linter.all false
set_option maxRecDepth 100000
set_option maxHeartbeats 2000000
namespace SL
open PySem PySem.Spec PyProof.Rows L2
section
variable {P : Program} {w : World} {K : PySem.W.Frag} {mg : Str → Option Value} {base : Heap} {f : Addr} {fd : FuncData} {ps : List Str} {x : Str} {sp : Nat → Sp}
theorem calG_rec0 (z : ∀ vs H Q E, ¬ sp 0 vs H Q E) (m : mg x = some (.ref f)) (kp : PySem.W.keepIn K (.ref f) = true) (bb : Binds K fd ps [])
  (st : ∀ n, CalG P w K mg base n x (sp n) → FnG P w K mg base CX0 (n + 1) f fd ps (sp (n + 1))) : ∀ n, CalG P w K mg base n x (sp n)
 | 0 => calG_of ⟨fun vs H Q E h => absurd h (z _ _ _ _), fun _ _ _ _ _ _ _ _ _ _ _ _ _ h => absurd h (z _ _ _ _)⟩ m kp bb
 | n + 1 => calG_of (st n (calG_rec0 z m kp bb st n)) m kp bb
end
end SL
set_option Elab.async false
set_option linter.all false
set_option maxRecDepth 100000
set_option maxHeartbeats 2000000
namespace SL
open PySem PySem.Spec PyProof.Rows L2
section
variable {X : Cx} {K : PySem.W.Frag} {σ : L2.St} {H : Hp} {Q : VK} {x y : V}
def tFs (ts : List TE) : TE := fun σ H Q => tJs ts Str.empty σ H fun out H1 => Q (.str out) H1
theorem g_fs {ts : List TE} (q : tJs ts Str.empty σ H fun out H1 => Q (.str out) H1) : tFs ts σ H Q := q
theorem g_js0 {acc : Str} {A : Str → Hp → Prop} (q : A acc H) : tJs [] acc σ H A := q
theorem g_js {t : TE} {ts : List TE} {acc : Str} {A : Str → Hp → Prop} (q : t σ H fun x H1 => ∃ y : Str, x = .str y ∧ (acc ++ y).length ≤ sizeLine ∧ tJs ts (acc ++ y) σ H1 A) : tJs (t :: ts) acc σ H A := q
theorem g_fmt {te : TE} (q : te σ H fun x H1 => (∃ y : Str, x = .str y ∧ y.length ≤ sizeLine ∧ Q (.str y) H1) ∨ ∃ i : Int, x = .int i ∧ i.natAbs.log2 < 1920 ∧ Q (.str (toString i)) H1) : tFmt te σ H Q := q
theorem g_fmtS {z : Str} {A : Str → Prop} {B : Prop} (h : z.length ≤ sizeLine) (q : A z) : (∃ y : Str, V.str z = .str y ∧ y.length ≤ sizeLine ∧ A y) ∨ B := .inl ⟨z, rfl, h, q⟩
theorem g_jsS {z acc : Str} {A : Str → Prop} (h : (acc ++ z).length ≤ sizeLine) (q : A z) : ∃ y : Str, V.str z = .str y ∧ (acc ++ y).length ≤ sizeLine ∧ A y := ⟨z, rfl, h, q⟩
theorem app_len {a b : Str} : (a ++ b).length = a.length + b.length := Array.size_append
theorem lit_q : ("'" : Str).length = 1 := by decide +kernel
theorem lit_lp : ("(" : Str).length = 1 := by decide +kernel
theorem lit_rp : (")" : Str).length = 1 := by decide +kernel
theorem lit_sp : (" " : Str).length = 1 := by decide +kernel
theorem lit_cs : (", " : Str).length = 2 := by decide +kernel
theorem lit_not : ("not " : Str).length = 4 := by decide +kernel
theorem lit_is : (" is " : Str).length = 4 := by decide +kernel
theorem lit_if : (" if " : Str).length = 4 := by decide +kernel
theorem lit_e : Str.empty.length = 0 := by decide +kernel
theorem lit_dot : ("." : Str).length = 1 := by decide +kernel
def uInt : List V → Hp → VK → Prop := fun xs H Q => (∃ i, xs = [.int i] ∧ Q (.int i) H) ∨ ∃ k, xs = [.bl k] ∧ Q (.int (if k then 1 else 0)) H
theorem callu_int : CallR X (.type "int") uInt := call_int1
theorem g_intB {k : Bool} (q : Q (.int (if k then 1 else 0)) H) : uInt [.bl k] H Q := .inr ⟨k, rfl, q⟩
def uIs : R2 := fun x y H Q => y = .non ∧ Q (.bl (decide (x = .non))) H
def uIsNot : R2 := fun x y H Q => y = .non ∧ Q (.bl (!decide (x = .non))) H
theorem g_is (q : Q (.bl (decide (x = .non))) H) : uIs x .non H Q := ⟨rfl, q⟩
theorem g_isNot (q : Q (.bl (!decide (x = .non))) H) : uIsNot x .non H Q := ⟨rfl, q⟩
end
section
variable {X : Cx} {o e f : Expr} {apos cpos : Pos} {td ty tx : TE}
end
section
variable {K : PySem.W.Frag} {w : World} {H : Hp} {Q : VK} {σ : L2.St}
end
end SL
set_option Elab.async false
set_option linter.all false
set_option maxRecDepth 100000
set_option maxHeartbeats 2000000
namespace SL
open PySem PySem.Spec PyProof.Rows L2
section
variable {P : Program} {w : World} {K : PySem.W.Frag} {mg : Str → Option Value} {base : Heap} {f : Addr} {fd : FuncData} {ps : List Str} {x : Str} {sp : Nat → Sp}
end
section
variable {K : PySem.W.Frag} {σ : L2.St} {H : Hp} {D : Ends} {Q : VK}
theorem g_dput {td ty tv : TE} (q : tv σ H fun v H1 => td σ H1 fun x H2 => ty σ H2 fun y H3 => ∃ a H4, x = .ref a ∧ DPut H3 a y v H4 ∧ D.nx σ H4) : sDPut td ty tv D σ H := q
end
section
variable {D : Ends} {σ : L2.St} {H : Hp}
theorem g_seqIf (t : TT) (a b u : TS) (D : Ends) (σ : L2.St) (H : Hp) : tSeq (tIfS t a b) u D σ H → tSeq (tIfS t a b) u D σ H := id
end
end SL
set_option Elab.async false
set_option linter.all false
set_option maxRecDepth 100000
set_option maxHeartbeats 2000000
namespace SL
open PySem PySem.Spec PyProof.Rows L2
section
variable {σ : L2.St} {H : Hp} {Q : VK} {D : Ends}
theorem g_listRg {te : TE} (q : tRg1 te σ H fun a b H1 => RgOk a b ∧ ∀ q, H1 q = none → Q (.ref q) (upd H1 q (.lst (rgV a b)))) : tLstRg (tRg1 te) σ H Q := q
theorem g_rg1 {ta : TE} {A : Int → Int → Hp → Prop} (q : ta σ H fun x H1 => ∃ n, x = .int n ∧ A 0 n H1) : tRg1 ta σ H A := q
end
abbrev Turns (J : It) (b : (Hp → Prop) → V → Hp → Prop) (H0 : Hp) (Dn : Hp → Prop) : Prop :=
 ∃ W : Nat → Nat → Hp → Prop, (∃ m, W 0 m H0) ∧ ∀ i m H, W i m H → (J.stop i H ∧ Dn H) ∨ (J.go i H ∧ ∃ Nx : Hp → Prop, (∀ H', Nx H' → ∃ m', m' < m ∧ W (i + 1) m' H') ∧ ∀ x H', J.yld i H x H' → b Nx x H')
abbrev inB (g1 : TG) (tt1 : TT) (te : TE) (vs1 : List Nat) (σ : L2.St) (D : Addr) (Nx : Hp → Prop) (x : V) (H' : Hp) : Prop :=
 g1 x (wipe σ vs1) H' fun σ3 H5 => wipe σ3 vs1 = wipe σ vs1 ∧ tt1 σ3 H5 fun b H6 => if b = true then te σ3 H6 fun y H7 => ∃ acc, H7 D = some (.lst acc) ∧ acc.length < sizeLine ∧ Nx (upd H7 D (.lst (acc ++ [y]))) else Nx H6
abbrev outB (g : TG) (tt : TT) (wi1 : TI) (g1 : TG) (tt1 : TT) (te : TE) (vs vs1 : List Nat) (σ : L2.St) (D : Addr) (Nx : Hp → Prop) (x : V) (H' : Hp) : Prop :=
 g x (wipe σ vs) H' fun σ2 H2 => wipe σ2 vs = wipe σ vs ∧ tt σ2 H2 fun b H3 => if b = true then wi1 σ2 H3 fun J1 H4 => Turns J1 (inB g1 tt1 te vs1 σ2 D) H4 Nx else Nx H3
abbrev dictB (g : TG) (tt : TT) (tk tv : TE) (vs : List Nat) (σ : L2.St) (D : Addr) (Nx : Hp → Prop) (x : V) (H' : Hp) : Prop :=
 g x (wipe σ vs) H' fun σ2 H2 => wipe σ2 vs = wipe σ vs ∧ tt σ2 H2 fun b H3 => if b = true then tk σ2 H3 fun y H4 => tv σ2 H4 fun z H5 => ∃ kvs k, y = kV k ∧ H5 D = some (.dK kvs) ∧ kvs.length < sizeLine ∧ Nx (upd H5 D (.dK (putK kvs k z))) else Nx H3
section
variable {J : It} {n : Nat} {G : Hp → Prop} {Y : Nat → Hp → V → Hp → Prop}
end
section
variable {σ : L2.St} {H : Hp} {Q : VK} {wi wi1 : TI} {g g1 : TG} {tt tt1 : TT} {te tk tv : TE} {vs vs1 : List Nat}
theorem g_lc2 (q : wi σ H fun J H1 => ∀ D, H1 D = none → Turns J (outB g tt wi1 g1 tt1 te vs vs1 σ D) (upd H1 D (.lst [])) fun H => Q (.ref D) H) : tLc2 wi g tt wi1 g1 tt1 te vs vs1 σ H Q := q
theorem g_dc (q : wi σ H fun J H1 => ∀ D, H1 D = none → Turns J (dictB g tt tk tv vs σ D) (upd H1 D (.dK [])) fun H => Q (.ref D) H) : tDc wi g tt tk tv vs σ H Q := q
theorem g_din {ty td : TE} (q : ty σ H fun y H1 => td σ H1 fun x H2 => ∃ a o, x = .ref a ∧ DGet H2 a y o ∧ Q (.bl o.isSome) H2) : tDIn ty td σ H Q := q
end
end SL
set_option Elab.async false
set_option linter.all false
set_option maxRecDepth 100000
set_option maxHeartbeats 2000000
namespace SL
open PySem PySem.Spec PyProof.Rows L2
structure EcC (K : PySem.W.Frag) (C : Addr) : Prop where
 oe : OexC K C
 xf : XfC K C
 xc : ExcC K C
structure EcI (K : PySem.W.Frag) (C fI : Addr) : Prop where
 ini : PySem.W.findIn K (.ref C) "__init__" = some (some (.ref fI))
 ty : PySem.W.typeIn K (.ref fI) = some (.type "function")
 ga : PySem.W.specialIn K (.ref C) "__getattribute__" = some (some (.builtin "type.__getattribute__"))
 rd : PySem.W.readsIn K C (.type "type") = true
 fd : PySem.W.findCls K (.ref C) (.type "type") "__init__" = some (.val (.ref fI))
 kp : PySem.W.keepIn K (.ref fI) = true
structure ClG (P : Program) (w : World) (K : PySem.W.Frag) (mg : Str → Option Value) (base : Heap) (k : Nat) (x : Str) (C : Addr) (sp : Sp) : Prop where
 m : mg x = some (.ref C)
 ec : EcC K C
 ex : ∃ (fI : Addr) (fd : FuncData) (ps : List Str), FnG P w K mg base CX0 k fI fd ps sp ∧ EcI K C fI ∧ Binds K fd ps []
section
variable {X : Cx} {k j : Nat} {x : Str} {C : Addr} {sp : Sp} {p p1 p2 pos : Pos} {e : Expr} {es : List Expr} {t ta : TA}
def spMk (C : Addr) (sp : Sp) (vs : List V) (H1 : Hp) (Q : VK) : Prop := vs.length ≤ 1000 ∧ ∀ a, H1 a = none → sp (.ref a :: vs) (upd H1 a (exo a C none)) (fun v H2 => v = .non ∧ Q (.ref a) H2) E0
def tMkE (C : Addr) (sp : Sp) (ta : TA) : TE := fun σ H Q => ta σ H fun vs H1 => spMk C sp vs H1 Q
def tXat (K : PySem.W.Frag) (n : Str) (te : TE) : TE := fun σ H Q => te σ H fun x H1 => ∃ (a C d : Addr) (fs : List (Str × V)) (v : V), x = .ref a ∧ EcC K C ∧ PySem.W.findIn K (.ref C) n = some none ∧ H1 a = some (exo a C (some d)) ∧ H1 d = some (exd d fs) ∧ fs.lookup n = some v ∧ Q v H1
end
end SL
namespace PySem.W
open PySem PySem.Spec PySem.Calls PyProof.Rows
section
variable {prog : Program} {w : World} {A : Around} {E : Value → Shared → Prop} {s : Shared} {K : Frag} {x D : Addr} {ox : Obj} {od : Option Obj}
end
end PySem.W
namespace SL
open PySem PySem.Spec PyProof.Rows L2
section
variable {X : Cx} {k j : Nat} {x : Str} {C : Addr} {sp : Sp} {p p1 p2 pos : Pos} {e : Expr} {es : List Expr} {t ta : TA}
def tMkX (C : Addr) (sp : Sp) (ta : TA) : L2.St → Hp → XK → Prop := fun σ H Q => ta σ H fun vs H1 => vs.length ≤ 1000 ∧ ∀ a, H1 a = none → sp (.ref a :: vs) (upd H1 a (exo a C none))
 (fun v H2 => v = .non ∧ ∃ (d : Addr) (fs : List (Str × V)), H2 a = some (exo a C (some d)) ∧ H2 d = some (exd d fs) ∧ H1 d = none ∧ Q (.ref C) (some d) (upd (del H2 a) d (.xd fs))) E0
end
structure CalX (P : Program) (w : World) (K : PySem.W.Frag) (mg : Str → Option Value) (base : Heap) (k : Nat) (x : Str) (sp : Sp) : Prop where
 ex : ∃ (f : Addr) (fd : FuncData) (ps : List Str), FnG P w K mg base (L2.CX P w) k f fd ps sp ∧ mg x = some (.ref f) ∧ PySem.W.keepIn K (.ref f) = true ∧ Binds K fd ps []
section
variable {X : Cx} {k j : Nat} {x : Str} {sp : Sp} {p pos : Pos} {e : Expr} {es : List Expr} {t : TA} {W : WX}
end
end SL
namespace SL
open PySem PySem.Spec PyProof.Rows L2
def tXs (K : PySem.W.Frag) (a : Addr) (cls : Value) (d : Option Addr) (n : Str) (te : TE) : TE := fun σ H Q => te σ H fun x H1 => x = .ref a ∧ ∃ (C dd : Addr) (fs : List (Str × V)) (v : V), cls = .ref C ∧ d = some dd ∧ EcC K C ∧ PySem.W.findIn K (.ref C) n = some none ∧ H1 dd = some (.xd fs) ∧ fs.lookup n = some v ∧ Q v H1
def tRs (t : L2.St → Hp → XK → Prop) (W : WX) : TS := fun _ σ H => t σ H fun cls d H' => W cls d σ H'
def tTry (K : PySem.W.Frag) (c : Value) (i : Nat) (tb : WX → TS) (ts : Addr → Value → Option Addr → TS) (Wout : WX) : TS := fun D σ H => tb (wAs K c i ts Wout D) D σ H
section
variable {X : Cx} {K : PySem.W.Frag} {e : Expr} {st : Stmt} {ta : TA} {te to : TE} {f : Str} {a : Addr} {cls : Value} {d : Option Addr} {σ : L2.St} {H : Hp} {Q : VK} {D : Ends}
theorem g_vei (q : ta σ H fun vs H1 => ∃ (a C : Addr) (ws : List V), vs = .ref a :: ws ∧ ws.length ≤ 1000 ∧ OexC K C ∧ H1 a = some (exo a C none) ∧ Q .non H1) : tVeI K ta σ H Q := q
theorem g_ost (q : te σ H fun y H1 => to σ H1 fun x H2 => ∃ a C : Addr, x = .ref a ∧ OexC K C ∧ PySem.W.findIn K (.ref C) f = some none ∧
 ((H2 a = some (exo a C none) ∧ ∀ dx, H2 dx = none → dx ≠ a → D.nx σ (upd (upd H2 dx (exd dx [(f, y)])) a (exo a C (some dx)))) ∨
  ∃ (dx : Addr) (fs : List (Str × V)), H2 a = some (exo a C (some dx)) ∧ H2 dx = some (exd dx fs) ∧ fs.length ≤ 900 ∧ D.nx σ (upd H2 dx (exd dx ((f, y) :: fs))))) : tOst K f to te D σ H := q
theorem g_xat (q : te σ H fun x H1 => ∃ (a C d : Addr) (fs : List (Str × V)) (v : V), x = .ref a ∧ EcC K C ∧ PySem.W.findIn K (.ref C) f = some none ∧ H1 a = some (exo a C (some d)) ∧ H1 d = some (exd d fs) ∧ fs.lookup f = some v ∧ Q v H1) : tXat K f te σ H Q := q
theorem g_xs (q : te σ H fun x H1 => x = .ref a ∧ ∃ (C dd : Addr) (fs : List (Str × V)) (v : V), cls = .ref C ∧ d = some dd ∧ EcC K C ∧ PySem.W.findIn K (.ref C) f = some none ∧ H1 dd = some (.xd fs) ∧ fs.lookup f = some v ∧ Q v H1) : tXs K a cls d f te σ H Q := q
theorem g_mkE {C : Addr} {sp : Sp} (q : ta σ H fun vs H1 => spMk C sp vs H1 Q) : tMkE C sp ta σ H Q := q
theorem g_rs {t : L2.St → Hp → XK → Prop} {W : WX} (q : t σ H fun cls d H' => W cls d σ H') : tRs t W D σ H := q
theorem g_mkX {C : Addr} {sp : Sp} {Qx : XK} (q : ta σ H fun vs H1 => vs.length ≤ 1000 ∧ ∀ a, H1 a = none → sp (.ref a :: vs) (upd H1 a (exo a C none))
 (fun v H2 => v = .non ∧ ∃ (d : Addr) (fs : List (Str × V)), H2 a = some (exo a C (some d)) ∧ H2 d = some (exd d fs) ∧ H1 d = none ∧ Qx (.ref C) (some d) (upd (del H2 a) d (.xd fs))) E0) : tMkX C sp ta σ H Qx := q
theorem g_try {c : Value} {i : Nat} {tb : WX → TS} {ts : Addr → Value → Option Addr → TS} {Wout : WX} (q : tb (wAs K c i ts Wout D) D σ H) : tTry K c i tb ts Wout D σ H := q
theorem g_callS {sp : Sp} {E : L2.St → XK} (q : ta σ H fun vs H1 => sp vs H1 Q (E σ)) : tCallS sp E ta σ H Q := q
end
theorem nofix_exo {e C : Addr} {d : Option Addr} : ¬ Fix (exo e C d) := fun z => z
theorem Fr.exd {H : Hp} {a d C : Addr} {o u : HO} (hd : H d = none) (ha : H a = some (exo a C none)) : Fr [a] H (upd (upd H d o) a u) := (Fr.new hd).trans (Fr.mut List.mem_cons_self (by rw [upd_ne (ne_of_none ha hd)]; exact ha) nofix_exo)
end SL
namespace SL
open PySem PySem.Spec PyProof.Rows L2
section
variable {K : PySem.W.Frag} {σ : L2.St} {H : Hp} {Q : VK} {ta tb tc te : TE} {r r' : R2}
theorem g_chain (q : ta σ H fun x H1 => tb σ H1 fun y H2 => r x y H2 fun z H3 => ∃ k, z = .bl k ∧ (if k = true then tc σ H3 fun w' H4 => r' y w' H4 Q else Q (.bl false) H3)) : tChain r r' ta tb tc σ H Q := q
theorem g_rU {f : Int → V} {i : Int} (q : Q (f i) H) : rU f (.int i) H Q := ⟨i, rfl, q⟩
theorem g_istr {S : It → Hp → Prop} (q : te σ H fun v H1 => ∃ x, v = .str x ∧ S (Its x) H1) : iStr te σ H S := q
theorem g_leS {a b : Str} (q : Q (.bl (!decide (b.cps.toList < a.cps.toList))) H) : uLe (.str a) (.str b) H Q := q
end
end SL
namespace SL
open PySem PySem.Spec PyProof.Rows L2 He
def asY (g : Addr → Option Obj) (n : Nat) : List Addr := He.asD g n ++ [cStatics]
structure SaysY (fa : List Fa) (fn : List DefD) (ts : List Tab) (ex : PySem.W.Frag → Bool) (w : World) (K : PySem.W.Frag) : Prop where
 t : SaysT fa fn ts w K
 more : ex K = true
def obsY (n : Nat) (fa : List Fa) (fn : List DefD) (ts : List Tab) (ex : PySem.W.Frag → Bool) (g : Addr → Option Obj) : AlX := (obsT fa fn ts (frG g (asY g n)), ex (frG g (asY g n)))
def hookY (n : Nat) (fa : List Fa) (fn : List DefD) (ts : List Tab) (ex : PySem.W.Frag → Bool) : PySem.W.Hook where
 α := AlX
 obs := fun s => obsY n fa fn ts ex s.heap.get?
 val := fun w => (valT fn ts w, true)
 says := fun w h => ∃ K : PySem.W.Frag, K.In h ∧ SaysY fa fn ts ex w K
 of := fun _ _ e => ⟨_, frG_in, ⟨congrArg (fun z : AlX => z.1) e, congrArg (fun z : AlX => z.2) e⟩⟩
 keeps := fun _ _ _ ⟨K, hK, c⟩ k => ⟨K, PySem.W.Frag.In.keeps hK k, c⟩
theorem obsY_eq {n : Nat} {fa : List Fa} {fn : List DefD} {ts : List Tab} {ex : PySem.W.Frag → Bool} {g : Addr → Option Obj} {s : Shared} (h : ∀ a, g a = s.heap.get? a) : obsY n fa fn ts ex g = (hookY n fa fn ts ex).obs s := by
 have e : g = s.heap.get? := funext h
 rw [e] <;> rfl
end SL
set_option Elab.async false
set_option linter.all false
set_option maxRecDepth 100000
set_option maxHeartbeats 2000000
namespace SL
open PySem PySem.Spec PySem.W PyProof.Rows L2
abbrev Bod := (Hp → Prop) → L2.St → Hp → Prop
def Rounds (J : It) (g : TG) (b : Bod) (vs : List Nat) (σ : L2.St) (H0 : Hp) (Dn : Hp → Prop) : Prop :=
 ∃ (n : Nat) (Pv : Nat → Hp → Prop), Pv 0 H0 ∧ (∀ H, Pv n H → J.stop n H ∧ Dn H) ∧ ∀ i H, i < n → Pv i H → J.go i H ∧
  ∀ x H', J.yld i H x H' → g x (wipe σ vs) H' fun σ2 H2 => wipe σ2 vs = wipe σ vs ∧ b (Pv (i + 1)) σ2 H2
section
variable {Y : Cx} {pins : List (Addr × Obj)}
end
section
variable {X : Cx}
end
end SL
set_option Elab.async false
set_option linter.all false
set_option maxRecDepth 100000
set_option maxHeartbeats 2000000
namespace SL
open PySem PySem.Spec PySem.W PyProof.Rows L2
structure Clause (P : Program) (w : World) (c : Expr) (k : Nat) (acc : Value) (env : Env) (g : Comprehension) : Prop where
 at_k : (clausesOf c)[k]? = some g
 plain : g.is_async = 0
 quiet : ∀ it, (Code.compLoop c k it acc env).quiet = true
 turn : ∀ it, (model P w).den (.compLoop c k it acc env) = (compTurn c k it acc env).onRaise fun x => do noteFrame x env; theTreesLotGoes x
 start : ∀ it, (model P w).den (.compStart c k it acc env) = (compStart c k it acc env).onRaise fun x => do noteFrame x env; standAt theWindowsPlace
 under : ∀ (A : Around) it, A.under (.compLoop c k it acc env) = A ∧ A.under (.compStart c k it acc env) = A
section
variable {P : Program} {w : World} {A : Around} {c : Expr} {k : Nat} {acc : Value} {env : Env} {g : Comprehension}
end
abbrev ifB (tt : TT) (b : Bod) : Bod := fun Nx σ H => tt σ H fun t H1 => if t = true then b Nx σ H1 else Nx H1
abbrev putB (tk tv : TE) (D : Addr) : Bod := fun Nx σ H => tk σ H fun y H1 => tv σ H1 fun z H2 => ∃ kvs k, y = kV k ∧ H2 D = some (.dK kvs) ∧ kvs.length < sizeLine ∧ Nx (upd H2 D (.dK (putK kvs k z)))
section
variable {P : Program} {w : World} {env : Env} {kx vx tg iter tg1 iter1 elt : Expr} {ifs ifs1 : List Expr} {scope : Scope} {pos : Pos} {D : Addr}
end
abbrev innerB (wi1 : TI) (g1 : TG) (b1 : Bod) (vs1 : List Nat) : Bod := fun Nx σ H => wi1 σ H fun J1 H1 => Rounds J1 g1 b1 vs1 σ H1 Nx
section
variable {X : Cx}
def tDc2 (wi : TI) (g : TG) (tt : TT) (wi1 : TI) (g1 : TG) (tt1 : TT) (tk tv : TE) (vs vs1 : List Nat) : TE := fun σ H Q => wi σ H fun J H1 => ∀ D, H1 D = none →
 Rounds J g (ifB tt (innerB wi1 g1 (ifB tt1 (putB tk tv D)) vs1)) vs σ (upd H1 D (.dK [])) fun H => Q (.ref D) H
end
end SL
set_option Elab.async false
set_option linter.all false
set_option maxRecDepth 100000
set_option maxHeartbeats 2000000
namespace SL
open PySem PySem.Spec PyProof.Rows L2
section
variable {prog : Program} {w : World} {A : Around} {E : Value → Shared → Prop} {s : Shared}
end
def IteT (K : PySem.W.Frag) (a : Addr) : It :=
 ⟨fun i H => ∃ (xs : List V) (x : V), SqT K H a xs ∧ xs[i]? = some x, fun i H v H' => ∃ T x, v = .ref T ∧ H T = none ∧ H' = upd H T (.tup [.int (i : Nat), x]) ∧ ∀ xs, SqT K H a xs → xs[i]? = some x, fun i H => ∃ xs : List V, SqT K H a xs ∧ xs.length ≤ i⟩
structure EnumT (a e it : Addr) (i : Nat) (h : Heap) : Prop where
 outer : ∃ old, IsEnum h e it ((i : Nat) : Int) old
 inner : h.IsTupleIter it a i
 apart : e ≠ it ∧ a ≠ it ∧ e ≠ a
def iEnumT (K : PySem.W.Frag) (ta : TA) : TI := fun σ H R => ta σ H fun vs H1 => ∃ a xs, vs = [.ref a] ∧ SqT K H1 a xs ∧ R (IteT K a) H1
end SL
namespace SL
open PySem PySem.Spec PyProof.Rows L2
theorem g_ienT {H : Hp} {σ : L2.St} {K : PySem.W.Frag} {R : It → Hp → Prop} {ta : TA} (q : ta σ H fun vs H1 => ∃ a xs, vs = [.ref a] ∧ SqT K H1 a xs ∧ R (IteT K a) H1) : iEnumT K ta σ H R := q
theorem g_dc2 {σ : L2.St} {H : Hp} {Q : VK} {wi wi1 : TI} {g g1 : TG} {tt tt1 : TT} {tk tv : TE} {vs vs1 : List Nat} (q : wi σ H fun J H1 => ∀ D, H1 D = none → Rounds J g (ifB tt (innerB wi1 g1 (ifB tt1 (putB tk tv D)) vs1)) vs σ (upd H1 D (.dK [])) fun H => Q (.ref D) H) : tDc2 wi g tt wi1 g1 tt1 tk tv vs vs1 σ H Q := q
end SL
set_option Elab.async false
set_option linter.all false
set_option maxRecDepth 100000
set_option maxHeartbeats 2000000
namespace SL
open PySem PySem.Spec PySem.W PyProof.Rows
section
variable {prog : Program} {w : World} {A : Around} {s : Shared}
def hasFirst : PyData → Bool
 | .tuple (_ :: _) => true
 | _ => false
theorem firsts_of {M : Model} {E : Value → Shared → Prop} : ∀ {vs : List Value} {ds : List PyData}, EachIs (fun v d => ∃ as, Reads s.heap v d as) vs ds → (∀ d ∈ ds, ∃ xs, d = .tuple xs) →
  ∃ fs : List (Option Value), fs.map (·.isSome) = ds.map hasFirst ∧ ∀ {Q : List (Option Value) → Shared → Prop}, Q fs s → wpAny M A (vs.mapM firstOfTuple') Q E s
 | _, _, .nil, _ => ⟨[], rfl, fun {Q} h => by rw [List.mapM_nil]; exact wpAny_pure h⟩
 | v :: vs, d :: ds, .cons ⟨as, r⟩ t, ht => by
  obtain ⟨fs, h1, h2⟩ := firsts_of (M := M) (E := E) t fun d hd => ht d (List.mem_cons_of_mem _ hd)
  obtain ⟨xs, rfl⟩ := ht d List.mem_cons_self
  cases r with
  | @tuple a o its n _ _ ho hc hd hr =>
   refine ⟨its[0]? :: fs, ?_, fun {Q} h => ?_⟩
   ·rw [List.map_cons, List.map_cons, h1]
    congr 1
    have e : its[0]? = its.toList[0]? := by rw [Array.getElem?_toList]
    rw [e]
    generalize its.toList = l at hr ⊢
    cases hr with
    | nil => rfl
    | cons r1 r2 => rfl
   ·rw [List.mapM_cons]
    refine wpAny_bind ?_
    rw [kas_first_eq]
    refine wpAny_bind (Looks.here (show Looks M s.heap (typeOf (.ref a)) o.cls from (Looks.ld ho).andThen .now) ?_)
    rw [hc, if_neg (by first | decide | simp)]
    refine wpAny_bind (listItems_at ho hd (wpAny_pure ?_))
    exact wpAny_bind (h2 (Q := fun bs s' => wpAny M A (pure (its[0]? :: bs)) Q E s') (wpAny_pure h))
theorem oneLt_tup {f : Bool} {xs ys : List PyData} {a b : Value} {as bs : List Addr} {E : Value → Shared → Prop} {Q : Bool → Shared → Prop} (ra : Reads s.heap a (.tuple xs) as) (rb : Reads s.heap b (.tuple ys) bs) (h : alike (.tuple xs) (.tuple ys) = true)
  (hu : A.units + min (PyData.tuple xs).depth (PyData.tuple ys).depth < cLine) (hq : Q (dataLt (.tuple xs) (.tuple ys)) s) : wpAny (model prog w) A (oneLt' f a b) Q E s := by
 cases f with
 | false => exact oneLt_alike (fun z => nomatch z) ra rb h (fun z => nomatch z) hu hq
 | true =>
  have hal : alikeAll xs ys = true := by simpa [alike] using h
  cases ra with
  | @tuple l o vs n _ as₁ h1 h2 h3 h4 =>
   cases rb with
   | @tuple l' o' vs' n' _ bs₁ k1 k2 k3 k4 =>
    have n1 : vs.size = xs.length := by simpa using SeqAt.ReadsAll.length _ _ _ h4
    have n2 : vs'.size = ys.length := by simpa using SeqAt.ReadsAll.length _ _ _ k4
    rw [dataLt_tuple, ← firstLt_toks xs ys hal, ← n1, ← n2] at hq
    rw [oneLt'_eq]
    simp only [if_true]
    refine wpAny_bind (wpAny_cRoomFor (SeqAt.room_here hu) ?_)
    obtain ⟨cls, dd, data, sl⟩ := o
    obtain ⟨cls2, dd2, data2, sl2⟩ := o'
    simp only at h2 h3 k2 k3
    subst h2 h3 k2 k3
    refine wpAny_bind (wpAny_callSpecialIfBound?_slot (T := "tuple") ⟨_, h1, rfl⟩ F.slot_tuple_lt (call_meets F.slot_tuple_lt ⟨_, h1, rfl⟩ F.entry_tuple_lt (F.args_tuple_lt_2 _ _)
     (SeqAt.tuple_ltAt l l' vs vs' n n' dd dd2 sl sl2 (SeqAt.pairEq xs ys) (fun j => dataLt (xs.getD j .none) (ys.getD j .none))) ⟨h1, k1, fun j j1 j2 => ?_, fun j j1 j2 hj => ?_, wpAny_truthy_bool hq⟩))
    ·have := eqAt_alikeAll xs ys A.in1 s vs.toList vs'.toList _ _ h4 k4 hal (SeqAt.room_in hu) j (by simpa using j1) (by simpa using j2)
     simpa using this
    ·have := rcLt_alikeAll xs ys A.in1 s vs.toList vs'.toList _ _ h4 k4 hal (SeqAt.room_in hu) j (by simpa using j1) (by simpa using j2) hj
     simpa using this
theorem sortsAt_tups {vs : List Value} {ds : List PyData} (e : EachIs (fun v d => ∃ as, Reads s.heap v d as) vs ds) (hal : AllAlike ds) (ht : ∀ d ∈ ds, ∃ xs, d = .tuple xs) (hu : ∀ d, d ∈ ds → A.units + d.depth < cLine) : SortsAt prog w A s (dataKind s.heap ds) vs := by
 by_cases hall : ds.map hasFirst = ds.map fun _ => true
 ·refine SortsAt.data e hal (.inl fun d hd => ?_) hu
  obtain ⟨xs, rfl⟩ := ht d hd
  have := List.map_inj_left.mp hall _ hd
  cases xs with
  | nil => cases this
  | cons x r => exact ⟨x, r, rfl⟩
 ·have lt : ∀ f : Bool, ∀ (E : Value → Shared → Prop) (x y : Value) (a b : (dataKind s.heap ds).α) {Q : Bool → Shared → Prop}, (dataKind s.heap ds).keyOf x = some a → (dataKind s.heap ds).keyOf y = some b → Q ((dataKind s.heap ds).blt a b) s → wpAny (model prog w) A (oneLt' f x y) Q E s := by
   intro f E x y a b Q ha hb hq
   obtain ⟨d, as, hd, ra, rfl⟩ := dataKind_inv ha
   obtain ⟨d', as', hd', rb, rfl⟩ := dataKind_inv hb
   obtain ⟨xs, rfl⟩ := ht d hd
   obtain ⟨ys, rfl⟩ := ht d' hd'
   exact oneLt_tup ra rb (hal _ hd _ hd') (Nat.lt_of_le_of_lt (Nat.add_le_add_left (Nat.min_le_left _ _) _) (hu _ hd)) hq
  refine ⟨fun v hv => ?_, ?_⟩
  ·obtain ⟨d, hd, as, r⟩ := e.left v hv
   exact ⟨_, dataKind_some hal hd r⟩
  ·have looks : ∀ v ∈ vs, Looks (model prog w) s.heap (typeOf v) (.type "tuple") := fun v hv => by
    obtain ⟨d, hd, as, r⟩ := e.left v hv
    obtain ⟨xs, rfl⟩ := ht d hd
    exact looks_reads r
   have kind : ∀ (E : Value → Shared → Prop) {Q : SortKind → Shared → Prop}, 2 ≤ vs.length → Q (if hasFirst (ds.headD .none) = true then general' else oneType') s → wpAny (model prog w) A (keyKind' vs.toArray) Q E s := by
    intro E Q h2 hq
    obtain ⟨fs, f1, f2⟩ := firsts_of (M := model prog w) (A := A) (E := E) e ht
    rw [kat_kind_eq, List.mapM_toArray, map_eq_pure_bind]
    refine wpAny_bind (wpAny_bind (f2 (wpAny_pure ?_)))
    have hn : ¬ (fs.toArray.all fun x => x.isSome) = true := fun z => hall (by
     rw [← f1]
     refine List.ext_getElem (by rw [List.length_map, List.length_map]; have := congrArg List.length f1; rw [List.length_map, List.length_map] at this; exact this) fun i h1 h2 => ?_
     rw [List.getElem_map, List.getElem_map]
     rw [List.all_toArray, List.all_eq_true] at z
     exact z _ (List.getElem_mem _))
    rw [if_neg hn]
    have h0 : (fs.toArray[0]?.bind id).isSome = hasFirst (ds.headD .none) := by
     cases fs with
     | nil =>
      cases ds with
      | nil => rfl
      | cons d r => simp at f1
     | cons f r =>
      cases ds with
      | nil => simp at f1
      | cons d r2 =>
       have := List.cons.inj f1
       simp [← this.1]
    rw [h0]
    by_cases c : hasFirst (ds.headD .none) = true
    ·rw [if_pos c] at hq ⊢
     exact wpAny_pure hq
    ·rw [if_neg c] at hq ⊢
     rw [oneTypeOnly'_eq, List.mapM_toArray, map_eq_pure_bind]
     refine wpAny_bind (wpAny_bind (wpAny_bind (kas_mapM (r := Value.type "tuple") _ (fun v hv Q' hq => (looks v hv).here hq) (wpAny_pure ?_))))
     have hall2 : ((List.map (fun _ => Value.type "tuple") vs).toArray.all fun x => x == Value.type "tuple") = true := by
      simp only [List.all_toArray, List.all_map, List.all_eq_true]
      intro _ _
      rfl
     obtain ⟨v0, vr, rfl⟩ : ∃ v0 vr, vs = v0 :: vr := by
      cases vs with
      | nil => simp at h2
      | cons v0 vr => exact ⟨v0, vr, rfl⟩
     have h0 : (List.map (fun _ => Value.type "tuple") (v0 :: vr)).toArray[0]? = some (Value.type "tuple") := by simp
     rw [h0]
     simp only [hall2, if_true]
     exact wpAny_pure (wpAny_pure hq)
   by_cases c : hasFirst (ds.headD .none) = true
   ·exact ⟨general', fun E x y a b Q ha hb hq => lt false E x y a b ha hb hq, fun h2 E Q hq => kind E h2 (by rw [if_pos c]; exact hq)⟩
   ·exact ⟨oneType', fun E x y a b Q ha hb hq => by rw [keyLt'_oneType]; exact lt true E x y a b ha hb hq, fun h2 E Q hq => kind E h2 (by rw [if_neg c]; exact hq)⟩
end
open L2
def sortK (xs : List V) (ds : List PyData) : List V := ((xs.zip ds).mergeSort (dataLe false Prod.snd)).map Prod.fst
def Keys (sp : Sp) (K : PySem.W.Frag) (H : Hp) (xs : List V) (ds : List PyData) : Prop :=
 ∀ (j : Nat) (x : V) (d : PyData), xs[j]? = some x → ds[j]? = some d → ∀ (H' : Hp) (Q : VK), SL.Fr [] H H' → (∀ y H2, SL.Fr [] H' H2 → Dp K H2 y d → Q y H2) → sp [x] H' Q E0
theorem vals_back {j : Nat} {u : Value} : ∀ {i : Nat} {xs : List V} {us : List Value}, Vals xs us → us[i]? = some u → ∃ x, xs[i]? = some x ∧ RelV x u
 | _, _, _, .nil, e => by simp at e
 | 0, _, _, .cons r _, e => by simp at e; subst e; exact ⟨_, rfl, r⟩
 | i + 1, _, _, .cons _ t, e => by
  obtain ⟨x, h1, h2⟩ := vals_back (j := j) (i := i) t (by simpa using e)
  exact ⟨x, by simpa using h1, h2⟩
theorem vals_each : ∀ {xs : List V} {us : List Value} {ds : List PyData}, Vals xs us → xs.length = ds.length → EachIs (fun u (b : V × PyData) => RelV b.1 u) us (xs.zip ds)
 | _, _, [], .nil, _ => .nil
 | _, _, _ :: _, .nil, h => by simp at h
 | _, _, [], .cons _ _, h => by simp at h
 | _, _, _ :: _, .cons r t, h => .cons r (vals_each t (by simpa using h))
theorem each_vals : ∀ {us : List Value} {bs : List (V × PyData)}, EachIs (fun u (b : V × PyData) => RelV b.1 u) us bs → Vals (bs.map Prod.fst) us
 | _, _, .nil => .nil
 | _, _, .cons r t => .cons r (each_vals t)
theorem dpa_snoc {K : PySem.W.Frag} {H : Hp} : ∀ {vs : List V} {ds : List PyData} {v : V} {d : PyData}, DpAll K H vs ds → Dp K H v d → DpAll K H (vs ++ [v]) (ds ++ [d])
 | _, _, _, _, .nil, h => .cons h .nil
 | _, _, _, _, .cons a b, h => .cons a (dpa_snoc b h)
theorem get?_freed (h : Heap) (a : Addr) : (h.update a fun o => { o with data := .freed }).get? a = none := by
 unfold Heap.get?
 rw [Heap.objs_update_self]
 cases h.objs[a]? with
 | none => rfl
 | some o => rfl
section
variable {X : Cx} {pins : List (Addr × Obj)} {σ : L2.St} {H : Hp} {s : Shared} {f : Addr} {fd : FuncData} {ps : List Str} {sp : Sp} {k : Nat}
theorem call_in2 {x : V} {u : Value} {Q : VK} (F : FnG X.prog X.w X.K X.mg X.base CX0 k f fd ps sp) (hr : RoomG (k + 2) X.A) (hb : Binds X.K fd ps []) (I : Inv X pins σ H s) (r : RelV x u) (h : sp [x] H Q E0) :
  wpAny (model X.prog X.w) X.A.in1.in1 (call (.ref f) [u]) (EP X pins σ Q) (fun _ _ => False) s := by
 have ln : [u].length = ps.length := F.len _ _ _ _ h
 refine wpAny_call (codeAny_mono (F.go X.A.in1.in1 X.stack s H ⟨[u], []⟩ [u] [x] Q E0 ⟨hr.rm.in1.in1, hr.gd⟩ I.env0.in1.in1 (hb s [u] I.kIn ln) (.cons r .nil) h) fun res s2 hq => ?_)
 cases res with
 | ok fl =>
  cases fl with
  | ret u => exact I.after hq
  | _ => exact hq.elim
 | error z => exact hq.elim
theorem sort_rest {a kS : Addr} {e1 : Nat} {its : List Value} {xs : List V} {ds : List PyData} {E : Value → Shared → Prop} {P : PySem.Fin → Shared → Prop} (F : FnG X.prog X.w X.K X.mg X.base CX0 k f fd ps sp) (hr : RoomG (k + 2) X.A) (hb : Binds X.K fd ps [])
  (I : Inv X (pins ++ [(a, seqObj "list" #[] e1), (kS, seqObj "list" #[] 0)]) σ H s) (fa : FpOk X pins H a) (fk : FpOk X pins H kS) (hne : kS ≠ a) (rv : Vals xs its) (hz : xs.length ≤ sizeLine) (hn : xs.length = ds.length)
  (hal : AllAlike ds) (hk : (∀ d ∈ ds, ∃ ys, d = .tuple ys) ∨ Sortable ds) (hd : ∀ d ∈ ds, d.depth ≤ 50) (hkey : Keys sp X.K H xs ds)
  (q : ∀ H' s', Inv X pins σ (upd H' a (.lst (sortK xs ds))) s' → SL.Fr [] H H' → H' a = none → P (.done (.ret .none)) s') : wpAny (model X.prog X.w) X.A.in1.in1 (ksk_rest a (.ref f) false its.toArray e1 (.ref kS)) P E s := by
 have hlen : its.length = xs.length := rv.length.symm
 unfold ksk_rest
 refine wpAny_bind (wpAny_rule ?_)
 first
  | rw [List.forIn_toArray]
  | (rw [← Array.forIn_toList]; simp only [List.toList_toArray])
  | rw [← Array.forIn_toList]
 refine wpAny_bind (ksk_fold (fun i s' => ∃ H' kA e kvs, Inv X (pins ++ [(a, seqObj "list" #[] e1), (kS, seqObj "list" kA e)]) σ H' s' ∧ SL.Fr [] H H' ∧ Vals kvs kA.toList ∧ DpAll X.K H' kvs (ds.take i)) its 0 s
  ⟨H, #[], 0, [], I, SL.Fr.refl, .nil, by rw [List.take_zero]; exact .nil⟩ ?step ?done)
 case step =>
  rintro j u s' hx ⟨H', kA, e, kvs, I', e', hv, hdp⟩
  simp only [Nat.zero_add] at hdp ⊢
  have hj : j < its.length := (List.getElem?_eq_some_iff.mp hx).1
  obtain ⟨x, hxs, rxu⟩ := vals_back (j := 0) rv hx
  obtain ⟨d, hdj⟩ : ∃ d, ds[j]? = some d := ⟨_, List.getElem?_eq_getElem (by omega)⟩
  refine wpAny_bind (wpAny_attempt (wpAny_mono (call_in2 F hr hb I' rxu (hkey j x d hxs hdj H' (fun y H2 => SL.Fr [] H' H2 ∧ Dp X.K H2 y d) e' fun y H2 a b => ⟨a, b⟩)) (fun v s2 hv2 => ?_) fun _ _ z => z.elim))
  obtain ⟨y, H2, I2, ry, e2, dy⟩ := hv2
  try dsimp only
  have pk := I2.pin (kS, seqObj "list" kA e) (by simp)
  have pa := I2.pin (a, seqObj "list" #[] e1) (by simp)
  have kl : kA.size = j := by
   have h1 : kvs.length = kA.size := by rw [hv.length, Array.length_toList]
   have h2 : kvs.length = (ds.take j).length := dpa_len hdp
   rw [List.length_take, Nat.min_eq_left (by omega)] at h2
   omega
  obtain ⟨c2, hc2⟩ : ∃ c2, (s2.heap.update kS (Obj.mapSeq (·.push v))).get? kS = some (seqObj "list" (kA.push v) c2) := ⟨_, get?_update_seq pk.1 (·.push v)⟩
  refine wpAny_bind (listUpdate_at pk.1 rfl ?_ (by omega) (by rw [Array.size_push]; omega))
  have I3 : Inv X pins σ H2 { s2 with heap := s2.heap.update kS (Obj.mapSeq (·.push v)), toks := s2.toks } := I2.unpinned.turnedL (ch := [kS]) (fun b o hb e => (Heap.get?_update_ne _ _ _ _ (fun z => hb (List.mem_singleton.mpr z))).trans e) (fun b hb => by rw [List.mem_singleton.mp hb]; exact ⟨pk.2.1, fk.2⟩)
  have I4 : Inv X (pins ++ [(a, seqObj "list" #[] e1), (kS, seqObj "list" (kA.push v) c2)]) σ H2 { s2 with heap := s2.heap.update kS (Obj.mapSeq (·.push v)), toks := s2.toks } := I3.pins_of fun p hp => by
   rcases List.mem_append.mp hp with hp | hp
   ·exact I3.pin p (List.mem_append_right _ hp)
   ·rcases List.mem_cons.mp hp with rfl | hp
    ·exact ⟨(Heap.get?_update_ne _ _ _ _ (Ne.symm hne)).trans pa.1, pa.2.1, pa.2.2.1, pa.2.2.2.1, fun v z => nomatch z⟩
    ·rw [List.mem_singleton.mp hp]
     exact ⟨hc2, pk.2.1, pk.2.2.1, pk.2.2.2.1, fun v z => nomatch z⟩
  refine wpAny_pure ⟨rfl, H2, kA.push v, c2, kvs ++ [y], I4, e'.trans e2, ?_, ?_⟩
  ·rw [Array.toList_push]
   exact Vals.append hv (.cons ry .nil)
  ·rw [List.take_add_one, hdj]
   exact dpa_snoc (dpa_same e2.same hdp) dy
 case done =>
  rintro s' ⟨H', kA, e, kvs, I', e', hv, hdp⟩
  have e3 : ds.take (0 + its.length) = ds := List.take_of_length_le (by omega)
  rw [e3] at hdp
  have pk := I'.pin (kS, seqObj "list" kA e) (by simp)
  have pa := I'.pin (a, seqObj "list" #[] e1) (by simp)
  have kl : kA.size = its.length := by
   have h1 : kvs.length = kA.size := by rw [hv.length, Array.length_toList]
   have h2 : kvs.length = ds.length := dpa_len hdp
   omega
  try dsimp only
  refine wpAny_bind (listItems_at pk.1 rfl ?_)
  obtain ⟨as, rds⟩ := Dp.readsAll I' ds kvs kA.toList hdp hv
  have each : EachIs (fun v d => ∃ as, Reads s'.heap v d as) kA.toList ds := readsAll_each id (by rw [List.map_id]; exact rds)
  have hu : ∀ d, d ∈ ds → X.A.in1.in1.units + d.depth < cLine := fun d hdm => by
   have h1 := hr.units
   have h2 := hd d hdm
   show X.A.units + 1 + 1 + d.depth < cLine
   omega
  have S : SortsAt X.prog X.w X.A.in1.in1 s' (dataKind s'.heap ds) kA.toList := hk.elim (fun z => sortsAt_tups each hal z hu) (fun z => SortsAt.data each hal z hu)
  have off : ∀ b, b ≠ kS → (s'.heap.update kS fun o => { o with data := .freed }).get? b = s'.heap.get? b := fun b hb => Heap.get?_update_ne _ _ _ _ hb
  refine keyH_end (h₁ := s'.heap.update kS fun o => { o with data := .freed }) (vs := its) (fun b o hb z => ?_) (get?_freed _ _) pk.1 pa.1 hne S kl (by omega) fun h' tk c kp' n' => ?_
  ·by_cases hbk : b = kS
   ·rw [hbk, get?_freed] at z
    cases z
   ·rw [off b hbk] at z
    exact z
  ·have hout : EachIs (fun u (b : V × PyData) => RelV b.1 u) (sortVals (dataKind s'.heap ds) false kA.toList its) ((xs.zip ds).mergeSort (dataLe false Prod.snd)) :=
    keyedOut_each (bs := xs.zip ds) Prod.snd ⟨s'.heap, kA.toList, by rw [List.map_snd_zip (Nat.le_of_eq hn.symm)]; exact hal, by rw [List.map_snd_zip (Nat.le_of_eq hn.symm)], by rw [List.map_snd_zip (Nat.le_of_eq hn.symm)]; exact each⟩ (vals_each rv hn)
   have I3 : Inv X pins σ H' { s' with heap := h', toks := tk } := I'.unpinned.turnedL (ch := [a, kS]) (fun b o hb z => kp' b o (fun y => hb (by simp [y])) ((off b (fun y => hb (by simp [y]))).trans z)) (fun b hb => by
    rcases List.mem_cons.mp hb with rfl | hb
    ·exact ⟨pa.2.1, fa.2⟩
    ·rw [List.mem_singleton.mp hb]; exact ⟨pk.2.1, fk.2⟩)
   have vo := each_vals hout
   have sl : (sortK xs ds).length ≤ sizeLine := by
    unfold sortK
    rw [List.length_map, List.length_mergeSort, List.length_zip]
    omega
   have I5 := I3.take (it := a) (h' := h') (t' := tk) (o := .lst (sortK xs ds)) (fun _ _ _ z => z) ⟨pa.2.1, fa.2⟩ ⟨sl, _, c, vo, n'⟩
   exact q H' _ I5 e' pa.2.1
theorem sortK_run {l : Addr} {xs : List V} {ds : List PyData} {Q : VK} (F : FnG X.prog X.w X.K X.mg X.base CX0 k f fd ps sp) (hr : RoomG (k + 2) X.A) (hb : Binds X.K fd ps []) (I : Inv X pins σ H s) (hl : SqL X.K H l xs) (hn : xs.length = ds.length)
  (hal : AllAlike ds) (hk : (∀ d ∈ ds, ∃ ys, d = .tuple ys) ∨ Sortable ds) (hd : ∀ d ∈ ds, d.depth ≤ 50) (hkey : Keys sp X.K H xs ds) (q : ∀ p H', SL.Fr [] H H' → H' p = none → Q (.ref p) (upd H' p (.lst (sortK xs ds)))) :
  wpAny (model X.prog X.w) X.A (call (.builtin "sorted") [.ref l] [(Str.ofString "key", .ref f)]) (EP X pins σ Q) X.xe s := by
 obtain ⟨its, rv, hp, hz⟩ := I.list hl
 have hlen : its.length = xs.length := rv.length.symm
 refine sorted_of_sort (vs := its) hp.isList (by omega) (ksk_s1 _ _) (fun _ => ksk_l1 _ _) fun E' => ?_
 rw [ksk_t1]
 have hcp := copyHeap_at s.heap its
 have fa : FpOk X pins H (s.heap.objs.size + 1) := I.fpOk (Nat.le_succ _) (I.hok.fresh (Nat.le_succ _))
 have I1 : Inv X pins σ H { s with heap := copyHeap s.heap its, toks := s.toks } := I.kept fun b u e => copyHeap_old e
 generalize s.heap.objs.size + 1 = a at *
 have I1 : Inv X pins σ H { s with heap := copyHeap s.heap its } := I1
 generalize copyHeap s.heap its = h1 at *
 obtain ⟨e1, ho1⟩ : ∃ e1, (h1.update a (Obj.mapSeq fun _ => (#[] : Array Value))).get? a = some (seqObj "list" #[] e1) := ⟨_, get?_update_seq hcp fun _ => #[]⟩
 unfold ksk_tree
 refine wpAny_bind (listItems_at hcp rfl ?_)
 refine wpAny_bind (listUpdate_at hcp rfl ?_ (by rw [List.size_toArray]; omega) (Nat.zero_le _))
 refine wpAny_bind (seqEpoch_at ho1 rfl ?_)
 have I2 : Inv X pins σ H { s with heap := h1.update a (Obj.mapSeq fun _ => (#[] : Array Value)), toks := s.toks } := Inv.turnedL (s := { s with heap := h1 }) I1 (ch := [a]) (fun b o hb e => (Heap.get?_update_ne _ _ _ _ (fun z => hb (List.mem_singleton.mpr z))).trans e) (fun b hb => by rw [List.mem_singleton.mp hb]; exact fa)
 have I2 : Inv X pins σ H { s with heap := h1.update a (Obj.mapSeq fun _ => (#[] : Array Value)) } := I2
 generalize h1.update a (Obj.mapSeq fun _ => (#[] : Array Value)) = h2 at *
 refine wpAny_bind (wpAny_newTuple ?_ (by show its.length ≤ _; omega))
 have I3 : Inv X pins σ H { s with heap := h2.push (seqObj "tuple" its.toArray 0), toks := s.toks } := I2.kept fun b u e => Heap.get?_push_of_some _ e
 have I3 : Inv X pins σ H { s with heap := h2.push (seqObj "tuple" its.toArray 0) } := I3
 have ho3 : (h2.push (seqObj "tuple" its.toArray 0)).get? a = some (seqObj "list" #[] e1) := Heap.get?_push_of_some _ ho1
 show wpAny (model X.prog X.w) X.A.in1.in1 _ _ _ { s with heap := h2.push (seqObj "tuple" its.toArray 0) }
 generalize h2.push (seqObj "tuple" its.toArray 0) = h3 at *
 refine wpAny_bind (wpAny_newList ?_ (Nat.zero_le _))
 refine wpAny_holding ?_
 have fk : FpOk X pins H h3.objs.size := I3.fpOk (Nat.le_refl _) (I3.hok.fresh (Nat.le_refl _))
 have I4 : Inv X pins σ H { s with heap := h3.push (seqObj "list" #[] 0), toks := s.toks } := I3.kept fun b u e => Heap.get?_push_of_some _ e
 have I5 : Inv X (pins ++ [(a, seqObj "list" #[] e1), (h3.objs.size, seqObj "list" #[] 0)]) σ H { s with heap := h3.push (seqObj "list" #[] 0) } := I4.pins_of fun p hp => by
  rcases List.mem_append.mp hp with hp | hp
  ·exact I4.pin p (List.mem_append_right _ hp)
  ·rcases List.mem_cons.mp hp with rfl | hp
   ·exact ⟨Heap.get?_push_of_some _ ho3, fa.1, fa.2.1, fa.2.2.1, fun v z => nomatch z⟩
   ·rw [List.mem_singleton.mp hp]
    exact ⟨Heap.get?_push_size _ rfl, fk.1, fk.2.1, fk.2.2.1, fun v z => nomatch z⟩
 refine sort_rest F hr hb I5 fa fk (fun z => absurd (Heap.lt_size ho3) (by rw [← z]; exact Nat.lt_irrefl _)) rv hz hn hal hk hd hkey fun H' s' I' e' hn' => ⟨rfl, .ref a, _, I', rfl, q a H' e' hn'⟩
def rSortK (K : PySem.W.Frag) (f : Addr) (sp : Sp) : List V → List V → Hp → VK → Prop := fun vs zs H Q => ∃ (l : Addr) (xs : List V) (ds : List PyData), vs = [.ref l] ∧ zs = [.ref f] ∧ SqL K H l xs ∧ xs.length = ds.length ∧ AllAlike ds ∧ ((∀ d ∈ ds, ∃ ys, d = .tuple ys) ∨ Sortable ds) ∧ (∀ d ∈ ds, d.depth ≤ 50) ∧
 Keys sp K H xs ds ∧ ∀ p H', SL.Fr [] H H' → H' p = none → Q (.ref p) (upd H' p (.lst (sortK xs ds)))
theorem cr_sortK (F : FnG X.prog X.w X.K X.mg X.base CX0 k f fd ps sp) (hb : Binds X.K fd ps []) (hr : RoomG (k + 2) X.A) : CallRK X (.builtin "sorted") [Str.ofString "key"] (rSortK X.K f sp) := by
 intro pins s σ H vs zs us ws Q I r rz h
 obtain ⟨l, xs, ds, rfl, rfl, hl, hn, hal, hk, hd, hkey, q⟩ := h
 obtain rfl := Vals.ref1 r
 obtain ⟨w1, rfl, e1⟩ := vals1 rz
 obtain rfl : w1 = Value.ref f := e1
 exact sortK_run F hr hb I hl hn hal hk hd hkey q
end
structure CalF (P : Program) (w : World) (K : PySem.W.Frag) (mg : Str → Option Value) (base : Heap) (k : Nat) (x : Str) (f : Addr) (sp : Sp) : Prop where
 m : mg x = some (.ref f)
 ex : ∃ (fd : FuncData) (ps : List Str), FnG P w K mg base CX0 k f fd ps sp ∧ PySem.W.keepIn K (.ref f) = true ∧ Binds K fd ps []
theorem CalF.g {P : Program} {w : World} {K : PySem.W.Frag} {mg : Str → Option Value} {base : Heap} {k : Nat} {x : Str} {f : Addr} {sp : Sp} (D : CalF P w K mg base k x f sp) : CalG P w K mg base k x sp := by
 obtain ⟨fd, ps, F, kp, b⟩ := D.ex
 exact ⟨f, fd, ps, F, D.m, kp, b⟩
theorem cr_sortF {X : Cx} {k : Nat} {x : Str} {f : Addr} {sp : Sp} (D : CalF X.prog X.w X.K X.mg X.base k x f sp) (hr : RoomG (k + 2) X.A) : CallRK X (.builtin "sorted") [Str.ofString "key"] (rSortK X.K f sp) := by
 obtain ⟨fd, ps, F, kp, b⟩ := D.ex
 exact cr_sortK F b hr
theorem kCallK {X : Cx} {K : PySem.W.Frag} {r : PySem.W.Frag → List V → List V → Hp → VK → Prop} {f : Value} {ks : List Str} (e : X.K = K) (h : CallRK X f ks (r X.K)) : CallRK X f ks (r K) := e ▸ h
theorem g_ckw {σ : L2.St} {H : Hp} {Q : VK} {r : List V → List V → Hp → VK → Prop} {t tk : TA} (q : t σ H fun vs H1 => tk σ H1 fun zs H2 => r vs zs H2 Q) : tCKw r t tk σ H Q := q
theorem sortK_congr {α : Type} {f g : α → PyData} {xs : List V} {bs : List α} (h : ∀ a ∈ bs, ∀ b ∈ bs, dataLt (f a) (f b) = dataLt (g a) (g b)) : sortK xs (bs.map f) = sortK xs (bs.map g) := by
 have key : ∀ e : α → PyData, (∀ a ∈ bs, ∀ b ∈ bs, dataLt (f a) (f b) = dataLt (e a) (e b)) → sortK xs (bs.map e) = ((xs.zip bs).mergeSort (dataLe false fun z => f z.2)).map Prod.fst := fun e he => by
  unfold sortK
  rw [List.zip_map_right, ← List.map_mergeSort (r := dataLe false fun z => f z.2) (fun a ha b hb => ?_), List.map_map]
  ·rfl
  ·have h1 := (List.of_mem_zip ha).2
   have h2 := (List.of_mem_zip hb).2
   show (!dataLt (f b.2) (f a.2)) = !dataLt (e b.2) (e a.2)
   rw [he _ h2 _ h1]
 rw [key f fun _ _ _ _ => rfl, key g h]
theorem sortK_perm (xs : List V) (ds : List PyData) (h : xs.length = ds.length) : (sortK xs ds).Perm xs := by
 unfold sortK
 have p := (List.mergeSort_perm (xs.zip ds) (dataLe false Prod.snd)).map Prod.fst
 rwa [List.map_fst_zip (Nat.le_of_eq h)] at p
end SL
set_option Elab.async false
set_option linter.all false
set_option maxRecDepth 100000
set_option maxHeartbeats 2000000
namespace SL
open PySem PySem.Spec PyProof.Rows L2
structure MetG (P : Program) (w : World) (K : PySem.W.Frag) (mg : Str → Option Value) (base : Heap) (CX : CXT) (k : Nat) (C : Addr) (m : Str) (dvs : List V) (sp : Sp) : Prop where
 cls : Cls K C
 ex : ∃ (f : Addr) (fd : FuncData) (ps : List Str) (ds : List Value), Meth K C m f ∧ FnG P w K mg base CX k f fd ps sp ∧ Binds K fd ps ds ∧ Vals dvs ds
section
variable {X : Cx} {k j : Nat} {C : Addr} {sp : Sp} {m : Str} {pos apos : Pos} {e o : Expr} {es : List Expr} {ta : TE} {t : TA} {W : WX} {dvs : List V}
end
section
variable {X : Cx} {K : PySem.W.Frag} {o e value ex : Expr} {f : Str} {pos pos' tpos : Pos} {ta tv : TE} {rd : V → V → Hp → VK → Prop} {st : Stmt}
variable {σ : L2.St} {H : Hp} {Q : VK} {C : Addr} {m : Str} {sp : Sp} {dvs : List V} {E : L2.St → XK} {t : TA} {D : Ends}
end
section
variable {σ : L2.St} {H : Hp} {D : Ends}
end
end SL
set_option Elab.async false
set_option linter.all false
set_option maxRecDepth 100000
set_option maxHeartbeats 2000000
namespace SL
open PySem PySem.Spec PyProof.Rows L2
section
variable {X : Cx} {k j n : Nat} {f C : Addr} {fd : FuncData} {ps ks : List Str} {sp : Sp} {x : Str} {p pos : Pos} {e : Expr} {es : List Expr} {kws : List Keyword} {t tk : TA} {g : List Value → List Value → List Value} {gV : List V → List V → List V} {W : WX}
structure MkX (P : Program) (w : World) (K : PySem.W.Frag) (mg : Str → Option Value) (base : Heap) (k : Nat) (x : Str) (C : Addr) (n : Nat) (ks : List Str) (gV : List V → List V → List V) (sp : Sp) : Prop where
 m : mg x = some (.ref C)
 ex : ∃ (f : Addr) (fd : FuncData) (ps : List Str) (g : List Value → List Value → List Value), Mk K C f ∧ FnG P w K mg base (L2.CX P w) k f fd ps sp ∧ KBn K fd ps (n + 1) ks g gV
end
end SL
set_option Elab.async false
set_option linter.all false
set_option maxRecDepth 100000
set_option maxHeartbeats 2000000
namespace SL
open PySem PySem.Spec PyProof.Rows L2 PySem.Builtin PySem.Builtin.Str
section
variable {X : Cx} {o e : Expr} {te : TE} {to tk : TE} {y : Str} {j1 j2 j3 : Nat} {c0 c1 c2 apos pos pm : Pos}
end
end SL
set_option Elab.async false
set_option linter.all false
set_option maxRecDepth 100000
set_option maxHeartbeats 4000000
namespace LW
open PySem PySem.Spec PyProof.Rows L2 SL
abbrev FnP (K : PySem.W.Frag) (x : Str) (st : Stmt) (f : Addr) (fd : FuncData) : Prop := FunD K x x (defArgs st) (defBody st) (defScope st) [] [] f fd
def topS (i : Nat) : Stmt := PySem.Challenge.pw_sightlore_k02_order_of_values_and_rows.main.body.getD i (.Pass ⟨0, 0, 0, 0⟩)
local macro_rules | `(tactic| walk_at "q") => `(tactic| repeat walk_at "st")
local macro_rules | `(tactic| walk_at "st") => `(tactic| first
 | with_reducible refine g_seq ?_
 | ((with_reducible show tVar _ _ _ _); refine g_var rfl ?_)
 | with_reducible refine g_c ?_
 | with_reducible refine g_op ?_
 | with_reducible refine g_asg ?_
 | with_reducible refine g_name ?_
 | with_reducible refine g_if ?_
 | with_reducible refine g_test ?_
 | with_reducible refine g_k ?_
 | with_reducible refine g_ret ?_
 | with_reducible refine g_next ?_
 | with_reducible refine g_cons ?_
 | with_reducible refine g_nil ?_
 | with_reducible refine g_call ?_
 | with_reducible refine g_cb ?_
 | with_reducible refine g_ckw ?_
 | with_reducible refine g_addI ?_
 | with_reducible refine g_subI ?_
 | with_reducible refine g_ltI ?_
 | with_reducible refine g_leI ?_
 | with_reducible refine g_gtI ?_
 | with_reducible refine g_geI ?_
 | with_reducible refine g_eqI ?_
 | with_reducible refine g_eqS ?_
 | with_reducible refine g_eqB ?_
 | with_reducible refine g_neI ?_
 | with_reducible refine g_neS ?_
 | with_reducible refine g_neB ?_
 | ((with_reducible refine g_mulI ?h0 ?_); (case h0 => first | exact mulR (by decide) (by decide) | exact mulL (by decide) (by decide) | exact mulR (by omega) (by omega) | exact mulL (by omega) (by omega)))
 | ((with_reducible refine g_modI ?h0 ?_); (case h0 => first | decide | omega))
 | ((with_reducible refine g_divI ?h0 ?_); (case h0 => first | exact divS (by decide) (by decide) | exact divS (by omega) (by omega)))
 | ((with_reducible refine g_powI ?h0 ?_); (case h0 => exact ⟨by decide +kernel, by decide +kernel, by decide +kernel⟩))
 | ((with_reducible show rIx _ (V.ref _) (V.int _) _ _); refine g_ixL (by first | assumption | exact SqL.of (by assumption)) (by exact rfl) ?_)
 | ((with_reducible show rIx _ (V.ref _) (V.int _) _ _); refine g_ixT (by first | assumption | exact SqT.of (by assumption)) (by exact rfl) ?_)
 | ((with_reducible show uLen _ [V.ref _] _ _); first | refine g_len (.inl (SqL.of (by assumption))) ?_ | refine g_len (.inl (by assumption)) ?_ | refine g_len (.inr (by assumption)) ?_ | refine g_len (.inr (SqT.of (by assumption))) ?_)
 | with_reducible refine g_dget ?_
 | with_reducible refine g_dput ?_
 | with_reducible refine g_bm ?_
 | with_reducible refine g_bm0 ?_
 | with_reducible refine g_tyS ?_
 | ((with_reducible show tyV _ "list" (V.ref _) _ ∧ _); refine g_tyL (by first | assumption | exact SqL.of (by assumption)) ?_)
 | with_reducible refine g_pairs ?_
 | with_reducible refine g_pairs0 ?_
 | with_reducible refine g_for ?_
 | with_reducible refine g_iR1 ?_
 | with_reducible refine g_iR2 ?_
 | with_reducible refine g_iL ?_
 | with_reducible refine g_iT ?_
 | with_reducible refine g_lc ?_
 | with_reducible refine g_lc2 ?_
 | with_reducible refine g_dc ?_
 | with_reducible refine g_din ?_
 | with_reducible refine g_listRg ?_
 | with_reducible refine g_rg1 ?_
 | with_reducible refine g_izA ?_
 | with_reducible refine g_iz ?_
 | ((with_reducible show gTup _ _ _ (V.ref _) _ _ _); first | refine g_gtup (SqT.of upd_same) rfl ?_ | refine g_gtup (by first | assumption | exact SqT.of (by assumption)) rfl ?_)
 | with_reducible refine g_gcons ?_
 | with_reducible refine g_gnil ?_
 | with_reducible refine g_yes ?_
 | with_reducible refine g_andT ?_
 | with_reducible refine g_orT ?_
 | with_reducible refine g_notT ?_
 | with_reducible refine g_truB ?_
 | with_reducible refine g_and ?_
 | with_reducible refine g_or ?_
 | with_reducible refine g_not ?_
 | with_reducible refine g_ifE ?_
 | with_reducible refine g_B ?_
 | with_reducible refine g_un ?_
 | with_reducible refine g_sub ?_
 | with_reducible refine g_drop ?_
 | with_reducible refine g_sl ?_
 | with_reducible refine g_noPart ?_
 | with_reducible refine g_part ?_
 | with_reducible refine g_ki ?_
 | with_reducible refine g_fs ?_
 | with_reducible refine g_js0 ?_
 | with_reducible refine g_js ?_
 | with_reducible refine g_fmt ?_
 | with_reducible refine g_is ?_
 | with_reducible refine g_isNot ?_
 | with_reducible refine g_chain ?_
 | with_reducible refine g_istr ?_
 | with_reducible refine g_rU ?_
 | with_reducible refine g_leS ?_
 | with_reducible refine g_vei ?_
 | with_reducible refine g_dc2 ?_
 | with_reducible refine g_ienT ?_
 | with_reducible refine g_ost ?_
 | with_reducible refine g_xat ?_
 | with_reducible refine g_xs ?_
 | with_reducible refine g_mkE ?_
 | with_reducible refine g_rs ?_
 | with_reducible refine g_mkX ?_
 | with_reducible refine g_try ?_
 | with_reducible refine g_callS ?_
 | (with_reducible refine g_tup ?_)
 | (with_reducible refine g_lst ?_)
 | ((with_reducible refine g_tt ?h0 ?_); (case h0 => decide +kernel))
 | ((with_reducible refine g_ff ?h0 ?_); (case h0 => decide +kernel)))
local macro_rules | `(tactic| walk_at "sz") => `(tactic| (refine le_of ?_; (try simp only [app_len, lit_q, lit_lp, lit_rp, lit_sp, lit_cs, lit_not, lit_is, lit_if, lit_e, lit_dot]); omega))
local macro_rules | `(tactic| walk_at "fs") => `(tactic| first
 | walk_at "st"
 | (refine g_fmtS ?hz ?_; (case hz => walk_at "sz"))
 | (refine g_jsS ?hz ?_; (case hz => walk_at "sz"))
 | (refine g_addS ?hz ?_; (case hz => walk_at "sz")))
local macro_rules | `(tactic| walk_at "if") => `(tactic| ((fail_if_success (with_reducible refine g_seqIf _ _ _ _ _ _ _ ?_)); walk_at "st"))
inductive SumE where
 | val (v : V) | var (x : Str) | op (s : Str) (a b : SumE)
def SumAt (K : PySem.W.Frag) (H : Hp) : SumE → V → Prop
 | .val u, v => ∃ p, v = .ref p ∧ SqT K H p [.str "value", u]
 | .var x, v => ∃ p, v = .ref p ∧ SqT K H p [.str "var", .str x]
 | .op s a b, v => ∃ p y z, v = .ref p ∧ SqT K H p [.str s, y, z] ∧ SumAt K H a y ∧ SumAt K H b z
theorem SumAt.fr {K : PySem.W.Frag} {H H' : Hp} {M : List Addr} (e : Fr M H H') : ∀ {t : SumE} {v : V}, SumAt K H t v → SumAt K H' t v
 | .val _, _, ⟨p, h1, h2⟩ => ⟨p, h1, e.tup h2⟩
 | .var _, _, ⟨p, h1, h2⟩ => ⟨p, h1, e.tup h2⟩
 | .op _ _ _, _, ⟨p, y, z, h1, h2, h3, h4⟩ => ⟨p, y, z, h1, e.tup h2, SumAt.fr e h3, SumAt.fr e h4⟩
def isSg (s : Str) : Prop := s = "+" ∨ s = "-" ∨ s = "*"
inductive TermE where
 | any | s (e : SumE)
inductive PartE where
 | atom (no : Bool) (x : Str) (ts : List TermE) | lt (x : Str) (e : SumE) | test (s : Str) (a b : SumE)
inductive ArgE where
 | s (e : SumE) | fold (w : Str) (x : Option Str)
def SumE.d : SumE → PyData
 | .val u => .tuple [.str "value", scD u]
 | .var x => .tuple [.str "var", .str x]
 | .op s a b => .tuple [.str s, a.d, b.d]
def TermE.d : TermE → PyData
 | .any => .tuple [.str "any"]
 | .s e => e.d
def PartE.d : PartE → PyData
 | .atom no x ts => .tuple [.str (if no then "not" else "atom"), .str x, .tuple (ts.map TermE.d)]
 | .lt x e => .tuple [.str "let", .str x, e.d]
 | .test s a b => .tuple [.str "test", .str s, a.d, b.d]
def ArgE.d : ArgE → PyData
 | .s e => e.d
 | .fold w none => .tuple [.str "fold", .str w, .none]
 | .fold w (some x) => .tuple [.str "fold", .str w, .str x]
structure Tx (n : Nat) (t : Str) : Prop where
 len : t.length ≤ n
 ok : ∀ c ∈ t.cps.toList, c < 0x110000
theorem Tx.mono {m n : Nat} {t : Str} (h : Tx m t) (l : m ≤ n) : Tx n t := ⟨Nat.le_trans h.len l, h.ok⟩
theorem tl_app (a b : Str) : (a ++ b).cps.toList = a.cps.toList ++ b.cps.toList := Array.toList_append
theorem Tx.app {m n : Nat} {a b : Str} (h : Tx m a) (k : Tx n b) : Tx (m + n) (a ++ b) := ⟨by rw [app_len]; exact Nat.add_le_add h.len k.len, fun c hc => by
 rw [tl_app, List.mem_append] at hc
 exact hc.elim (h.ok c) (k.ok c)⟩
def txB (n : Nat) (t : Str) : Bool := decide (t.length ≤ n) && t.cps.toList.all (fun c => decide (c < 0x110000))
theorem Tx.lit {n : Nat} {t : Str} (h : txB n t = true) : Tx n t := by
 unfold txB at h
 simp only [Bool.and_eq_true, decide_eq_true_eq, List.all_eq_true] at h
 exact ⟨h.1, h.2⟩
theorem Tx.short {n : Nat} {t : Str} (h : Tx n t) (l : n ≤ 9000) : (reprText t).length ≤ sizeLine :=
 le_of (Nat.le_trans (StrLaws.reprText_len t fun c hc => Nat.lt_of_lt_of_le (h.ok c hc) (by decide)) (by have := h.len; omega))
theorem join_cons (y a b : Str) (r : List Str) : Txt.join y (a :: b :: r) = a ++ y ++ Txt.join y (b :: r) := by
 rw [TL.join_eq, TL.join_eq]
 rfl
theorem Tx.join {k m : Nat} {y : Str} (hy : Tx k y) : ∀ {ts : List Str}, (∀ t ∈ ts, Tx m t) → Tx (ts.length * (m + k)) (Txt.join y ts)
 | [], _ => by
  rw [TL.join_eq]
  exact ⟨Nat.zero_le _, fun c hc => nomatch hc⟩
 | [a], h => by
  rw [TL.join_eq]
  exact (h a List.mem_cons_self).mono (by simp)
 | a :: b :: r, h => by
  rw [join_cons]
  refine (((h a List.mem_cons_self).app hy).app (Tx.join hy fun t ht => h t (List.mem_cons_of_mem _ ht))).mono ?_
  simp only [List.length_cons, Nat.succ_mul]
  omega
def valT : V → Str
 | .bl b => if b then "yes" else "no"
 | .int i => toString i
 | .str x => "'" ++ x ++ "'"
 | _ => ""
def tightE : SumE → Nat
 | .op s _ _ => if s = "*" then 2 else 1
 | _ => 3
def wrapS (k : Nat) (e : SumE) (t : Str) : Str := if tightE e < k then "(" ++ t ++ ")" else t
def sumT : SumE → Str
 | .val u => valT u
 | .var x => x
 | .op s a b => wrapS (if s = "*" then 2 else 1) a (sumT a) ++ " " ++ s ++ " " ++ wrapS ((if s = "*" then 2 else 1) + 1) b (sumT b)
def termT : TermE → Str
 | .any => "_"
 | .s e => sumT e
def listT (ts : List Str) : Str := Txt.join ", " ts
def atomT (x : Str) (ts : List TermE) : Str := x ++ "(" ++ listT (ts.map termT) ++ ")"
def partT : PartE → Str
 | .atom no x ts => if no then "not " ++ atomT x ts else atomT x ts
 | .lt x e => x ++ " is " ++ sumT e
 | .test s a b => sumT a ++ " " ++ s ++ " " ++ sumT b
def argT : ArgE → Str
 | .s e => sumT e
 | .fold w none => w
 | .fold w (some x) => w ++ " " ++ x
def argsT (as : List ArgE) : Str := listT (as.map argT)
def partsT (ps : List PartE) : Str := listT (ps.map partT)
def ValG (u : V) : Prop := (∃ i : Int, u = .int i ∧ i.natAbs < 10 ^ 30) ∨ (∃ b, u = .bl b) ∨ ∃ x, u = .str x ∧ Tx 12 x
inductive SumG : Nat → SumE → Prop
 | val {n : Nat} {u : V} : ValG u → SumG n (.val u)
 | var {n : Nat} {x : Str} : Tx 12 x → SumG n (.var x)
 | op {n : Nat} {s : Str} {a b : SumE} : isSg s → SumG n a → SumG n b → SumG (n + 1) (.op s a b)
theorem SumG.up {m n : Nat} {e : SumE} (h : SumG m e) (l : m ≤ n) : SumG n e := by
 induction h generalizing n with
 | val h => exact .val h
 | var h => exact .var h
 | op hs _ _ iha ihb =>
  obtain ⟨k, rfl⟩ : ∃ k, n = k + 1 := ⟨n - 1, by omega⟩
  exact .op hs (iha (by omega)) (ihb (by omega))
inductive TermG : TermE → Prop
 | any : TermG .any
 | s {e : SumE} : SumG 0 e → TermG (.s e)
inductive PartG : PartE → Prop
 | atom {no : Bool} {x : Str} {ts : List TermE} : Tx 44 x → ts.length ≤ 4 → (∀ t ∈ ts, TermG t) → PartG (.atom no x ts)
 | lt {x : Str} {e : SumE} : Tx 12 x → SumG 1 e → PartG (.lt x e)
 | test {s : Str} {a b : SumE} : Tx 2 s → SumG 1 a → SumG 1 b → PartG (.test s a b)
inductive ArgG : ArgE → Prop
 | s {e : SumE} : SumG 0 e → ArgG (.s e)
 | fold0 {w : Str} : Tx 5 w → ArgG (.fold w none)
 | fold {w x : Str} : Tx 5 w → Tx 12 x → ArgG (.fold w (some x))
theorem tx_int {i : Int} (h : i.natAbs < 10 ^ 30) : Tx 31 (toString i : Str) := by
 refine ⟨?_, fun c hc => ?_⟩
 ·have e := int_text_length_le10 (k := 30) (by decide) h
  show (Str.ofString (toString i)).length ≤ 31
  rw [PySem.ofString_length]
  exact e
 ·have hc2 : c ∈ (Str.ofString (toString i)).cps.toList := hc
  rw [PyProof.Rows.signs_ofString, List.mem_map] at hc2
  obtain ⟨ch, _, rfl⟩ := hc2
  rcases ch.valid with h | h
  ·exact Nat.lt_trans h (by decide)
  ·exact h.2
theorem ValG.tx {u : V} (h : ValG u) : Tx 31 (valT u) := by
 rcases h with ⟨i, rfl, h⟩ | ⟨b, rfl⟩ | ⟨x, rfl, h⟩
 ·exact tx_int h
 ·cases b
  ·exact Tx.lit (by decide +kernel)
  ·exact Tx.lit (by decide +kernel)
 ·exact (((Tx.lit (n := 1) (by decide +kernel)).app h).app (Tx.lit (n := 1) (by decide +kernel))).mono (by decide)
theorem Tx.wrap {n k : Nat} {e : SumE} {t : Str} (h : Tx n t) : Tx (n + 2) (wrapS k e t) := by
 unfold wrapS
 split
 ·exact (((Tx.lit (n := 1) (by decide +kernel)).app h).app (Tx.lit (n := 1) (by decide +kernel))).mono (by omega)
 ·exact h.mono (by omega)
theorem isSg.tx {s : Str} (h : isSg s) : Tx 1 s := by
 rcases h with rfl | rfl | rfl <;> exact Tx.lit (by decide +kernel)
theorem SumG.tx {m : Nat} {e : SumE} (h : SumG m e) : Tx (48 * 2 ^ m - 7) (sumT e) := by
 induction h with
 | @val n u h => exact h.tx.mono (by have := Nat.one_le_two_pow (n := n); omega)
 | @var n x h => exact h.mono (by have := Nat.one_le_two_pow (n := n); omega)
 | @op n s a b hs _ _ iha ihb =>
  have l1 : Tx 1 (" " : Str) := Tx.lit (by decide +kernel)
  have p := Nat.one_le_two_pow (n := n)
  refine (((((iha.wrap).app l1).app hs.tx).app l1).app ihb.wrap).mono ?_
  rw [Nat.pow_succ]
  omega
theorem TermG.tx {t : TermE} (h : TermG t) : Tx 41 (termT t) := by
 cases h with
 | any => exact Tx.lit (by decide +kernel)
 | s h => exact h.tx.mono (by decide)
theorem txs_map {α : Type} {f : α → Str} {xs : List α} {n : Nat} (h : ∀ x ∈ xs, Tx n (f x)) : ∀ t ∈ xs.map f, Tx n t := fun t ht => by
 obtain ⟨x, hx, rfl⟩ := List.mem_map.mp ht
 exact h x hx
theorem Tx.list {α : Type} {f : α → Str} {xs : List α} {n k : Nat} (h : ∀ x ∈ xs, Tx n (f x)) (l : xs.length ≤ k) : Tx (k * (n + 2)) (listT (xs.map f)) := by
 refine (Tx.join (k := 2) (y := ", ") (Tx.lit (by decide +kernel)) (txs_map h)).mono ?_
 rw [List.length_map]
 exact Nat.mul_le_mul_right _ l
theorem Tx.atom {x : Str} {ts : List TermE} (hx : Tx 44 x) (hl : ts.length ≤ 4) (h : ∀ t ∈ ts, TermG t) : Tx 218 (atomT x ts) :=
 (((hx.app (Tx.lit (n := 1) (by decide +kernel))).app (Tx.list (fun t ht => (h t ht).tx) hl)).app (Tx.lit (n := 1) (by decide +kernel))).mono (by decide)
theorem PartG.tx {p : PartE} (h : PartG p) : Tx 240 (partT p) := by
 cases h with
 | @atom no x ts hx hl h =>
  cases no
  ·exact (Tx.atom hx hl h).mono (by decide)
  ·exact ((Tx.lit (n := 4) (t := "not ") (by decide +kernel)).app (Tx.atom hx hl h)).mono (by decide)
 | lt hx he => exact ((hx.app (Tx.lit (n := 4) (by decide +kernel))).app he.tx).mono (by decide)
 | test hs ha hb => exact ((((ha.tx.app (Tx.lit (n := 1) (by decide +kernel))).app hs).app (Tx.lit (n := 1) (by decide +kernel))).app hb.tx).mono (by decide)
theorem ArgG.tx {a : ArgE} (h : ArgG a) : Tx 41 (argT a) := by
 cases h with
 | s h => exact h.tx.mono (by decide)
 | fold0 h => exact h.mono (by decide)
 | fold h hx => exact ((h.app (Tx.lit (n := 1) (by decide +kernel))).app hx).mono (by decide)
def argsG (as : List ArgE) : Prop := as.length ≤ 8 ∧ ∀ a ∈ as, ArgG a
def partsG (ps : List PartE) : Prop := ps.length ≤ 8 ∧ ∀ p ∈ ps, PartG p
theorem argsG.tx {as : List ArgE} (h : argsG as) : Tx 344 (argsT as) := Tx.list (fun a ha => (h.2 a ha).tx) h.1
theorem partsG.tx {ps : List PartE} (h : partsG ps) : Tx 1936 (partsT ps) := Tx.list (fun a ha => (h.2 a ha).tx) h.1
structure BiT (mg : Str → Option Value) : Prop where
 b_isinstance : mg "isinstance" = none
 b_bool : mg "bool" = none
 b_int : mg "int" = none
 b_str : mg "str" = none
structure Bi (mg : Str → Option Value) : Prop where
 b_len : mg "len" = none
 b_list : mg "list" = none
 b_range : mg "range" = none
def bagO (cs : Addr) (i r k : Int) : HO := .lst [.ref cs, .int i, .int r, .int k]
structure BagAt (H : Hp) (b cs : Addr) : Prop where
 ex : ∃ (cells : List Int) (i r k : Int), H b = some (bagO cs i r k) ∧ H cs = some (.lst (cells.map V.int)) ∧ 0 ≤ i
theorem BagAt.ne {H : Hp} {b cs : Addr} (h : BagAt H b cs) : cs ≠ b := by
 obtain ⟨cells, i, r, k, h1, h2, _⟩ := h.ex
 intro e
 rw [e, h1] at h2
 have h3 : [V.ref cs, .int i, .int r, .int k] = cells.map V.int := HO.lst.inj (Option.some.inj h2)
 cases cells with
 | nil => cases h3
 | cons c r => cases (List.cons.inj h3).1
theorem BagAt.fr {H H' : Hp} {b cs : Addr} {M : List Addr} (h : BagAt H b cs) (e : Fr M H H') (n1 : b ∉ M) (n2 : cs ∉ M) : BagAt H' b cs := by
 obtain ⟨cells, i, r, k, h1, h2, h3⟩ := h.ex
 exact ⟨cells, i, r, k, e.at h1 n1, e.at h2 n2, h3⟩
theorem BagAt.fr0 {H H' : Hp} {b cs : Addr} (h : BagAt H b cs) (e : Fr [] H H') : BagAt H' b cs := h.fr e (fun z => nomatch z) (fun z => nomatch z)
theorem BagAt.put {H : Hp} {b cs : Addr} (h : BagAt H b cs) {i r k : Int} (hi : 0 ≤ i) : BagAt (upd H b (bagO cs i r k)) b cs := by
 obtain ⟨cells, _, _, _, h1, h2, h3⟩ := h.ex
 exact ⟨cells, i, r, k, upd_same, by rw [upd_ne h.ne]; exact h2, hi⟩
theorem BagAt.frp {H : Hp} {b cs : Addr} (h : BagAt H b cs) {o : HO} : Fr [b] H (upd H b o) := by
 obtain ⟨cells, i, r, k, h1, h2, h3⟩ := h.ex
 exact Fr.mut (List.mem_singleton.mpr rfl) h1 nofix_lst
theorem BagAt.some {H : Hp} {b cs : Addr} (h : BagAt H b cs) {p : Addr} (hp : H p = none) : p ≠ b ∧ p ≠ cs := by
 obtain ⟨cells, i, r, k, h1, h2, h3⟩ := h.ex
 exact ⟨fun e => (by rw [e, h1] at hp; cases hp), fun e => (by rw [e, h2] at hp; cases hp)⟩
def spBag (K : PySem.W.Frag) : Sp := fun vs H Q _ => ∃ (a : Addr) (ns : List Int), vs = [.ref a] ∧ SqL K H a (ns.map V.int) ∧ ns.length ≤ 63 ∧
 ∀ b cs H', Fr [] H H' → H b = none → BagAt H' b cs → Q (.ref b) H'
def spPull : Sp := fun vs H Q _ => ∃ (b cs : Addr) (u : Int), vs = [.ref b, .int u] ∧ BagAt H b cs ∧ 0 < u ∧ u < 2 ^ 200 ∧
 ∀ d H', 0 ≤ d → d < u → BagAt H' b cs → Fr [b] H H' → Q (.int d) H'
abbrev s__law_bag : Stmt := topS 4
theorem sc__law_bag : FnScope ["_law_script", "_law_cells", "_law_knot", "_law_cell"] ["_law_script"] (defScope s__law_bag) := ⟨rfl, rfl, rfl, by decide +kernel, rfl, by decide +kernel, by decide +kernel⟩
abbrev s__law_pull : Stmt := topS 5
theorem sc__law_pull : FnScope ["_law_bag_here", "_law_upto", "_law_seed", "_law_fold", "_law_twist", "_law_drawn"] ["_law_bag_here", "_law_upto"] (defScope s__law_pull) := ⟨rfl, rfl, rfl, by decide +kernel, rfl, by decide +kernel, by decide +kernel⟩
section
variable {P : Program} {w : World} {K : PySem.W.Frag} {mg : Str → Option Value} {base : Heap}
theorem ok__law_bag {f : Addr} {fd : FuncData} (F : FnP K "_law_bag" s__law_bag f fd) (B : Bi mg) : FnG P w K mg base CX0 10 f fd ["_law_script"] (spBag K) := by
 refine okG F sc__law_bag (fun vs H Q E h => ?_) (fun cdv A outer s H vs Q E hr h => ?_)
 ·obtain ⟨a, ns, rfl, _⟩ := h
  rfl
 obtain ⟨a, ns, rfl, hS, hl, q⟩ := h
 refine ⟨_, PSs.nox (pss_cons (ps_set (i := 1) sc__law_bag.nd rfl (.inl rfl) (pe_callTy (kCall (K := K) (r := uList) rfl callu_list) (by rfl) B.b_list (by decide +kernel) (pa_cons (pe_slice (kSl (K := K) (r := rSlL) rfl sl_list) (pv 0) po_none (po_some pe_int)) pa_nil)))
 (pss_cons (ps_set (i := 2) sc__law_bag.nd rfl (.inl rfl) (pe_op (kOp (K := K) (r := uAdd) rfl opu_add) pe_int (pe_callB (kCall (K := K) (r := uLen) rfl callu_len) (by rfl) B.b_len (by decide +kernel) (pa_cons (pv 1) pa_nil))))
 (pss_cons (ps_for PassesOwn.never rfl (pi_listK (K := K) rfl (pv 1)) (pg_name (i := 3) sc__law_bag.nd rfl (by first | exact Or.inl rfl | exact Or.inr rfl)) (pss_one (ps_set (i := 2) sc__law_bag.nd rfl (.inl rfl) (pe_op opu_mod (pe_op (kOp (K := K) (r := uAdd) rfl opu_add) (pe_op opu_mul (pv 2) pe_int) (pv 3)) pe_int))))
 (pss_one (ps_ret (pe_lst (pa_cons (pv 1) (pa_cons pe_int (pa_cons pe_int (pa_cons (pv 2) pa_nil)))))))))), rd_start (σ0 := [some (.ref a), none, none, none]) rfl ?_⟩
 walk_at "q"
 refine g_slL hS fun p1 hp1 => ?_
 walk_at "q"
 refine g_list (.inl (SqL.of upd_same)) fun p2 hp2 => ?_
 have ec : cutV (ns.map V.int) none (some 63) = ns.map V.int := by
  have z := cut0 (ns.map V.int) 63
  rw [List.take_of_length_le (by rw [List.length_map]; omega)] at z
  exact z
 rw [ec] at hp2 ⊢
 have e2 : Fr [] H (upd (upd H p1 (.lst (ns.map V.int))) p2 (.lst (ns.map V.int))) := (Fr.new hp1).trans (Fr.new hp2)
 have h2 : (upd (upd H p1 (.lst (ns.map V.int))) p2 (.lst (ns.map V.int))) p2 = some (.lst (ns.map V.int)) := upd_same
 generalize upd (upd H p1 (.lst (ns.map V.int))) p2 (.lst (ns.map V.int)) = H2 at *
 walk_at "q"
 refine ⟨_, rfl, ⟨_, SqL.of h2⟩, for_list (K := K) (a := p2) (xs := ns.map V.int) (fun i σ H' => ∃ (k : Int) (c : Option V), σ = [some (.ref a), some (.ref p2), some (.int k), c] ∧ H' = H2) ⟨_, _, rfl, rfl⟩ (fun i σ H' _ h => ?_) (fun i x σ H' hi h => ?_) (fun σ H' h => ?_)⟩
 ·obtain ⟨k, c, rfl, rfl⟩ := h
  exact SqL.of h2
 ·obtain ⟨k, c, rfl, rfl⟩ := h
  obtain ⟨n, _, rfl⟩ := List.mem_map.mp (List.mem_of_getElem? hi)
  walk_at "q"
  exact ⟨_, _, rfl, rfl⟩
 ·obtain ⟨k, c, rfl, rfl⟩ := h
  walk_at "q"
  refine ⟨le_of (by simp), fun p3 hp3 => ?_⟩
  refine q p3 p2 _ (e2.trans (Fr.new hp3)) (e2.back (fun z => nomatch z) hp3) ⟨ns, 0, 0, k, upd_same, by rw [upd_ne (ne_of_none h2 hp3)]; exact h2, Int.le_refl 0⟩
theorem ok__law_pull {f : Addr} {fd : FuncData} (F : FnP K "_law_pull" s__law_pull f fd) (B : Bi mg) : FnG P w K mg base CX0 10 f fd ["_law_bag_here", "_law_upto"] spPull := by
 refine okG F sc__law_pull (fun vs H Q E h => ?_) (fun cdv A outer s H vs Q E hr h => ?_)
 ·obtain ⟨b, cs, u, rfl, _⟩ := h
  rfl
 obtain ⟨b, cs, u, rfl, hB, hu0, hu1, q⟩ := h
 obtain ⟨cells, i, r, k, hb, hc, hi⟩ := id hB.ex
 refine ⟨_, PSs.nox (pss_cons (ps_if (pt_cmpR (kOp (K := K) (r := uLt) rfl opu_lt) (pe_ix (kIx (K := K) (r := rIx) rfl ix_seq) (pv 0) pe_int (fun _ _ => rfl)) pe_int (nomark _)) (pss_cons (ps_asg (pe_op (kOp (K := K) (r := uAdd) rfl opu_add) (pe_ix (kIx (K := K) (r := rIx) rfl ix_seq) (pv 0) pe_int (fun _ _ => rfl)) pe_int) (pg_sub (pv 0) pe_int set_list))
 (pss_cons (ps_set (i := 2) sc__law_pull.nd rfl (.inl rfl) (pe_op (kOp (K := K) (r := uAdd) rfl opu_add) (pe_ix (kIx (K := K) (r := rIx) rfl ix_seq) (pv 0) pe_int (fun _ _ => rfl)) (pe_op opu_mul (pe_ix (kIx (K := K) (r := rIx) rfl ix_seq) (pv 0) pe_int (fun _ _ => rfl)) pe_int)))
 (pss_cons (ps_if (pt_cmpR opu_le (pe_ix (kIx (K := K) (r := rIx) rfl ix_seq) (pv 0) pe_int (fun _ _ => rfl)) (pe_callB (kCall (K := K) (r := uLen) rfl callu_len) (by rfl) B.b_len (by decide +kernel) (pa_cons (pe_ix (kIx (K := K) (r := rIx) rfl ix_seq) (pv 0) pe_int (fun _ _ => rfl)) pa_nil)) (nomark _)) (pss_one (ps_set (i := 2) sc__law_pull.nd rfl (.inl rfl) (pe_ix (kIx (K := K) (r := rIx) rfl ix_seq) (pe_ix (kIx (K := K) (r := rIx) rfl ix_seq) (pv 0) pe_int (fun _ _ => rfl)) (pe_op opu_sub (pe_ix (kIx (K := K) (r := rIx) rfl ix_seq) (pv 0) pe_int (fun _ _ => rfl)) pe_int) (fun _ _ => rfl)))) pss_nil)
 (pss_cons (ps_if (PW.pt (pw_or (pt_cmpR opu_gt (pe_ix (kIx (K := K) (r := rIx) rfl ix_seq) (pv 0) pe_int (fun _ _ => rfl)) (pe_callB (kCall (K := K) (r := uLen) rfl callu_len) (by rfl) B.b_len (by decide +kernel) (pa_cons (pe_ix (kIx (K := K) (r := rIx) rfl ix_seq) (pv 0) pe_int (fun _ _ => rfl)) pa_nil)) (nomark _)) (pw_or1 (pt_cmpR (kOp (K := K) (r := uLt) rfl opu_lt) (pv 2) (pe_op opu_pow pe_int pe_int) (nomark _))))) (pss_cons (ps_set (i := 3) sc__law_pull.nd rfl (.inl rfl) (pe_op opu_mod (pe_op (kOp (K := K) (r := uAdd) rfl opu_add) (pe_op (kOp (K := K) (r := uAdd) rfl opu_add) (pe_op opu_mul (pv 2) pe_int) (pe_op opu_mul (pe_ix (kIx (K := K) (r := rIx) rfl ix_seq) (pv 0) pe_int (fun _ _ => rfl)) pe_int)) (pe_ix (kIx (K := K) (r := rIx) rfl ix_seq) (pv 0) pe_int (fun _ _ => rfl))) pe_int))
 (pss_cons (ps_set (i := 4) sc__law_pull.nd rfl (.inl rfl) (pe_op opu_mod (pe_op (kOp (K := K) (r := uAdd) rfl opu_add) (pe_op opu_mul (pv 3) (pv 3)) (pe_ix (kIx (K := K) (r := rIx) rfl ix_seq) (pv 0) pe_int (fun _ _ => rfl))) pe_int))
 (pss_one (ps_ret (pe_op opu_mod (pe_op opu_div (pe_op opu_mod (pe_op (kOp (K := K) (r := uAdd) rfl opu_add) (pe_op opu_mul (pv 4) pe_int) (pv 3)) pe_int) pe_int) (pv 1)))))) pss_nil)
 (pss_one (ps_asg (pv 2) (pg_sub (pv 0) pe_int set_list))))))) pss_nil)
 (pss_cons (ps_set (i := 5) sc__law_pull.nd rfl (.inl rfl) (pe_op opu_mod (pe_ix (kIx (K := K) (r := rIx) rfl ix_seq) (pv 0) pe_int (fun _ _ => rfl)) (pv 1)))
 (pss_cons (ps_asg (pe_op opu_div (pe_ix (kIx (K := K) (r := rIx) rfl ix_seq) (pv 0) pe_int (fun _ _ => rfl)) (pv 1)) (pg_sub (pv 0) pe_int set_list))
 (pss_one (ps_ret (pv 5)))))), rd_start (σ0 := [some (.ref b), some (.int u), none, none, none, none]) rfl ?_⟩
 unfold bagO at hb
 have hcb := hB.ne
 walk_at "q"
 refine g_by (fun c1 => ?_) (fun c1 => ?_)
 ·walk_at "q"
  refine g_setL (j := 1) hb rfl ?_
  have hb1 : (upd H b (.lst ([V.ref cs, .int i, .int r, .int k].set 1 (.int (i + 1))))) b = some (.lst [V.ref cs, .int (i + 1), .int r, .int k]) := upd_same
  have hc1 : (upd H b (.lst ([V.ref cs, .int i, .int r, .int k].set 1 (.int (i + 1))))) cs = some (.lst (cells.map V.int)) := by rw [upd_ne hcb]; exact hc
  have hf1 : Fr [b] H (upd H b (.lst ([V.ref cs, .int i, .int r, .int k].set 1 (.int (i + 1))))) := hB.frp
  generalize upd H b (.lst ([V.ref cs, .int i, .int r, .int k].set 1 (.int (i + 1)))) = H1 at *
  walk_at "q"
  refine g_by (fun c2 => ?_) (fun c2 => ?_)
  ·walk_at "q"
   have hl : i + 1 ≤ (cells.length : Int) := by rw [List.length_map] at c2; exact c2
   obtain ⟨j, rfl⟩ : ∃ j : Nat, i = (j : Int) := ⟨i.toNat, by omega⟩
   have hj : j < cells.length := by omega
   have hat : atI (cells.map V.int) ((j : Int) + 1 - 1) = some (.int cells[j]) := by
    rw [show (j : Int) + 1 - 1 = (j : Int) by omega]
    exact atI_nat (by rw [List.getElem?_map, List.getElem?_eq_getElem hj]; rfl)
   refine g_ixL (SqL.of hc1) hat ?_
   generalize cells[j] = seed
   walk_at "q"
   have hB1 : BagAt H1 b cs := ⟨cells, _, r, k, hb1, hc1, by omega⟩
   refine g_by (fun c3 => ?_) (fun c3 => ?_)
   ·have key : ∀ z : Int, Q (.int (z % u)) H1 := fun z => q _ _ (Int.emod_nonneg _ (by omega)) (Int.emod_lt_of_pos _ hu0) hB1 hf1
    walk_at "q"
    exact key _
   ·walk_at "q"
    refine g_by (fun c4 => ?_) (fun c4 => ?_)
    ·have key : ∀ z : Int, Q (.int (z % u)) H1 := fun z => q _ _ (Int.emod_nonneg _ (by omega)) (Int.emod_lt_of_pos _ hu0) hB1 hf1
     walk_at "q"
     exact key _
    ·walk_at "q"
     refine g_setL (j := 2) hb1 rfl ?_
     have hb2 : (upd H1 b (.lst ([V.ref cs, .int ((j : Int) + 1), .int r, .int k].set 2 (.int seed)))) b = some (.lst [V.ref cs, .int ((j : Int) + 1), .int seed, .int k]) := upd_same
     have hB2 : BagAt (upd H1 b (.lst ([V.ref cs, .int ((j : Int) + 1), .int r, .int k].set 2 (.int seed)))) b cs := hB1.put (by omega)
     have hf2 : Fr [b] H (upd H1 b (.lst ([V.ref cs, .int ((j : Int) + 1), .int r, .int k].set 2 (.int seed)))) := hf1.trans hB1.frp
     generalize upd H1 b (.lst ([V.ref cs, .int ((j : Int) + 1), .int r, .int k].set 2 (.int seed))) = H2 at *
     walk_at "q"
     refine g_setL (j := 2) hb2 rfl ?_
     walk_at "q"
     exact q _ _ (Int.emod_nonneg _ (by omega)) (Int.emod_lt_of_pos _ hu0) (hB2.put (by omega)) (hf2.trans hB2.frp)
  ·walk_at "q"
   generalize k + (i + 1) * 7919 = seed
   walk_at "q"
   have hB1 : BagAt H1 b cs := ⟨cells, _, r, k, hb1, hc1, by omega⟩
   refine g_by (fun c3 => ?_) (fun c3 => ?_)
   ·have key : ∀ z : Int, Q (.int (z % u)) H1 := fun z => q _ _ (Int.emod_nonneg _ (by omega)) (Int.emod_lt_of_pos _ hu0) hB1 hf1
    walk_at "q"
    exact key _
   ·walk_at "q"
    refine g_by (fun c4 => ?_) (fun c4 => ?_)
    ·have key : ∀ z : Int, Q (.int (z % u)) H1 := fun z => q _ _ (Int.emod_nonneg _ (by omega)) (Int.emod_lt_of_pos _ hu0) hB1 hf1
     walk_at "q"
     exact key _
    ·walk_at "q"
     refine g_setL (j := 2) hb1 rfl ?_
     have hb2 : (upd H1 b (.lst ([V.ref cs, .int (i + 1), .int r, .int k].set 2 (.int seed)))) b = some (.lst [V.ref cs, .int (i + 1), .int seed, .int k]) := upd_same
     have hB2 : BagAt (upd H1 b (.lst ([V.ref cs, .int (i + 1), .int r, .int k].set 2 (.int seed)))) b cs := hB1.put (by omega)
     have hf2 : Fr [b] H (upd H1 b (.lst ([V.ref cs, .int (i + 1), .int r, .int k].set 2 (.int seed)))) := hf1.trans hB1.frp
     generalize upd H1 b (.lst ([V.ref cs, .int (i + 1), .int r, .int k].set 2 (.int seed))) = H2 at *
     walk_at "q"
     refine g_setL (j := 2) hb2 rfl ?_
     walk_at "q"
     exact q _ _ (Int.emod_nonneg _ (by omega)) (Int.emod_lt_of_pos _ hu0) (hB2.put (by omega)) (hf2.trans hB2.frp)
 ·walk_at "q"
  refine g_setL (j := 2) hb rfl ?_
  walk_at "q"
  exact q _ _ (Int.emod_nonneg _ (by omega)) (Int.emod_lt_of_pos _ hu0) (hB.put hi) hB.frp
end
theorem atI_in {α : Type} {xs : List α} {d : Int} (h0 : 0 ≤ d) (h1 : d < (xs.length : Int)) : ∃ v, v ∈ xs ∧ atI xs d = some v := by
 obtain ⟨j, rfl⟩ : ∃ j : Nat, d = (j : Int) := ⟨d.toNat, by omega⟩
 have hj : j < xs.length := by omega
 exact ⟨xs[j], List.getElem_mem hj, atI_nat (List.getElem?_eq_getElem hj)⟩
def spOne (K : PySem.W.Frag) : Sp := fun vs H Q _ => ∃ (b cs r : Addr) (xs : List V), vs = [.ref b, .ref r] ∧ BagAt H b cs ∧ ((SqL K H r xs ∧ r ≠ b) ∨ SqT K H r xs) ∧ 0 < xs.length ∧ xs.length ≤ 1000 ∧
 ∀ v H', v ∈ xs → BagAt H' b cs → Fr [b] H H' → Q v H'
abbrev s__law_one : Stmt := topS 6
theorem sc__law_one : FnScope ["_law_bag_here", "_law_row"] ["_law_bag_here", "_law_row"] (defScope s__law_one) := ⟨rfl, rfl, rfl, by decide +kernel, rfl, by decide +kernel, by decide +kernel⟩
section
variable {P : Program} {w : World} {K : PySem.W.Frag} {mg : Str → Option Value} {base : Heap}
theorem ok__law_one {f : Addr} {fd : FuncData} (F : FnP K "_law_one" s__law_one f fd) (B : Bi mg) (C__law_pull : CalG P w K mg base 10 "_law_pull" spPull) : FnG P w K mg base CX0 20 f fd ["_law_bag_here", "_law_row"] (spOne K) := by
 refine okG F sc__law_one (fun vs H Q E h => ?_) (fun cdv A outer s H vs Q E hr h => ?_)
 ·obtain ⟨b, cs, r, xs, rfl, _⟩ := h
  rfl
 obtain ⟨b, cs, r, xs, rfl, hB, hx, h0, h1, q⟩ := h
 refine ⟨_, PSs.nox (pss_one (ps_ret (pe_ix (kIx (K := K) (r := rIx) rfl ix_seq) (pv 1) (pe_calG C__law_pull hr rfl (pa_cons (pv 0) (pa_cons (pe_callB (kCall (K := K) (r := uLen) rfl callu_len) (by rfl) B.b_len (by decide +kernel) (pa_cons (pv 1) pa_nil)) pa_nil))) (fun _ _ => rfl)))), rd_start (σ0 := [some (.ref b), some (.ref r)]) rfl ?_⟩
 walk_at "q"
 refine g_len (hx.imp (fun z => z.1) id) ?_
 walk_at "q"
 refine ⟨b, cs, _, rfl, hB, by omega, Int.lt_of_le_of_lt (b := 1000) (by omega) (by decide), fun d H' d0 d1 hB' hF => ?_⟩
 obtain ⟨v, hv, ha⟩ := atI_in d0 d1
 rcases hx with ⟨hx, hn⟩ | hx
 ·exact g_ixL (hF.seq (fun z => hn (List.mem_singleton.mp z)) hx) ha (q v H' hv hB' hF)
 ·exact g_ixT (hF.tup hx) ha (q v H' hv hB' hF)
end
def isLet (c : Nat) : Bool := decide (97 ≤ c ∧ c ≤ 122)
def isFig (c : Nat) : Bool := decide (48 ≤ c ∧ c ≤ 57)
def WordP (x : Str) : Prop := ∃ c r, x.cps.toList = c :: r ∧ isLet c = true ∧ (∀ d ∈ r, (isLet d || isFig d) = true) ∧ r.length ≤ 11
def signs36 : Str := "abcdefghijklmnopqrstuvwxyz0123456789"
theorem signs36_list : signs36.cps.toList = [97, 98, 99, 100, 101, 102, 103, 104, 105, 106, 107, 108, 109, 110, 111, 112, 113, 114, 115, 116, 117, 118, 119, 120, 121, 122, 48, 49, 50, 51, 52, 53, 54, 55, 56, 57] := by decide +kernel
theorem signs36_at {d : Int} (h0 : 0 ≤ d) (h1 : d < 36) : ∃ c, atI signs36.cps.toList d = some c ∧ (isLet c || isFig c) = true := by
 obtain ⟨c, hc, ha⟩ := atI_in (xs := signs36.cps.toList) h0 (by rw [signs36_list]; exact h1)
 refine ⟨c, ha, ?_⟩
 rw [signs36_list] at hc
 have z : ∀ x ∈ ([97, 98, 99, 100, 101, 102, 103, 104, 105, 106, 107, 108, 109, 110, 111, 112, 113, 114, 115, 116, 117, 118, 119, 120, 121, 122, 48, 49, 50, 51, 52, 53, 54, 55, 56, 57] : List Nat), (isLet x || isFig x) = true := by decide
 exact z c hc
theorem signs26_at {d : Int} (h0 : 0 ≤ d) (h1 : d < 26) : ∃ c, atI signs36.cps.toList d = some c ∧ isLet c = true := by
 obtain ⟨j, rfl⟩ : ∃ j : Nat, d = (j : Int) := ⟨d.toNat, by omega⟩
 have hj : j < 26 := by omega
 have z : ∀ j : Nat, j < 26 → ∃ c, signs36.cps.toList[j]? = some c ∧ isLet c = true := by
  rw [signs36_list]
  intro j hj
  have y : ∀ i : Fin 26, isLet (([97, 98, 99, 100, 101, 102, 103, 104, 105, 106, 107, 108, 109, 110, 111, 112, 113, 114, 115, 116, 117, 118, 119, 120, 121, 122, 48, 49, 50, 51, 52, 53, 54, 55, 56, 57] : List Nat).getD i.val 0) = true := by decide
  have y2 := y ⟨j, hj⟩
  have hl : j < ([97, 98, 99, 100, 101, 102, 103, 104, 105, 106, 107, 108, 109, 110, 111, 112, 113, 114, 115, 116, 117, 118, 119, 120, 121, 122, 48, 49, 50, 51, 52, 53, 54, 55, 56, 57] : List Nat).length := by
   show j < 36
   omega
  refine ⟨_, List.getElem?_eq_getElem hl, ?_⟩
  rw [List.getD_eq_getElem?_getD, List.getElem?_eq_getElem hl] at y2
  exact y2
 obtain ⟨c, h1, h2⟩ := z j hj
 exact ⟨c, atI_nat h1, h2⟩
theorem len_le12 {x : Str} (h : WordP x) : x.length ≤ 12 := by
 obtain ⟨c, r, e, _, _, l⟩ := h
 rw [TL.len_tl]
 show x.cps.toList.length ≤ 12
 rw [e, List.length_cons]
 omega
def spWord : Sp := fun vs H Q _ => ∃ (b cs : Addr), vs = [.ref b] ∧ BagAt H b cs ∧ ∀ x H', WordP x → BagAt H' b cs → Fr [b] H H' → Q (.str x) H'
abbrev s__law_word : Stmt := topS 8
theorem sc__law_word : FnScope ["_law_bag_here", "_law_signs", "_law_word_here", "_law_k"] ["_law_bag_here"] (defScope s__law_word) := ⟨rfl, rfl, rfl, by decide +kernel, rfl, by decide +kernel, by decide +kernel⟩
section
variable {P : Program} {w : World} {K : PySem.W.Frag} {mg : Str → Option Value} {base : Heap}
theorem ok__law_word {f : Addr} {fd : FuncData} (F : FnP K "_law_word" s__law_word f fd) (B : Bi mg) (C__law_pull : CalG P w K mg base 10 "_law_pull" spPull) (C__law_one : CalG P w K mg base 20 "_law_one" (spOne K)) : FnG P w K mg base CX0 30 f fd ["_law_bag_here"] spWord := by
 refine okG F sc__law_word (fun vs H Q E h => ?_) (fun cdv A outer s H vs Q E hr h => ?_)
 ·obtain ⟨b, cs, rfl, _⟩ := h
  rfl
 obtain ⟨b, cs, rfl, hB, q⟩ := h
 refine ⟨_, PSs.nox (pss_cons (ps_set (i := 1) sc__law_word.nd rfl (.inl rfl) pe_str)
 (pss_cons (ps_set (i := 2) sc__law_word.nd rfl (.inl rfl) (pe_ix (kIx (K := K) (r := rIx) rfl ix_seq) (pv 1) (pe_calG C__law_pull hr rfl (pa_cons (pv 0) (pa_cons pe_int pa_nil))) (fun _ _ => rfl)))
 (pss_cons (ps_for PassesOwn.never rfl (pi_range1 rfl B.b_range (pa_cons (pe_calG C__law_pull hr rfl (pa_cons (pv 0) (pa_cons (pe_calG C__law_one hr rfl (pa_cons (pv 0) (pa_cons (pe_lst (pa_cons pe_int (pa_cons pe_int pa_nil))) pa_nil))) pa_nil))) pa_nil)) (pg_name (i := 3) sc__law_word.nd rfl (by first | exact Or.inl rfl | exact Or.inr rfl)) (pss_one (ps_set (i := 2) sc__law_word.nd rfl (.inl rfl) (pe_op (kOp (K := K) (r := uAdd) rfl opu_add) (pv 2) (pe_ix (kIx (K := K) (r := rIx) rfl ix_seq) (pv 1) (pe_calG C__law_pull hr rfl (pa_cons (pv 0) (pa_cons pe_int pa_nil))) (fun _ _ => rfl))))))
 (pss_one (ps_ret (pv 2)))))), rd_start (σ0 := [some (.ref b), none, none, none]) rfl ?_⟩
 walk_at "q"
 refine ⟨b, cs, _, rfl, hB, by decide, by decide, fun d H1 d0 d1 hB1 hF1 => ?_⟩
 obtain ⟨c0, ha, hc0⟩ := signs26_at d0 d1
 refine g_ixS (le_of (by decide)) ha ?_
 walk_at "q"
 refine ⟨le_of (by decide), fun p hp => ?_⟩
 have hF2 : Fr [b] H1 (upd H1 p (.lst [V.int 3, .int 12])) := Fr.new hp
 have hB2 := hB1.fr0 (Fr.new (M := []) (o := .lst [V.int 3, .int 12]) hp)
 have hpl : (upd H1 p (.lst [V.int 3, .int 12])) p = some (.lst [V.int 3, .int 12]) := upd_same
 generalize upd H1 p (.lst [V.int 3, .int 12]) = H2 at *
 walk_at "q"
 refine ⟨b, cs, p, [V.int 3, .int 12], rfl, hB2, .inl ⟨SqL.of hpl, (hB1.some hp).1⟩, by decide, by decide, fun v H3 hv hB3 hF3 => ?_⟩
 obtain ⟨n, rfl, n0, n1⟩ : ∃ n : Int, v = .int n ∧ 0 < n ∧ n ≤ 12 := by
  rcases List.mem_cons.mp hv with e | hv
  ·exact ⟨3, e, by decide, by decide⟩
  ·exact ⟨12, List.mem_singleton.mp hv, by decide, by decide⟩
 walk_at "q"
 refine ⟨b, cs, n, rfl, hB3, n0, Int.lt_of_le_of_lt n1 (by decide), fun m H4 m0 m1 hB4 hF4 => ?_⟩
 walk_at "q"
 refine ⟨m, rfl, by omega, by omega, for_range (lo := 0) (n := m.toNat) (fun i σ H' => ∃ (x : Str) (z : Option V), σ = [some (.ref b), some (.str signs36), some (.str x), z] ∧ Fr [b] H H' ∧ BagAt H' b cs ∧
  ∃ r, x.cps.toList = c0 :: r ∧ (∀ d ∈ r, (isLet d || isFig d) = true) ∧ r.length = i) ⟨_, _, rfl, ((hF1.trans hF2).trans hF3).trans hF4, hB4, [], rfl, (fun _ z => nomatch z), rfl⟩ (fun i σ H' hi h => ?_) (fun σ H' h => ?_)⟩
 ·obtain ⟨x, z, rfl, hF, hB', r, hx, hr1, hr2⟩ := h
  walk_at "q"
  refine ⟨b, cs, _, rfl, hB', by decide, by decide, fun d H5 d0 d1 hB5 hF5 => ?_⟩
  obtain ⟨c1, ha1, hc1⟩ := signs36_at d0 d1
  refine g_ixS (le_of (by decide)) ha1 ?_
  have hxl : x.length = r.length + 1 := by rw [TL.len_tl]; show x.cps.toList.length = _; rw [hx]; rfl
  refine g_addS (le_of (by rw [hxl]; show r.length + 1 + 1 ≤ _; omega)) ?_
  walk_at "q"
  refine ⟨_, _, rfl, hF.trans hF5, hB5, r ++ [c1], ?_, ?_, by rw [List.length_append, hr2]; rfl⟩
  ·show TL.tl (x ++ ⟨#[c1]⟩) = _
   rw [TL.tl_append]
   show x.cps.toList ++ [c1] = _
   rw [hx]
   rfl
  ·intro d hd
   rcases List.mem_append.mp hd with hd | hd
   ·exact hr1 d hd
   ·rw [List.mem_singleton.mp hd]; exact hc1
 ·obtain ⟨x, z, rfl, hF, hB', r, hx, hr1, hr2⟩ := h
  walk_at "q"
  exact q x H' ⟨c0, r, hx, hc0, hr1, by omega⟩ hB' hF
end
def spNumber : Sp := fun vs H Q _ => ∃ (b cs : Addr), vs = [.ref b] ∧ BagAt H b cs ∧ ∀ n H', -(10 ^ 30) < n → n < 10 ^ 30 → BagAt H' b cs → Fr [b] H H' → Q (.int n) H'
abbrev s__law_number : Stmt := topS 9
theorem sc__law_number : FnScope ["_law_bag_here"] ["_law_bag_here"] (defScope s__law_number) := ⟨rfl, rfl, rfl, by decide +kernel, rfl, by decide +kernel, by decide +kernel⟩
section
variable {P : Program} {w : World} {K : PySem.W.Frag} {mg : Str → Option Value} {base : Heap}
theorem ok__law_number {f : Addr} {fd : FuncData} (F : FnP K "_law_number" s__law_number f fd) (C__law_pull : CalG P w K mg base 10 "_law_pull" spPull) : FnG P w K mg base CX0 30 f fd ["_law_bag_here"] spNumber := by
 refine okG F sc__law_number (fun vs H Q E h => ?_) (fun cdv A outer s H vs Q E hr h => ?_)
 ·obtain ⟨b, cs, rfl, _⟩ := h
  rfl
 obtain ⟨b, cs, rfl, hB, q⟩ := h
 refine ⟨_, PSs.nox (pss_cons (ps_if (pt_cmpR (kOp (K := K) (r := uEq) rfl (opu_eq hr.units)) (pe_calG C__law_pull hr rfl (pa_cons (pv 0) (pa_cons pe_int pa_nil))) pe_int (nomark _)) (pss_one (ps_ret (pe_op opu_mul (pe_ix (kIx (K := K) (r := rIx) rfl ix_seq) (pe_lst (pa_cons pe_int (pa_cons (pe_op opu_sub pe_int pe_int) pa_nil))) (pe_calG C__law_pull hr rfl (pa_cons (pv 0) (pa_cons pe_int pa_nil))) (fun _ _ => rfl)) (pe_calG C__law_pull hr rfl (pa_cons (pv 0) (pa_cons (pe_op opu_pow pe_int pe_int) pa_nil)))))) pss_nil)
 (pss_one (ps_ret (pe_op opu_sub (pe_calG C__law_pull hr rfl (pa_cons (pv 0) (pa_cons pe_int pa_nil))) pe_int)))), rd_start (σ0 := [some (.ref b)]) rfl ?_⟩
 walk_at "q"
 refine ⟨b, cs, _, rfl, hB, by decide, by decide, fun d H1 d0 d1 hB1 hF1 => ?_⟩
 walk_at "q"
 refine g_by (fun c => ?_) (fun c => ?_)
 ·walk_at "q"
  refine ⟨le_of (by decide), fun p hp => ?_⟩
  have hF2 : Fr [b] H1 (upd H1 p (.lst [V.int 1, .int (0 - 1)])) := Fr.new hp
  have hB2 := hB1.fr0 (Fr.new (M := []) (o := .lst [V.int 1, .int (0 - 1)]) hp)
  have hpl : (upd H1 p (.lst [V.int 1, .int (0 - 1)])) p = some (.lst [V.int 1, .int (0 - 1)]) := upd_same
  generalize upd H1 p (.lst [V.int 1, .int (0 - 1)]) = H2 at *
  walk_at "q"
  refine ⟨b, cs, _, rfl, hB2, by decide, by decide, fun d2 H3 d20 d21 hB3 hF3 => ?_⟩
  obtain ⟨v, hv, ha⟩ := atI_in (xs := [V.int 1, .int (0 - 1)]) d20 d21
  refine g_ixL (hF3.seq (fun z => (hB1.some hp).1 (List.mem_singleton.mp z)) (SqL.of hpl)) ha ?_
  walk_at "q"
  refine ⟨b, cs, _, rfl, hB3, by decide +kernel, by decide +kernel, fun d4 H5 d40 d41 hB5 hF5 => ?_⟩
  have d41' : d4 < 10 ^ 30 := d41
  have fin : ∀ n : Int, -(10 ^ 30) < n → n < 10 ^ 30 → Q (.int n) H5 := fun n h1 h2 => q n H5 h1 h2 hB5 (((hF1.trans hF2).trans hF3).trans hF5)
  rcases List.mem_cons.mp hv with e | hv
  ·subst e
   walk_at "q"
   exact fin _ (by omega) (by omega)
  ·obtain rfl : v = .int (0 - 1) := List.mem_singleton.mp hv
   walk_at "q"
   exact fin _ (by omega) (by omega)
 ·walk_at "q"
  refine ⟨b, cs, _, rfl, hB1, by decide, by decide, fun d2 H2 d20 d21 hB2 hF2 => ?_⟩
  walk_at "q"
  exact q _ _ (by omega) (by omega) hB2 (hF1.trans hF2)
end
def ValOf (k : Str) (v : V) : Prop := (k = "number" ∧ ∃ n, v = .int n ∧ -(10 ^ 30) < n ∧ n < 10 ^ 30) ∨ (k = "flag" ∧ ∃ c, v = .bl c) ∨ (k = "word" ∧ ∃ x, v = .str x ∧ WordP x)
def spValue : Sp := fun vs H Q _ => ∃ (b cs : Addr) (k : Str), vs = [.ref b, .str k] ∧ (k = "number" ∨ k = "flag" ∨ k = "word") ∧ BagAt H b cs ∧ ∀ v H', ValOf k v → BagAt H' b cs → Fr [b] H H' → Q v H'
abbrev s__law_value : Stmt := topS 10
theorem sc__law_value : FnScope ["_law_bag_here", "_law_kind"] ["_law_bag_here", "_law_kind"] (defScope s__law_value) := ⟨rfl, rfl, rfl, by decide +kernel, rfl, by decide +kernel, by decide +kernel⟩
def wordB (x : Str) : Bool := match x.cps.toList with
 | [] => false
 | c :: r => isLet c && r.all (fun d => isLet d || isFig d) && decide (r.length ≤ 11)
theorem wordB_ok {x : Str} (h : wordB x = true) : WordP x := by
 unfold wordB at h
 cases e : x.cps.toList with
 | nil => rw [e] at h; cases h
 | cons c r =>
  rw [e] at h
  simp only [Bool.and_eq_true, decide_eq_true_eq, List.all_eq_true] at h
  exact ⟨c, r, e, h.1.1, h.1.2, h.2⟩
theorem WordP.b {x : Str} (h : WordP x) : wordB x = true := by
 obtain ⟨c, r, e, h1, h2, h3⟩ := h
 unfold wordB
 rw [e]
 simp only [Bool.and_eq_true, decide_eq_true_eq, List.all_eq_true]
 exact ⟨⟨h1, h2⟩, h3⟩
section
variable {P : Program} {w : World} {K : PySem.W.Frag} {mg : Str → Option Value} {base : Heap}
theorem ok__law_value {f : Addr} {fd : FuncData} (F : FnP K "_law_value" s__law_value f fd) (C__law_pull : CalG P w K mg base 10 "_law_pull" spPull) (C__law_one : CalG P w K mg base 20 "_law_one" (spOne K))
  (C__law_word : CalG P w K mg base 30 "_law_word" spWord) (C__law_number : CalG P w K mg base 30 "_law_number" spNumber) : FnG P w K mg base CX0 40 f fd ["_law_bag_here", "_law_kind"] spValue := by
 refine okG F sc__law_value (fun vs H Q E h => ?_) (fun cdv A outer s H vs Q E hr h => ?_)
 ·obtain ⟨b, cs, k, rfl, _⟩ := h
  rfl
 obtain ⟨b, cs, k, rfl, hk, hB, q⟩ := h
 refine ⟨_, PSs.nox (pss_cons (ps_if (pt_cmpR (kOp (K := K) (r := uEq) rfl (opu_eq hr.units)) (pv 1) pe_str (nomark _)) (pss_one (ps_ret (pe_calG C__law_number hr rfl (pa_cons (pv 0) pa_nil)))) pss_nil)
 (pss_cons (ps_if (pt_cmpR (kOp (K := K) (r := uEq) rfl (opu_eq hr.units)) (pv 1) pe_str (nomark _)) (pss_one (ps_ret (pe_cmpR (kOp (K := K) (r := uEq) rfl (opu_eq hr.units)) (pe_calG C__law_pull hr rfl (pa_cons (pv 0) (pa_cons pe_int pa_nil))) pe_int (nomark _)))) pss_nil)
 (pss_cons (ps_if (pt_cmpR (kOp (K := K) (r := uEq) rfl (opu_eq hr.units)) (pe_calG C__law_pull hr rfl (pa_cons (pv 0) (pa_cons pe_int pa_nil))) pe_int (nomark _)) (pss_one (ps_ret (pe_calG C__law_word hr rfl (pa_cons (pv 0) pa_nil)))) pss_nil)
 (pss_one (ps_ret (pe_calG C__law_one hr rfl (pa_cons (pv 0) (pa_cons (pe_lst (pa_cons pe_str (pa_cons pe_str (pa_cons pe_str (pa_cons pe_str (pa_cons pe_str pa_nil)))))) pa_nil)))))))), rd_start (σ0 := [some (.ref b), some (.str k)]) rfl ?_⟩
 rcases hk with rfl | rfl | rfl
 ·walk_at "q"
  exact ⟨b, cs, rfl, hB, fun n H' h1 h2 hB' hF => q _ _ (.inl ⟨rfl, n, rfl, h1, h2⟩) hB' hF⟩
 ·walk_at "q"
  refine ⟨b, cs, _, rfl, hB, by decide, by decide, fun d H1 d0 d1 hB1 hF1 => ?_⟩
  walk_at "q"
  exact q _ _ (.inr (.inl ⟨rfl, _, rfl⟩)) hB1 hF1
 ·walk_at "q"
  refine ⟨b, cs, _, rfl, hB, by decide, by decide, fun d H1 d0 d1 hB1 hF1 => ?_⟩
  walk_at "q"
  refine g_by (fun c => ?_) (fun c => ?_)
  ·walk_at "q"
   exact ⟨b, cs, rfl, hB1, fun x H' hx hB' hF => q _ _ (.inr (.inr ⟨rfl, x, rfl, hx⟩)) hB' (hF1.trans hF)⟩
  ·walk_at "q"
   refine ⟨le_of (by decide), fun p hp => ?_⟩
   have hF2 : Fr [b] H1 (upd H1 p (.lst [V.str "ann", .str "b", .str "z9", .str "if", .str "me"])) := Fr.new hp
   have hB2 := hB1.fr0 (Fr.new (M := []) (o := .lst [V.str "ann", .str "b", .str "z9", .str "if", .str "me"]) hp)
   have hpl : (upd H1 p (.lst [V.str "ann", .str "b", .str "z9", .str "if", .str "me"])) p = some (.lst [V.str "ann", .str "b", .str "z9", .str "if", .str "me"]) := upd_same
   generalize upd H1 p (.lst [V.str "ann", .str "b", .str "z9", .str "if", .str "me"]) = H2 at *
   walk_at "q"
   refine ⟨b, cs, p, _, rfl, hB2, .inl ⟨SqL.of hpl, (hB1.some hp).1⟩, by decide, by decide, fun v H3 hv hB3 hF3 => ?_⟩
   refine q _ _ (.inr (.inr ⟨rfl, ?_⟩)) hB3 ((hF1.trans hF2).trans hF3)
   simp only [List.mem_cons, List.not_mem_nil, or_false] at hv
   rcases hv with rfl | rfl | rfl | rfl | rfl
   all_goals exact ⟨_, rfl, wordB_ok (by decide +kernel)⟩
end
structure BiS (mg : Str → Option Value) : Prop where
 b_isinstance : mg "isinstance" = none
 b_list : mg "list" = none
 b_tuple : mg "tuple" = none
 b_repr : mg "repr" = none
 b_zip : mg "zip" = none
 b_all : mg "all" = none
 b_len : mg "len" = none
def spSame (K : PySem.W.Frag) (n : Nat) : Sp := fun vs H Q _ => ∃ (x y : V) (d : PyData), vs = [x, y] ∧ Dp K H x d ∧ Dp K H y d ∧ Sm n d ∧ ∀ H', Fr [] H H' → Q (.bl true) H'
theorem sm_zero {d : PyData} (h : Sm 0 d) : False := by
 cases d <;> simp only [Sm] at h
abbrev s__law_same : Stmt := topS 7
theorem sc__law_same : FnScope ["_law_found", "_law_due", "_law_same_here", "_law_one_here", "_law_other"] ["_law_found", "_law_due"] (defScope s__law_same) := ⟨rfl, rfl, rfl, by decide +kernel, rfl, by decide +kernel, by decide +kernel⟩
section
variable {P : Program} {w : World} {K : PySem.W.Frag} {mg : Str → Option Value} {base : Heap}
theorem same_leaf {H : Hp} {x y : V} {d : PyData} {n : Nat} (hx : Dp K H x d) (hy : Dp K H y d) (hs : Sm (n + 1) d) (h : ∀ ds, d ≠ .list ds ∧ d ≠ .tuple ds) : x = y ∧ shortV x ∧ ∃ T, TyX K H x (.type T) ∧ kitB T "list" = some false ∧ kitB T "tuple" = some false := by
 cases hx with
 | non => cases hy; exact ⟨rfl, trivial, "NoneType", .base .non, by decide +kernel, by decide +kernel⟩
 | bl b => cases hy; exact ⟨rfl, trivial, "bool", .base (.bl b), by decide +kernel, by decide +kernel⟩
 | int b => cases hy; exact ⟨rfl, hs, "int", .base (.int b), by decide +kernel, by decide +kernel⟩
 | str b => cases hy; exact ⟨rfl, hs, "str", .base (.str b), by decide +kernel, by decide +kernel⟩
 | lst h1 h2 => exact absurd rfl (h _).1
 | tup h1 h2 => exact absurd rfl (h _).2
theorem ok__law_same {n : Nat} {f : Addr} {fd : FuncData} (F : FnP K "_law_same" s__law_same f fd) (B : BiS mg) (C__law_same : CalG P w K mg base n "_law_same" (spSame K n)) : FnG P w K mg base CX0 (n + 1) f fd ["_law_found", "_law_due"] (spSame K (n + 1)) := by
 refine okG F sc__law_same (fun vs H Q E h => ?_) (fun cdv A outer s H vs Q E hr h => ?_)
 ·obtain ⟨x, y, d, rfl, _⟩ := h
  rfl
 obtain ⟨x, y, d, rfl, hx, hy, hs, q⟩ := h
 refine ⟨_, PSs.nox (pss_cons (ps_if (pt_not (pt_val (pe_callB (kCall (K := K) (r := uIsi) rfl callu_isi) (by rfl) B.b_isinstance (by decide +kernel) (pa_cons (pv 1) (pa_cons (pe_tup (pa_cons (pe_bltn (v := .ty "list") (by rfl) B.b_list (by decide +kernel) rfl) (pa_cons (pe_bltn (v := .ty "tuple") (by rfl) B.b_tuple (by decide +kernel) rfl) pa_nil))) pa_nil))))) (pss_one (ps_ret (pe_cmpR (kOp (K := K) (r := uEq) rfl (opu_eq hr.units)) (pe_callB (kCall (K := K) (r := uReprG) rfl (callu_reprG hr)) (by rfl) B.b_repr (by decide +kernel) (pa_cons (pv 0) pa_nil)) (pe_callB (kCall (K := K) (r := uReprG) rfl (callu_reprG hr)) (by rfl) B.b_repr (by decide +kernel) (pa_cons (pv 1) pa_nil)) (nomark _)))) pss_nil)
 (pss_cons (ps_if (PW.pt (pw_or (pt_cmpR (kOp (K := K) (r := uNe) rfl (opu_ne hr.units)) (pe_callB (kCall (K := K) (r := uIsi) rfl callu_isi) (by rfl) B.b_isinstance (by decide +kernel) (pa_cons (pv 1) (pa_cons (pe_bltn (v := .ty "list") (by rfl) B.b_list (by decide +kernel) rfl) pa_nil))) (pe_callB (kCall (K := K) (r := uIsi) rfl callu_isi) (by rfl) B.b_isinstance (by decide +kernel) (pa_cons (pv 0) (pa_cons (pe_bltn (v := .ty "list") (by rfl) B.b_list (by decide +kernel) rfl) pa_nil))) (nomark _)) (pw_or1 (pt_cmpR (kOp (K := K) (r := uNe) rfl (opu_ne hr.units)) (pe_callB (kCall (K := K) (r := uIsi) rfl callu_isi) (by rfl) B.b_isinstance (by decide +kernel) (pa_cons (pv 1) (pa_cons (pe_bltn (v := .ty "tuple") (by rfl) B.b_tuple (by decide +kernel) rfl) pa_nil))) (pe_callB (kCall (K := K) (r := uIsi) rfl callu_isi) (by rfl) B.b_isinstance (by decide +kernel) (pa_cons (pv 0) (pa_cons (pe_bltn (v := .ty "tuple") (by rfl) B.b_tuple (by decide +kernel) rfl) pa_nil))) (nomark _))))) (pss_one (ps_ret pe_bl)) pss_nil)
 (pss_cons (ps_setLc (i := 2) (own := [("_law_one_here", 3), ("_law_other", 4)]) (g := gTup K 2 (gCons (gName 3) (gCons (gName 4) gNil))) (tt := tYes) rfl sc__law_same.nd rfl rfl (sw_true rfl rfl rfl (by decide +kernel)) (RZ.pi_zipA (by rfl) B.b_zip (pa_cons (pv 0) (pa_cons (pv 1) pa_nil))) (blkOk_by (own := [("_law_one_here", 3), ("_law_other", 4)]) (N := ["_law_found", "_law_due", "_law_same_here", "_law_one_here", "_law_other"]) (sc := defScope s__law_same) (by decide +kernel)) (fun _ _ _ _ _ => (by exact (pg_tupK (K := K) rfl rfl (pgs_cons (pg_name (i := 3) sc__law_same.nd rfl (by first | exact Or.inl rfl | exact Or.inr rfl)) (pgs_cons (pg_name (i := 4) sc__law_same.nd rfl (by first | exact Or.inl rfl | exact Or.inr rfl)) pgs_nil))))) (fun _ _ _ _ _ => pts_nil) (fun _ _ _ _ _ => (by exact (pe_calG C__law_same hr rfl (pa_cons (pv 3) (pa_cons (pv 4) pa_nil))))))
 (pss_one (ps_ret (pe_andTK (K := K) rfl (pe_cmpR (kOp (K := K) (r := uEq) rfl (opu_eq hr.units)) (pe_callB (kCall (K := K) (r := uLen) rfl callu_len) (by rfl) B.b_len (by decide +kernel) (pa_cons (pv 0) pa_nil)) (pe_callB (kCall (K := K) (r := uLen) rfl callu_len) (by rfl) B.b_len (by decide +kernel) (pa_cons (pv 1) pa_nil)) (nomark _)) (pe_one (pe_callB (kCall (K := K) (r := rAll) rfl (cr_all rfl)) (by rfl) B.b_all (by decide +kernel) (pa_cons (pv 2) pa_nil))))))))), rd_start (σ0 := [some x, some y, none, none, none]) rfl ?_⟩
 walk_at "q"
 refine ⟨le_of (by decide), fun p hp => ?_⟩
 have e1 : Fr [] H (upd H p (.tup [.ty "list", .ty "tuple"])) := Fr.new hp
 have hpt : (upd H p (.tup [.ty "list", .ty "tuple"])) p = some (.tup [.ty "list", .ty "tuple"]) := upd_same
 generalize upd H p (.tup [.ty "list", .ty "tuple"]) = H1 at *
 replace hx := dp_same e1.same hx
 replace hy := dp_same e1.same hy
 walk_at "q"
 by_cases hd : ∀ ds, d ≠ .list ds ∧ d ≠ .tuple ds
 ·obtain ⟨rfl, hsh, T, ty, k1, k2⟩ := same_leaf hx hy hs hd
  refine g_isi2 hpt ty k1 k2 ?_
  walk_at "q"
  refine g_reprS hsh ?_
  walk_at "q"
  refine g_reprS hsh ?_
  walk_at "q"
  rw [decide_eq_true rfl]
  exact q _ e1
 ·have hcase : (∃ ds, d = .list ds) ∨ (∃ ds, d = .tuple ds) := by
   cases d with
   | list ds => exact .inl ⟨ds, rfl⟩
   | tuple ds => exact .inr ⟨ds, rfl⟩
   | _ => exact absurd (fun ds => ⟨(fun z => nomatch z), (fun z => nomatch z)⟩) hd
  rcases hcase with ⟨ds, rfl⟩ | ⟨ds, rfl⟩
  ·obtain ⟨hs1, hs2⟩ := hs
   cases hx with
   | @lst a xs _ ha hxs =>
   cases hy with
   | @lst b ys _ hb hys =>
   refine g_isi2 hpt (tyx_l hb) (b1 := true) (b2 := false) (by decide +kernel) (by decide +kernel) ?_
   walk_at "q"
   refine g_isi (tyx_l hb) (b := true) (by decide +kernel) ?_
   walk_at "q"
   refine g_isi (tyx_l ha) (b := true) (by decide +kernel) ?_
   walk_at "q"
   refine g_isi (tyx_l hb) (b := false) (by decide +kernel) ?_
   walk_at "q"
   refine g_isi (tyx_l ha) (b := false) (by decide +kernel) ?_
   walk_at "q"
   have hl1 := dpa_len hxs
   have hl2 := dpa_len hys
   refine ⟨a, b, xs, ys, rfl, .inl ⟨ha, hb, fun D hD => lc_it (walk_zip (xs := xs) (ys := ys) (n := ds.length) (by omega)) (fun i H' => Fr [] H1 H' ∧ H' D = some (.lst (List.replicate i (.bl true)))) ⟨Fr.new hD, upd_same⟩ (fun i H' _ h => ⟨h.1.seq (fun z => nomatch z) ha, h.1.seq (fun z => nomatch z) hb⟩) (fun i z H' H'' hi h y => ?_) (fun H' h => ?_)⟩⟩
   ·obtain ⟨T, u, v, rfl, hT, rfl, hu, hv⟩ := y
    obtain ⟨h1, h2⟩ := h
    walk_at "q"
    refine ⟨rfl, ?_⟩
    walk_at "q"
    have eT : Fr [] H' (upd H' T (.tup [u, v])) := Fr.new hT
    obtain ⟨d1, hd1, q1⟩ := dpa_get hxs hu
    obtain ⟨d2, hd2, q2⟩ := dpa_get hys hv
    have ed : d1 = d2 := Option.some.inj (hd1.symm.trans hd2)
    subst ed
    refine ⟨u, v, d1, rfl, dp_same ((h1.trans eT).same) q1, dp_same ((h1.trans eT).same) q2, hs2 d1 (List.mem_of_getElem? hd1), fun H3 e3 => ?_⟩
    refine ⟨_, e3.at (eT.at h2 (fun z => nomatch z)) (fun z => nomatch z), lt_of (by rw [List.length_replicate]; omega), ((h1.trans eT).trans e3).over hD, ?_⟩
    rw [upd_same, List.replicate_succ']
   ·obtain ⟨h1, h2⟩ := h
    walk_at "q"
    refine g_len (.inl (h1.seq (fun z => nomatch z) ha)) ?_
    walk_at "q"
    refine g_len (.inl (h1.seq (fun z => nomatch z) hb)) ?_
    walk_at "q"
    rw [decide_eq_true (show (xs.length : Int) = ys.length by omega)]
    walk_at "q"
    refine ⟨D, List.replicate ds.length true, rfl, SqL.of (by rw [h2, List.map_replicate]), ?_⟩
    rw [show (List.replicate ds.length true).all id = true by simp]
    exact q _ (e1.trans h1)
  ·obtain ⟨hs1, hs2⟩ := hs
   cases hx with
   | @tup a xs _ ha hxs =>
   cases hy with
   | @tup b ys _ hb hys =>
   refine g_isi2 hpt (tyx_t hb) (b1 := false) (b2 := true) (by decide +kernel) (by decide +kernel) ?_
   walk_at "q"
   refine g_isi (tyx_t hb) (b := false) (by decide +kernel) ?_
   walk_at "q"
   refine g_isi (tyx_t ha) (b := false) (by decide +kernel) ?_
   walk_at "q"
   refine g_isi (tyx_t hb) (b := true) (by decide +kernel) ?_
   walk_at "q"
   refine g_isi (tyx_t ha) (b := true) (by decide +kernel) ?_
   walk_at "q"
   have hl1 := dpa_len hxs
   have hl2 := dpa_len hys
   refine ⟨a, b, xs, ys, rfl, .inr ⟨ha, hb, fun D hD => lc_it (walk_zipT (xs := xs) (ys := ys) (n := ds.length) (by omega)) (fun i H' => Fr [] H1 H' ∧ H' D = some (.lst (List.replicate i (.bl true)))) ⟨Fr.new hD, upd_same⟩ (fun i H' _ h => ⟨h.1.tup ha, h.1.tup hb⟩) (fun i z H' H'' hi h y => ?_) (fun H' h => ?_)⟩⟩
   ·obtain ⟨T, u, v, rfl, hT, rfl, hu, hv⟩ := y
    obtain ⟨h1, h2⟩ := h
    walk_at "q"
    refine ⟨rfl, ?_⟩
    walk_at "q"
    have eT : Fr [] H' (upd H' T (.tup [u, v])) := Fr.new hT
    obtain ⟨d1, hd1, q1⟩ := dpa_get hxs hu
    obtain ⟨d2, hd2, q2⟩ := dpa_get hys hv
    have ed : d1 = d2 := Option.some.inj (hd1.symm.trans hd2)
    subst ed
    refine ⟨u, v, d1, rfl, dp_same ((h1.trans eT).same) q1, dp_same ((h1.trans eT).same) q2, hs2 d1 (List.mem_of_getElem? hd1), fun H3 e3 => ?_⟩
    refine ⟨_, e3.at (eT.at h2 (fun z => nomatch z)) (fun z => nomatch z), lt_of (by rw [List.length_replicate]; omega), ((h1.trans eT).trans e3).over hD, ?_⟩
    rw [upd_same, List.replicate_succ']
   ·obtain ⟨h1, h2⟩ := h
    walk_at "q"
    refine g_len (.inr (h1.tup ha)) ?_
    walk_at "q"
    refine g_len (.inr (h1.tup hb)) ?_
    walk_at "q"
    rw [decide_eq_true (show (xs.length : Int) = ys.length by omega)]
    walk_at "q"
    refine ⟨D, List.replicate ds.length true, rfl, SqL.of (by rw [h2, List.map_replicate]), ?_⟩
    rw [show (List.replicate ds.length true).all id = true by simp]
    exact q _ (e1.trans h1)
end
def rankD : V → PyData
 | .bl b => .tuple [.int 2, .int (if b then 1 else 0), .str ""]
 | .int n => .tuple [.int 0, .int n, .str ""]
 | .str z => .tuple [.int 1, .int 0, .str z]
 | _ => .none
def Va (u : V) : Prop := ∃ k, ValOf k u
def sp_rank (K : PySem.W.Frag) : Sp := fun vs H Q _ => ∃ u, vs = [u] ∧ Va u ∧ ∀ y H', Fr [] H H' → Td K H' y (rankD u) → Q y H'
def sp__law_rank (K : PySem.W.Frag) : Sp := fun vs H Q _ => ∃ u, vs = [u] ∧ Va u ∧ ∀ y H', Fr [] H H' → Td K H' y (rankD u) → Q y H'
def sp_row_rank (K : PySem.W.Frag) : Sp := fun vs H Q _ => ∃ r us, vs = [.ref r] ∧ SqT K H r us ∧ (∀ u ∈ us, Va u) ∧ us.length ≤ 10 ∧ ∀ y H', Fr [] H H' → Td K H' y (.tuple (us.map rankD)) → Q y H'
def sp__law_row_rank (K : PySem.W.Frag) : Sp := fun vs H Q _ => ∃ r us, vs = [.ref r] ∧ SqT K H r us ∧ (∀ u ∈ us, Va u) ∧ us.length ≤ 10 ∧ ∀ p xs H', Fr [] H H' → H' p = some (.lst xs) → TdAll K H' xs (us.map rankD) → Q (.ref p) H'
theorem tda_snoc3 {K : PySem.W.Frag} {H : Hp} : ∀ {vs : List V} {ds : List PyData} {v : V} {d : PyData}, TdAll K H vs ds → Td K H v d → TdAll K H (vs ++ [v]) (ds ++ [d])
 | _, _, _, _, .nil, h => .cons h .nil
 | _, _, _, _, .cons a b, h => .cons a (tda_snoc3 b h)
theorem tda_len3 {K : PySem.W.Frag} {H : Hp} : ∀ {vs : List V} {ds : List PyData}, TdAll K H vs ds → vs.length = ds.length
 | _, _, .nil => rfl
 | _, _, .cons _ b => congrArg (· + 1) (tda_len3 b)
structure BiW (mg : Str → Option Value) : Prop where
 b_isinstance : mg "isinstance" = none
 b_bool : mg "bool" = none
 b_int : mg "int" = none
 b_tuple : mg "tuple" = none
abbrev s_rank : Stmt := topS 1
theorem sc_rank : FnScope ["value"] ["value"] (defScope s_rank) := ⟨rfl, rfl, rfl, by decide +kernel, rfl, by decide +kernel, by decide +kernel⟩
abbrev s_row_rank : Stmt := topS 2
theorem sc_row_rank : FnScope ["row", "value"] ["row"] (defScope s_row_rank) := ⟨rfl, rfl, rfl, by decide +kernel, rfl, by decide +kernel, by decide +kernel⟩
abbrev s__law_rank : Stmt := topS 11
theorem sc__law_rank : FnScope ["_law_value_here"] ["_law_value_here"] (defScope s__law_rank) := ⟨rfl, rfl, rfl, by decide +kernel, rfl, by decide +kernel, by decide +kernel⟩
abbrev s__law_row_rank : Stmt := topS 12
theorem sc__law_row_rank : FnScope ["_law_row", "_law_value_here"] ["_law_row"] (defScope s__law_row_rank) := ⟨rfl, rfl, rfl, by decide +kernel, rfl, by decide +kernel, by decide +kernel⟩
section
variable {P : Program} {w : World} {K : PySem.W.Frag} {mg : Str → Option Value} {base : Heap}
theorem ok_rank {f : Addr} {fd : FuncData} (F : FnP K "rank" s_rank f fd) (B : BiW mg) : FnG P w K mg base CX0 5 f fd ["value"] (sp_rank K) := by
 refine okG F sc_rank (fun vs H Q E h => ?_) (fun cdv A outer s H vs Q E hr h => ?_)
 ·obtain ⟨u, rfl, _⟩ := h
  rfl
 obtain ⟨u, rfl, ⟨k, hv⟩, q⟩ := h
 refine ⟨_, PSs.nox (pss_cons (ps_if (pt_val (pe_callB (kCall (K := K) (r := uIsi) rfl callu_isi) (by rfl) B.b_isinstance (by decide +kernel) (pa_cons (pv 0) (pa_cons (pe_bltn (v := .ty "bool") (by rfl) B.b_bool (by decide +kernel) rfl) pa_nil)))) (pss_one (ps_ret (pe_tup (pa_cons pe_int (pa_cons (pe_callTy callu_int (by rfl) B.b_int (by decide +kernel) (pa_cons (pv 0) pa_nil)) (pa_cons pe_str pa_nil)))))) pss_nil)
 (pss_one (ps_ret (pe_ifExp (pt_val (pe_callB (kCall (K := K) (r := uIsi) rfl callu_isi) (by rfl) B.b_isinstance (by decide +kernel) (pa_cons (pv 0) (pa_cons (pe_bltn (v := .ty "int") (by rfl) B.b_int (by decide +kernel) rfl) pa_nil)))) (pe_tup (pa_cons pe_int (pa_cons (pv 0) (pa_cons pe_str pa_nil)))) (pe_tup (pa_cons pe_int (pa_cons pe_int (pa_cons (pv 0) pa_nil)))))))), rd_start (σ0 := [some u]) rfl ?_⟩
 walk_at "q"
 rcases hv with ⟨rfl, n, rfl, _⟩ | ⟨rfl, c, rfl⟩ | ⟨rfl, x, rfl, _⟩
 ·refine g_isi (b := false) (.base (.int n)) (by decide +kernel) ?_
  walk_at "q"
  refine g_isi (b := true) (.base (.int n)) (by decide +kernel) ?_
  walk_at "q"
  refine ⟨le_of (by simp), fun p hp => ?_⟩
  exact q (.ref p) _ (Fr.new hp) (.tup (SqT.of upd_same) (.cons (.int 0) (.cons (.int n) (.cons (.str "") .nil))))
 ·refine g_isi (b := true) (.base (.bl c)) (by decide +kernel) ?_
  walk_at "q"
  refine g_intB ?_
  walk_at "q"
  refine ⟨le_of (by simp), fun p hp => ?_⟩
  exact q (.ref p) _ (Fr.new hp) (.tup (SqT.of upd_same) (.cons (.int 2) (.cons (.int _) (.cons (.str "") .nil))))
 ·refine g_isi (b := false) (.base (.str x)) (by decide +kernel) ?_
  walk_at "q"
  refine g_isi (b := false) (.base (.str x)) (by decide +kernel) ?_
  walk_at "q"
  refine ⟨le_of (by simp), fun p hp => ?_⟩
  exact q (.ref p) _ (Fr.new hp) (.tup (SqT.of upd_same) (.cons (.int 1) (.cons (.int 0) (.cons (.str x) .nil))))
theorem ok__law_rank {f : Addr} {fd : FuncData} (F : FnP K "_law_rank" s__law_rank f fd) (B : BiW mg) : FnG P w K mg base CX0 5 f fd ["_law_value_here"] (sp__law_rank K) := by
 refine okG F sc__law_rank (fun vs H Q E h => ?_) (fun cdv A outer s H vs Q E hr h => ?_)
 ·obtain ⟨u, rfl, _⟩ := h
  rfl
 obtain ⟨u, rfl, ⟨k, hv⟩, q⟩ := h
 refine ⟨_, PSs.nox (pss_cons (ps_if (pt_val (pe_callB (kCall (K := K) (r := uIsi) rfl callu_isi) (by rfl) B.b_isinstance (by decide +kernel) (pa_cons (pv 0) (pa_cons (pe_bltn (v := .ty "bool") (by rfl) B.b_bool (by decide +kernel) rfl) pa_nil)))) (pss_one (ps_ret (pe_tup (pa_cons pe_int (pa_cons (pe_callTy callu_int (by rfl) B.b_int (by decide +kernel) (pa_cons (pv 0) pa_nil)) (pa_cons pe_str pa_nil)))))) pss_nil)
 (pss_one (ps_ret (pe_ifExp (pt_val (pe_callB (kCall (K := K) (r := uIsi) rfl callu_isi) (by rfl) B.b_isinstance (by decide +kernel) (pa_cons (pv 0) (pa_cons (pe_bltn (v := .ty "int") (by rfl) B.b_int (by decide +kernel) rfl) pa_nil)))) (pe_tup (pa_cons pe_int (pa_cons (pv 0) (pa_cons pe_str pa_nil)))) (pe_tup (pa_cons pe_int (pa_cons pe_int (pa_cons (pv 0) pa_nil)))))))), rd_start (σ0 := [some u]) rfl ?_⟩
 walk_at "q"
 rcases hv with ⟨rfl, n, rfl, _⟩ | ⟨rfl, c, rfl⟩ | ⟨rfl, x, rfl, _⟩
 ·refine g_isi (b := false) (.base (.int n)) (by decide +kernel) ?_
  walk_at "q"
  refine g_isi (b := true) (.base (.int n)) (by decide +kernel) ?_
  walk_at "q"
  refine ⟨le_of (by simp), fun p hp => ?_⟩
  exact q (.ref p) _ (Fr.new hp) (.tup (SqT.of upd_same) (.cons (.int 0) (.cons (.int n) (.cons (.str "") .nil))))
 ·refine g_isi (b := true) (.base (.bl c)) (by decide +kernel) ?_
  walk_at "q"
  refine g_intB ?_
  walk_at "q"
  refine ⟨le_of (by simp), fun p hp => ?_⟩
  exact q (.ref p) _ (Fr.new hp) (.tup (SqT.of upd_same) (.cons (.int 2) (.cons (.int _) (.cons (.str "") .nil))))
 ·refine g_isi (b := false) (.base (.str x)) (by decide +kernel) ?_
  walk_at "q"
  refine g_isi (b := false) (.base (.str x)) (by decide +kernel) ?_
  walk_at "q"
  refine ⟨le_of (by simp), fun p hp => ?_⟩
  exact q (.ref p) _ (Fr.new hp) (.tup (SqT.of upd_same) (.cons (.int 1) (.cons (.int 0) (.cons (.str x) .nil))))
theorem lc_rank {r : Addr} {us : List V} {k : Nat} {σ : L2.St} {H1 : Hp} {D : Addr} {Qd : Hp → Prop} {sp : Sp} (hs : ∀ (u : V) (H : Hp) (Q : VK) (E : XK), Va u → (∀ y H', Fr [] H H' → Td K H' y (rankD u) → Q y H') → sp [u] H Q E)
  (hr : SqT K H1 r us) (hz : us.length ≤ 10) (hv : ∀ u ∈ us, Va u) (hD : H1 D = none) (hw : ∀ x, wipe ((wipe σ [k]).set k (some x)) [k] = wipe σ [k]) (hj : ∀ x, ((wipe σ [k]).set k (some x))[k]? = some (some x))
  (fin : ∀ H' xs, Fr [] H1 H' → H' D = some (.lst xs) → TdAll K H' xs (us.map rankD) → Qd H') :
  ∃ W : Nat → Nat → Hp → Prop, (∃ m, W 0 m (upd H1 D (.lst []))) ∧ ∀ i m H, W i m H →
   (((Itt K r).stop i H ∧ Qd H) ∨ ((Itt K r).go i H ∧ ∃ Nx : Hp → Prop, (∀ H', Nx H' → ∃ m', m' < m ∧ W (i + 1) m' H') ∧ ∀ x H', (Itt K r).yld i H x H' → gName k x (wipe σ [k]) H' fun σ2 H2 => wipe σ2 [k] = wipe σ [k] ∧ tYes σ2 H2 fun b H3 =>
    if b = true then tCall sp [] E0 (tCons (tVar k) tNil) σ2 H3 fun y H4 => ∃ acc, H4 D = some (.lst acc) ∧ acc.length < sizeLine ∧ Nx (upd H4 D (.lst (acc ++ [y]))) else Nx H3)) := by
 refine lc_it (walk_tup (xs := us)) (fun i H' => Fr [] H1 H' ∧ ∃ ys, H' D = some (.lst ys) ∧ TdAll K H' ys ((us.take i).map rankD)) ⟨Fr.new hD, [], upd_same, .nil⟩ (fun i H' _ h => h.1.tup hr) (fun i y H7 H8 hi h yy => ?_) (fun H' h => ?_)
 ·obtain ⟨rfl, hy⟩ := yy
  obtain ⟨e7, ys, h7, ht⟩ := h
  have hul : i < us.length := hi
  refine g_name ⟨hw _, ?_⟩
  show tCall sp [] E0 (tCons (tVar k) tNil) _ _ _
  refine g_call (g_cons (g_var (hj _) (g_nil ?_)))
  refine hs y _ _ _ (hv y (List.mem_of_getElem? hy)) fun z H9 e9 hz9 => ?_
  have h9 := e9.at h7 (fun z => nomatch z)
  have e10 : Fr [D] H9 (upd H9 D (.lst (ys ++ [z]))) := Fr.mut (List.mem_singleton.mpr rfl) h9 nofix_lst
  have yl := tda_len3 ht
  rw [List.length_map, List.length_take] at yl
  refine ⟨ys, h9, lt_of (by omega), (e7.trans e9).over hD, ys ++ [z], upd_same, ?_⟩
  rw [List.take_add_one, hy, List.map_append]
  exact (tda_snoc3 (ht.fr e9) hz9).fr e10
 ·obtain ⟨e7, ys, h7, ht⟩ := h
  rw [List.take_length] at ht
  exact fin H' ys e7 h7 ht
theorem ok_row_rank {f : Addr} {fd : FuncData} (F : FnP K "row_rank" s_row_rank f fd) (B : BiW mg) (C_rank : CalG P w K mg base 5 "rank" (sp_rank K)) : FnG P w K mg base CX0 7 f fd ["row"] (sp_row_rank K) := by
 refine okG F sc_row_rank (fun vs H Q E h => ?_) (fun cdv A outer s H vs Q E hr h => ?_)
 ·obtain ⟨r, us, rfl, _⟩ := h
  rfl
 obtain ⟨r, us, rfl, hs, hv, hz, q⟩ := h
 refine ⟨_, PSs.nox (pss_one (ps_ret (pe_callTy (kCall (K := K) (r := uTuple) rfl callu_tuple) (by rfl) B.b_tuple (by decide +kernel) (pa_cons (pe_lc (own := [("value", 1)]) (g := gName 1) (tt := tYes) rfl sc_row_rank.nd (pi_tupK (K := K) rfl (pv 0)) (blkOk_by (own := [("value", 1)]) (N := ["row", "value"]) (sc := defScope s_row_rank) (by decide +kernel)) (fun _ _ _ _ _ => (by exact (pg_name (i := 1) sc_row_rank.nd rfl (by first | exact Or.inl rfl | exact Or.inr rfl)))) (fun _ _ _ _ _ => pts_nil) (fun _ _ _ _ _ => (by exact (pe_calG C_rank hr rfl (pa_cons (pv 1) pa_nil))))) pa_nil)))), rd_start (σ0 := [some (.ref r), none]) rfl ?_⟩
 walk_at "q"
 refine ⟨r, rfl, ⟨_, hs⟩, fun D hD => lc_rank (fun u H Q E a b => ⟨u, rfl, a, b⟩) hs hz hv hD (fun _ => rfl) (fun _ => rfl) (fun H' xs e1 h1 ht => ?_)⟩
 walk_at "q"
 refine g_tupleL (SqL.of h1) fun p hp => ?_
 have e2 : Fr [] H' (upd H' p (.tup xs)) := Fr.new hp
 exact q (.ref p) _ (e1.trans e2) (.tup (SqT.of upd_same) (ht.fr e2))
theorem ok__law_row_rank {f : Addr} {fd : FuncData} (F : FnP K "_law_row_rank" s__law_row_rank f fd) (C__law_rank : CalG P w K mg base 5 "_law_rank" (sp__law_rank K)) : FnG P w K mg base CX0 7 f fd ["_law_row"] (sp__law_row_rank K) := by
 refine okG F sc__law_row_rank (fun vs H Q E h => ?_) (fun cdv A outer s H vs Q E hr h => ?_)
 ·obtain ⟨r, us, rfl, _⟩ := h
  rfl
 obtain ⟨r, us, rfl, hs, hv, hz, q⟩ := h
 refine ⟨_, PSs.nox (pss_one (ps_ret (pe_lc (own := [("_law_value_here", 1)]) (g := gName 1) (tt := tYes) rfl sc__law_row_rank.nd (pi_tupK (K := K) rfl (pv 0)) (blkOk_by (own := [("_law_value_here", 1)]) (N := ["_law_row", "_law_value_here"]) (sc := defScope s__law_row_rank) (by decide +kernel)) (fun _ _ _ _ _ => (by exact (pg_name (i := 1) sc__law_row_rank.nd rfl (by first | exact Or.inl rfl | exact Or.inr rfl)))) (fun _ _ _ _ _ => pts_nil) (fun _ _ _ _ _ => (by exact (pe_calG C__law_rank hr rfl (pa_cons (pv 1) pa_nil))))))), rd_start (σ0 := [some (.ref r), none]) rfl ?_⟩
 walk_at "q"
 refine ⟨r, rfl, ⟨_, hs⟩, fun D hD => lc_rank (fun u H Q E a b => ⟨u, rfl, a, b⟩) hs hz hv hD (fun _ => rfl) (fun _ => rfl) (fun H' xs e1 h1 ht => ?_)⟩
 exact q D xs H' e1 h1 ht
end
theorem WordP.tx {x : Str} (h : WordP x) : Tx 12 x := by
 obtain ⟨c, r, e, hc, hr, hl⟩ := h
 refine ⟨len_le12 ⟨c, r, e, hc, hr, hl⟩, fun d hd => ?_⟩
 rw [e] at hd
 rcases List.mem_cons.mp hd with rfl | hd
 ·unfold isLet at hc
  have := of_decide_eq_true hc
  omega
 ·have z := hr d hd
  unfold isLet isFig at z
  simp only [Bool.or_eq_true, decide_eq_true_eq] at z
  omega
theorem log1920 {i : Int} (h : i.natAbs < 10 ^ 30) : i.natAbs.log2 < 1920 := PySem.Flt.log2_lt_of (by decide) (Nat.lt_of_lt_of_le h (by decide))
theorem va_data {K : PySem.W.Frag} {H : Hp} {u : V} (h : Va u) (n : Nat) : Td K H u (scD u) ∧ Sm (n + 1) (scD u) := by
 obtain ⟨k, h⟩ := h
 rcases h with ⟨_, n, rfl, h1, h2⟩ | ⟨_, b, rfl⟩ | ⟨_, x, rfl, hx⟩
 ·exact ⟨.int n, log1920 (by omega)⟩
 ·exact ⟨.bl b, trivial⟩
 ·exact ⟨.str x, hx.tx.short (by decide)⟩
theorem va_all {K : PySem.W.Frag} {H : Hp} : ∀ {us : List V}, (∀ u ∈ us, Va u) → TdAll K H us (us.map scD)
 | [], _ => .nil
 | u :: r, h => .cons (va_data (h u List.mem_cons_self) 0).1 (va_all fun v hv => h v (List.mem_cons_of_mem _ hv))
theorem va_inv {K : PySem.W.Frag} {H : Hp} {u v : V} (h : Va u) (t : Td K H v (scD u)) : v = u := by
 obtain ⟨k, h⟩ := h
 rcases h with ⟨_, n, rfl, h1, h2⟩ | ⟨_, b, rfl⟩ | ⟨_, x, rfl, hx⟩
 ·cases t; rfl
 ·cases t; rfl
 ·cases t; rfl
theorem va_invs {K : PySem.W.Frag} {H : Hp} : ∀ {us xs : List V}, (∀ u ∈ us, Va u) → TdAll K H xs (us.map scD) → xs = us
 | [], _, _, .nil => rfl
 | u :: r, _, h, .cons a b => by rw [va_inv (h u List.mem_cons_self) a, va_invs (fun v hv => h v (List.mem_cons_of_mem _ hv)) b]
def rowD (vs : List V) : PyData := .tuple (vs.map scD)
theorem row_inv {K : PySem.W.Frag} {H : Hp} {y : V} {vs : List V} (hv : ∀ u ∈ vs, Va u) (t : Td K H y (rowD vs)) : ∃ r, y = .ref r ∧ SqT K H r vs := by
 obtain ⟨r, xs, rfl, hr, ha⟩ := Td.tuple_inv t
 rw [va_invs hv ha] at hr
 exact ⟨r, rfl, hr⟩
theorem rank_alike {u v : V} (h : Va u) (h' : Va v) : PySem.W.alike (rankD u) (rankD v) = true := by
 obtain ⟨k, h⟩ := h
 obtain ⟨k', h'⟩ := h'
 rcases h with ⟨_, n, rfl, _⟩ | ⟨_, b, rfl⟩ | ⟨_, x, rfl, _⟩ <;> rcases h' with ⟨_, n', rfl, _⟩ | ⟨_, b', rfl⟩ | ⟨_, x', rfl, _⟩ <;> simp [rankD, PySem.W.alike, PySem.W.alikeAll]
theorem rank_tup {u : V} (h : Va u) : ∃ x y, rankD u = .tuple (x :: y) := by
 obtain ⟨k, h⟩ := h
 rcases h with ⟨_, n, rfl, _⟩ | ⟨_, b, rfl⟩ | ⟨_, x, rfl, _⟩ <;> exact ⟨_, _, rfl⟩
theorem rank_depth {u : V} (h : Va u) : (rankD u).depth ≤ 1 := by
 obtain ⟨k, h⟩ := h
 rcases h with ⟨_, n, rfl, _⟩ | ⟨_, b, rfl⟩ | ⟨_, x, rfl, _⟩ <;> simp [rankD, PyData.depth, PyData.depthAll]
theorem ranks_alike : ∀ {us vs : List V}, (∀ u ∈ us, Va u) → (∀ u ∈ vs, Va u) → PySem.W.alikeAll (us.map rankD) (vs.map rankD) = true
 | [], _, _, _ => by simp [PySem.W.alikeAll]
 | _ :: _, [], _, _ => by simp [PySem.W.alikeAll]
 | u :: r, v :: s, h, k => by
  rw [List.map_cons, List.map_cons, PySem.W.alikeAll, rank_alike (h u List.mem_cons_self) (k v List.mem_cons_self), ranks_alike (fun x hx => h x (List.mem_cons_of_mem _ hx)) fun x hx => k x (List.mem_cons_of_mem _ hx)]
  rfl
theorem ranks_depth : ∀ {us : List V}, (∀ u ∈ us, Va u) → PyData.depthAll (us.map rankD) ≤ 1
 | [], _ => by simp [PyData.depthAll]
 | u :: r, h => by
  rw [List.map_cons, PyData.depthAll]
  have h1 := rank_depth (h u List.mem_cons_self)
  have h2 := ranks_depth fun x hx => h x (List.mem_cons_of_mem _ hx)
  omega
theorem pick_data {K : PySem.W.Frag} {H : Hp} {n : Nat} : ∀ {xs : List V}, (∀ x ∈ xs, ∃ d, Td K H x d ∧ Sm n d) → ∃ ds, TdAll K H xs ds ∧ ds.length = xs.length ∧ ∀ d ∈ ds, Sm n d
 | [], _ => ⟨[], .nil, rfl, fun _ z => nomatch z⟩
 | x :: r, h => by
  obtain ⟨d, h1, h2⟩ := h x List.mem_cons_self
  obtain ⟨ds, k1, k2, k3⟩ := pick_data fun y hy => h y (List.mem_cons_of_mem _ hy)
  refine ⟨d :: ds, .cons h1 k1, by rw [List.length_cons, List.length_cons, k2], fun e he => ?_⟩
  rcases List.mem_cons.mp he with rfl | he
  ·exact h2
  ·exact k3 e he
theorem tda_mem {K : PySem.W.Frag} {H : Hp} : ∀ {xs : List V} {ds : List PyData} {x : V}, TdAll K H xs ds → x ∈ xs → ∃ d ∈ ds, Td K H x d
 | _, _, _, .nil, h => nomatch h
 | _, _, _, .cons a b, h => by
  rcases List.mem_cons.mp h with rfl | h
  ·exact ⟨_, List.mem_cons_self, a⟩
  ·obtain ⟨d, h1, h2⟩ := tda_mem b h
   exact ⟨d, List.mem_cons_of_mem _ h1, h2⟩
theorem tda_at {K : PySem.W.Frag} {H : Hp} : ∀ {xs : List V} {ds : List PyData} {j : Nat} {x : V} {d : PyData}, TdAll K H xs ds → xs[j]? = some x → ds[j]? = some d → Td K H x d
 | _, _, _, _, _, .nil, h, _ => by simp at h
 | _, _, 0, _, _, .cons a b, h, k => by simp at h k; subst h k; exact a
 | _, _, j + 1, _, _, .cons a b, h, k => tda_at b (by simpa using h) (by simpa using k)
theorem cut_mem {us : List V} {lo hi : Option Int} {u : V} (h : u ∈ cutV us lo hi) : u ∈ us := List.mem_of_mem_drop (List.mem_of_mem_take h)
theorem row_sm {vs : List V} (n : Nat) (h : ∀ u ∈ vs, Va u) (hl : vs.length ≤ 10) : Sm (n + 2) (rowD vs) := ⟨by rw [List.length_map]; omega, fun d hd => by
 obtain ⟨u, hu, rfl⟩ := List.mem_map.mp hd
 exact (va_data (K := []) (H := fun _ => none) (h u hu) n).2⟩
theorem td_ty {K : PySem.W.Frag} {H : Hp} {y : V} {ds : List PyData} (h : Td K H y (.tuple ds)) : TyX K H y (.type "tuple") := by
 obtain ⟨a, xs, rfl, hs, _⟩ := Td.tuple_inv h
 exact tyx_t hs
abbrev s_law : Stmt := topS 13
theorem sc_law : FnScope ["_law_script", "_law_bag_here", "_law_k", "_law_values", "_law_due", "_law_found", "_law_rows", "_law_j", "_law_value_here"] ["_law_script"] (defScope s_law) := ⟨rfl, rfl, rfl, by decide +kernel, rfl, by decide +kernel, by decide +kernel⟩
def spLaw (K : PySem.W.Frag) : Sp := fun vs H Q _ => ∃ (a : Addr) (ns : List Int), vs = [.ref a] ∧ SqL K H a (ns.map V.int) ∧ ns.length ≤ 63 ∧ ∀ H', Q (.bl true) H'
structure BiK (mg : Str → Option Value) : Prop where
 b_range : mg "range" = none
 b_sorted : mg "sorted" = none
 b_tuple : mg "tuple" = none
 b_len : mg "len" = none
 b_all : mg "all" = none
 b_isinstance : mg "isinstance" = none
section
variable {K : PySem.W.Frag}
theorem sort_vals {sp : Sp} {f : Addr} {H : Hp} {Q : VK} {D : Addr} {us : List V} (hs : ∀ (u : V) (H : Hp) (Q : VK) (E : XK), Va u → (∀ y H', Fr [] H H' → Td K H' y (rankD u) → Q y H') → sp [u] H Q E) (hD : H D = some (.lst us)) (hv : ∀ u ∈ us, Va u)
  (q : ∀ p H', Fr [] H H' → H' p = none → Q (.ref p) (upd H' p (.lst (sortK us (us.map rankD))))) : rSortK K f sp [.ref D] [.ref f] H Q := by
 refine ⟨D, us, us.map rankD, rfl, rfl, SqL.of hD, (List.length_map _).symm, fun d hd d' hd' => ?_, .inl fun d hd => ?_, fun d hd => ?_, fun j x d hx hd H' Q' e' k => ?_, q⟩
 ·obtain ⟨u, hu, rfl⟩ := List.mem_map.mp hd
  obtain ⟨u', hu', rfl⟩ := List.mem_map.mp hd'
  exact rank_alike (hv u hu) (hv u' hu')
 ·obtain ⟨u, hu, rfl⟩ := List.mem_map.mp hd
  obtain ⟨x, y, e⟩ := rank_tup (hv u hu)
  exact ⟨_, e⟩
 ·obtain ⟨u, hu, rfl⟩ := List.mem_map.mp hd
  have := rank_depth (hv u hu)
  omega
 ·rw [List.getElem?_map, hx] at hd
  cases hd
  exact hs x H' Q' E0 (hv x (List.mem_of_getElem? hx)) fun y H2 e2 t => k y H2 e2 t.dp
theorem sort_rows {sp : Sp} {f : Addr} {H : Hp} {Q : VK} {D : Addr} {rs : List V} {vss : List (List V)} {g : List PyData → PyData} (hg : (∀ ds, g ds = .tuple ds) ∨ ∀ ds, g ds = .list ds)
  (hs : ∀ (r : Addr) (us : List V) (H : Hp) (Q : VK) (E : XK), SqT K H r us → (∀ u ∈ us, Va u) → us.length ≤ 10 → (∀ y H', Fr [] H H' → Dp K H' y (g (us.map rankD)) → Q y H') → sp [.ref r] H Q E)
  (hD : H D = some (.lst rs)) (ht : TdAll K H rs (vss.map rowD)) (hv : ∀ vs ∈ vss, (∀ u ∈ vs, Va u) ∧ vs.length ≤ 10)
  (q : ∀ p H', Fr [] H H' → H' p = none → Q (.ref p) (upd H' p (.lst (sortK rs (vss.map fun vs => g (vs.map rankD)))))) : rSortK K f sp [.ref D] [.ref f] H Q := by
 refine ⟨D, rs, vss.map fun vs => g (vs.map rankD), rfl, rfl, SqL.of hD, by rw [tda_len3 ht, List.length_map, List.length_map], fun d hd d' hd' => ?_, ?_, fun d hd => ?_, fun j x d hx hd H' Q' e' k => ?_, q⟩
 ·obtain ⟨u, hu, rfl⟩ := List.mem_map.mp hd
  obtain ⟨u', hu', rfl⟩ := List.mem_map.mp hd'
  have := ranks_alike (hv u hu).1 (hv u' hu').1
  rcases hg with hg | hg <;> (rw [hg, hg]; simpa [PySem.W.alike] using this)
 ·rcases hg with hg | hg
  ·exact .inl fun d hd => by
    obtain ⟨u, hu, rfl⟩ := List.mem_map.mp hd
    exact ⟨_, hg _⟩
  ·exact .inr (.inr fun d hd => by
    obtain ⟨u, hu, rfl⟩ := List.mem_map.mp hd
    rw [hg]
    exact And.intro (fun z => nomatch z) (fun _ z => nomatch z))
 ·obtain ⟨u, hu, rfl⟩ := List.mem_map.mp hd
  have := ranks_depth (hv u hu).1
  rcases hg with hg | hg <;> (rw [hg, PyData.depth]; omega)
 ·rw [List.getElem?_map] at hd
  cases hq : vss[j]? with
  | none => rw [hq] at hd; cases hd
  | some vs =>
   rw [hq] at hd
   cases hd
   obtain ⟨h1, h2⟩ := hv vs (List.mem_of_getElem? hq)
   obtain ⟨r, rfl, hr⟩ := row_inv h1 (tda_at ht hx (by rw [List.getElem?_map, hq]; rfl))
   exact hs r vs H' Q' E0 (e'.tup hr) h1 h2 k
end
section
variable {P : Program} {w : World} {K : PySem.W.Frag} {mg : Str → Option Value} {base : Heap} {f_rank f_row_rank f__law_rank f__law_row_rank : Addr}
theorem ok_law {f : Addr} {fd : FuncData} (F : FnP K "law" s_law f fd) (B : BiK mg) (C__law_bag : CalG P w K mg base 10 "_law_bag" (spBag K)) (C__law_pull : CalG P w K mg base 10 "_law_pull" spPull) (C__law_one : CalG P w K mg base 20 "_law_one" (spOne K)) (C__law_value : CalG P w K mg base 40 "_law_value" spValue) (C__law_same : CalG P w K mg base 5 "_law_same" (spSame K 5))
  (D_rank : CalF P w K mg base 5 "rank" f_rank (sp_rank K)) (D__law_rank : CalF P w K mg base 5 "_law_rank" f__law_rank (sp__law_rank K)) (D_row_rank : CalF P w K mg base 7 "row_rank" f_row_rank (sp_row_rank K)) (D__law_row_rank : CalF P w K mg base 7 "_law_row_rank" f__law_row_rank (sp__law_row_rank K)) :
  FnG P w K mg base CX0 100 f fd ["_law_script"] (spLaw K) := by
 refine okG F sc_law (fun vs H Q E h => ?_) (fun cdv A outer s H vs Q E hr h => ?_)
 ·obtain ⟨a, ns, rfl, _⟩ := h
  rfl
 obtain ⟨a, ns, rfl, hS, hl, q⟩ := h
 have C_rank := D_rank.g
 have C_row_rank := D_row_rank.g
 refine ⟨_, PSs.nox (pss_cons (ps_set (i := 1) sc_law.nd rfl (.inr rfl) (pe_calG C__law_bag hr rfl (pa_cons (pv 0) pa_nil)))
 (pss_cons (ps_for PassesOwn.never rfl (pi_range1 rfl B.b_range (pa_cons pe_int pa_nil)) (pg_name (i := 2) sc_law.nd rfl (by first | exact Or.inl rfl | exact Or.inr rfl)) (pss_cons (ps_set (i := 3) sc_law.nd rfl (.inr rfl) (pe_lc (own := [("_law_j", 7)]) (g := gName 7) (tt := tYes) rfl sc_law.nd (pi_range1 rfl B.b_range (pa_cons (pe_calG C__law_pull hr rfl (pa_cons (pv 1) (pa_cons pe_int pa_nil))) pa_nil)) (blkOk_by (own := [("_law_j", 7)]) (N := ["_law_script", "_law_bag_here", "_law_k", "_law_values", "_law_due", "_law_found", "_law_rows", "_law_j", "_law_value_here"]) (sc := defScope s_law) (by decide +kernel)) (fun _ _ _ _ _ => (by exact (pg_name (i := 7) sc_law.nd rfl (by first | exact Or.inl rfl | exact Or.inr rfl)))) (fun _ _ _ _ _ => pts_nil) (fun _ _ _ _ _ => (by exact (pe_calG C__law_value hr rfl (pa_cons (pv 1) (pa_cons (pe_calG C__law_one hr rfl (pa_cons (pv 1) (pa_cons (pe_lst (pa_cons pe_str (pa_cons pe_str (pa_cons pe_str pa_nil)))) pa_nil))) pa_nil)))))))
 (pss_cons (ps_set (i := 4) sc_law.nd rfl (.inl rfl) (pe_callBK (kCallK (K := K) (r := fun K => rSortK K f__law_rank (sp__law_rank K)) rfl (cr_sortF D__law_rank (hr.mono (by decide)))) (by rfl) B.b_sorted rfl (pa_cons (pv 3) pa_nil) (pk_cons (pe_glob (v := .ref f__law_rank) rfl D__law_rank.m rfl) pk_nil)))
 (pss_cons (ps_set (i := 5) sc_law.nd rfl (.inl rfl) (pe_callBK (kCallK (K := K) (r := fun K => rSortK K f_rank (sp_rank K)) rfl (cr_sortF D_rank (hr.mono (by decide)))) (by rfl) B.b_sorted rfl (pa_cons (pv 3) pa_nil) (pk_cons (pe_glob (v := .ref f_rank) rfl D_rank.m rfl) pk_nil)))
 (pss_cons (ps_if (pt_not (pt_val (pe_calG C__law_same hr rfl (pa_cons (pv 5) (pa_cons (pv 4) pa_nil))))) (pss_one (ps_ret pe_bl)) pss_nil)
 (pss_cons (ps_set (i := 6) sc_law.nd rfl (.inl rfl) (pe_op (kOp (K := K) (r := uAdd) rfl opu_add) (pe_lc (own := [("_law_j", 7)]) (g := gName 7) (tt := tYes) rfl sc_law.nd (pi_range1 rfl B.b_range (pa_cons pe_int pa_nil)) (blkOk_by (own := [("_law_j", 7)]) (N := ["_law_script", "_law_bag_here", "_law_k", "_law_values", "_law_due", "_law_found", "_law_rows", "_law_j", "_law_value_here"]) (sc := defScope s_law) (by decide +kernel)) (fun _ _ _ _ _ => (by exact (pg_name (i := 7) sc_law.nd rfl (by first | exact Or.inl rfl | exact Or.inr rfl)))) (fun _ _ _ _ _ => pts_nil) (fun _ _ _ _ _ => (by exact (pe_callTy (kCall (K := K) (r := uTuple) rfl callu_tuple) (by rfl) B.b_tuple (by decide +kernel) (pa_cons (pe_slice (kSl (K := K) (r := rSlL) rfl sl_list) (pv 3) po_none (po_some (pe_calG C__law_pull hr rfl (pa_cons (pv 1) (pa_cons (pe_op (kOp (K := K) (r := uAdd) rfl opu_add) (pe_callB (kCall (K := K) (r := uLen) rfl callu_len) (by rfl) B.b_len (by decide +kernel) (pa_cons (pv 3) pa_nil)) pe_int) pa_nil))))) pa_nil))))) (pe_lst (pa_cons (pe_callTy (kCall (K := K) (r := uTuple) rfl callu_tuple) (by rfl) B.b_tuple (by decide +kernel) (pa_cons (pv 3) pa_nil)) (pa_cons (pe_tup pa_nil) pa_nil)))))
 (pss_cons (ps_expr (kBM (K := K) rfl (pe_bm PySem.F.plainAttrs_list PySem.F.slot_list_append PySem.F.type_list_append mt_append (pv 6) (pa_cons (pe_callTy (kCall (K := K) (r := uTuple) rfl callu_tuple) (by rfl) B.b_tuple (by decide +kernel) (pa_cons (pe_slice (kSl (K := K) (r := rSlL) rfl sl_list) (pv 3) (po_some pe_int) po_none) pa_nil)) pa_nil))))
 (pss_cons (ps_if (pt_not (pt_val (pe_calG C__law_same hr rfl (pa_cons (pe_callBK (kCallK (K := K) (r := fun K => rSortK K f_row_rank (sp_row_rank K)) rfl (cr_sortF D_row_rank (hr.mono (by decide)))) (by rfl) B.b_sorted rfl (pa_cons (pv 6) pa_nil) (pk_cons (pe_glob (v := .ref f_row_rank) rfl D_row_rank.m rfl) pk_nil)) (pa_cons (pe_callBK (kCallK (K := K) (r := fun K => rSortK K f__law_row_rank (sp__law_row_rank K)) rfl (cr_sortF D__law_row_rank (hr.mono (by decide)))) (by rfl) B.b_sorted rfl (pa_cons (pv 6) pa_nil) (pk_cons (pe_glob (v := .ref f__law_row_rank) rfl D__law_row_rank.m rfl) pk_nil)) pa_nil))))) (pss_one (ps_ret pe_bl)) pss_nil)
 (pss_one (ps_if (PW.pt (pw_or (pt_not (pt_val (pe_callB (kCall (K := K) (r := rAll) rfl (cr_all rfl)) (by rfl) B.b_all (by decide +kernel) (pa_cons (pe_lc (own := [("_law_value_here", 8)]) (g := gName 8) (tt := tYes) rfl sc_law.nd (pi_listK (K := K) rfl (pv 3)) (blkOk_by (own := [("_law_value_here", 8)]) (N := ["_law_script", "_law_bag_here", "_law_k", "_law_values", "_law_due", "_law_found", "_law_rows", "_law_j", "_law_value_here"]) (sc := defScope s_law) (by decide +kernel)) (fun _ _ _ _ _ => (by exact (pg_name (i := 8) sc_law.nd rfl (by first | exact Or.inl rfl | exact Or.inr rfl)))) (fun _ _ _ _ _ => pts_nil) (fun _ _ _ _ _ => (by exact (pe_callB (kCall (K := K) (r := uIsi) rfl callu_isi) (by rfl) B.b_isinstance (by decide +kernel) (pa_cons (pe_calG C_rank hr rfl (pa_cons (pv 8) pa_nil)) (pa_cons (pe_bltn (v := .ty "tuple") (by rfl) B.b_tuple (by decide +kernel) rfl) pa_nil)))))) pa_nil)))) (pw_or1 (pt_not (pt_val (pe_callB (kCall (K := K) (r := uIsi) rfl callu_isi) (by rfl) B.b_isinstance (by decide +kernel) (pa_cons (pe_calG C_row_rank hr rfl (pa_cons (pe_ix (kIx (K := K) (r := rIx) rfl ix_seq) (pv 6) pe_int (fun _ _ => rfl)) pa_nil)) (pa_cons (pe_bltn (v := .ty "tuple") (by rfl) B.b_tuple (by decide +kernel) rfl) pa_nil)))))))) (pss_one (ps_ret pe_bl)) pss_nil))))))))))
 (pss_one (ps_ret pe_bl)))), rd_start (σ0 := [some (.ref a), none, none, none, none, none, none, none, none]) rfl ?_⟩
 walk_at "q"
 refine ⟨a, ns, rfl, hS, hl, fun b cs H1 hF1 hb1 hB1 => ?_⟩
 walk_at "q"
 refine ⟨4, rfl, by decide, by decide, for_range (lo := 0) (n := 4) (fun i σ H' => BagAt H' b cs ∧ ∃ z2 z3 z4 z5 z6 z7 z8, σ = [some (.ref a), some (.ref b), z2, z3, z4, z5, z6, z7, z8]) ⟨hB1, _, _, _, _, _, _, _, rfl⟩ (fun i σ H hi h => ?_) (fun σ H' h => ?_)⟩
 ·obtain ⟨hB0, z2, z3, z4, z5, z6, z7, z8, rfl⟩ := h
  walk_at "q"
  refine ⟨b, cs, _, rfl, hB0, by decide, by decide, fun dd H2 d0 d1 hB2 hF2 => ?_⟩
  obtain ⟨m, rfl⟩ : ∃ m : Nat, dd = (m : Int) := ⟨dd.toNat, by omega⟩
  walk_at "q"
  refine ⟨_, rfl, by omega, by omega, fun D hD => lc_it (walk_range (lo := 0) (n := m)) (fun i H' => BagAt H' b cs ∧ Fr [b] H2 H' ∧ ∃ (us : List V), H' D = some (.lst us) ∧ us.length = i ∧ ∀ u ∈ us, Va u)
   ⟨hB2.fr0 (Fr.new hD), Fr.new hD, [], upd_same, rfl, (fun _ z => nomatch z)⟩ (fun i H' _ h => trivial) (fun i x H' H'' hi h y => ?_) (fun H3 h => ?_)⟩
  ·obtain ⟨rfl, rfl⟩ := y
   obtain ⟨hBi, hFi, us, hDi, hul, huv⟩ := h
   have hDb := hB2.some hD
   have hDM : D ∉ [b] := fun z => hDb.1 (List.mem_singleton.mp z)
   walk_at "q"
   refine ⟨rfl, ?_⟩
   walk_at "q"
   refine ⟨le_of (by simp), fun p3 hp3 => ?_⟩
   have e3 : Fr [] H'' (upd H'' p3 (.lst [V.str "number", .str "word", .str "flag"])) := Fr.new hp3
   have hp31 : (upd H'' p3 (.lst [V.str "number", .str "word", .str "flag"])) p3 = some (.lst [.str "number", .str "word", .str "flag"]) := upd_same
   have hnb := (hBi.some hp3).1
   have hB3 := hBi.fr0 e3
   have hD3 := e3.at hDi (fun z => nomatch z)
   have F3 := hFi.trans e3.nil
   generalize upd H'' p3 (.lst [V.str "number", .str "word", .str "flag"]) = H3 at *
   walk_at "q"
   refine ⟨b, cs, p3, _, rfl, hB3, .inl ⟨SqL.of hp31, hnb⟩, by decide, by decide, fun v H4 hv hB4 e4 => ?_⟩
   obtain ⟨k, rfl, hk⟩ : ∃ k : Str, v = .str k ∧ (k = "number" ∨ k = "flag" ∨ k = "word") := by
    simp only [List.mem_cons, List.not_mem_nil, or_false] at hv
    rcases hv with rfl | rfl | rfl
    ·exact ⟨_, rfl, .inl rfl⟩
    ·exact ⟨_, rfl, .inr (.inr rfl)⟩
    ·exact ⟨_, rfl, .inr (.inl rfl)⟩
   refine ⟨b, cs, k, rfl, hk, hB4, fun u H5 hu hB5 e5 => ?_⟩
   have hD5 := e5.at (e4.at hD3 hDM) hDM
   have eD : Fr [D] H5 (upd H5 D (.lst (us ++ [u]))) := Fr.mut (List.mem_singleton.mpr rfl) hD5 nofix_lst
   refine ⟨us, hD5, lt_of (by omega), hB5.fr eD (fun z => hDb.1 (List.mem_singleton.mp z).symm) (fun z => hDb.2 (List.mem_singleton.mp z).symm), ((F3.trans e4).trans e5).over hD, us ++ [u], upd_same, by rw [List.length_append, hul]; rfl, fun x hx => ?_⟩
   rcases List.mem_append.mp hx with hx | hx
   ·exact huv x hx
   ·rw [List.mem_singleton.mp hx]; exact ⟨k, hu⟩
  ·obtain ⟨hB3, hF3, us, hD3, hul, huv⟩ := h
   have hDb := hB2.some hD
   have hDM : D ∉ [b] := fun z => hDb.1 (List.mem_singleton.mp z)
   have hul8 : us.length ≤ 8 := by omega
   clear hul
   walk_at "q"
   refine sort_vals (fun u H Q E h k => ⟨u, rfl, h, k⟩) hD3 huv fun p4 H4 e4 hp4 => ?_
   have e45 : Fr [] H4 (upd H4 p4 (.lst (sortK us (us.map rankD)))) := Fr.new hp4
   have h45 : (upd H4 p4 (.lst (sortK us (us.map rankD)))) p4 = some (.lst (sortK us (us.map rankD))) := upd_same
   have E5 := e4.trans e45
   have hD5 := E5.at hD3 (fun z => nomatch z)
   have hB5 := hB3.fr0 E5
   generalize upd H4 p4 (.lst (sortK us (us.map rankD))) = H5 at *
   walk_at "q"
   refine sort_vals (fun u H Q E h k => ⟨u, rfl, h, k⟩) hD5 huv fun p6 H6 e6 hp6 => ?_
   have e67 : Fr [] H6 (upd H6 p6 (.lst (sortK us (us.map rankD)))) := Fr.new hp6
   have h67 : (upd H6 p6 (.lst (sortK us (us.map rankD)))) p6 = some (.lst (sortK us (us.map rankD))) := upd_same
   have E7 := e6.trans e67
   have hD7 := E7.at hD5 (fun z => nomatch z)
   have h47 := E7.at h45 (fun z => nomatch z)
   have hB7 := hB5.fr0 E7
   generalize upd H6 p6 (.lst (sortK us (us.map rankD))) = H7 at *
   walk_at "q"
   have sv : ∀ u ∈ sortK us (us.map rankD), Va u := fun u hu => huv u ((sortK_perm us (us.map rankD) (by simp)).mem_iff.mp hu)
   have sl := (sortK_perm us (us.map rankD) (by simp)).length_eq
   generalize sortK us (us.map rankD) = zs at *
   refine ⟨.ref p6, .ref p4, .list (zs.map scD), rfl, .lst (SqL.of h67) (va_all sv).dp, .lst (SqL.of h47) (va_all sv).dp, ⟨by rw [List.length_map]; omega, fun d hd => ?_⟩, fun H8 e8 => ?_⟩
   ·obtain ⟨u, hu, rfl⟩ := List.mem_map.mp hd
    exact (va_data (K := K) (H := H7) (sv u hu) 3).2
   have hD8 := e8.at hD7 (fun z => nomatch z)
   have hB8 := hB7.fr0 e8
   walk_at "q"
   refine ⟨_, rfl, by decide, by decide, fun D2 hD2 => lc_it (walk_range (lo := 0) (n := 5)) (fun i H' => BagAt H' b cs ∧ Fr [b] H8 H' ∧ ∃ (rs : List V) (vss : List (List V)), H' D2 = some (.lst rs) ∧ TdAll K H' rs (vss.map rowD) ∧ vss.length = i ∧ ∀ vs ∈ vss, (∀ u ∈ vs, Va u) ∧ vs.length ≤ 10)
    ⟨hB8.fr0 (Fr.new hD2), Fr.new hD2, [], [], upd_same, .nil, rfl, (fun _ z => nomatch z)⟩ (fun i H' _ h => trivial) (fun i x H' H'' hi h y => ?_) (fun H9 h => ?_)⟩
   ·obtain ⟨rfl, rfl⟩ := y
    obtain ⟨hBi, hFi, rs, vss, hDi, hti, hvl, hvv⟩ := h
    have hDb2 := hB8.some hD2
    have hDM2 : D2 ∉ [b] := fun z => hDb2.1 (List.mem_singleton.mp z)
    walk_at "q"
    refine ⟨rfl, ?_⟩
    walk_at "q"
    have hDi3 := hFi.at hD8 hDM
    refine g_len (.inl (SqL.of hDi3)) ?_
    walk_at "q"
    refine ⟨b, cs, _, rfl, hBi, by omega, Int.lt_of_le_of_lt (b := 1000) (by omega) (by decide), fun c H4 c0 c1 hB4 hF4 => ?_⟩
    have hD4 := hF4.at hDi3 hDM
    have hD24 := hF4.at hDi hDM2
    refine ⟨c, rfl, g_slL (SqL.of hD4) fun p5 hp5 => ?_⟩
    have e5 : Fr [] H4 (upd H4 p5 (.lst (cutV us none (some c)))) := Fr.new hp5
    have h5 : (upd H4 p5 (.lst (cutV us none (some c)))) p5 = some (.lst (cutV us none (some c))) := upd_same
    have cv : ∀ u ∈ cutV us none (some c), Va u := fun u hu => huv u (cut_mem hu)
    have cl := cutV_length us none (some c)
    generalize cutV us none (some c) = vs at *
    have hB5 := hB4.fr0 e5
    have hD25 := e5.at hD24 (fun z => nomatch z)
    have F5 := (hFi.trans hF4).trans e5.nil
    have ht5 := (hti.fr hF4).fr e5
    generalize upd H4 p5 (.lst vs) = H5 at *
    walk_at "q"
    refine g_tupleL (SqL.of h5) fun p6 hp6 => ?_
    have e6 : Fr [] H5 (upd H5 p6 (.tup vs)) := Fr.new hp6
    have h6 : SqT K (upd H5 p6 (.tup vs)) p6 vs := SqT.of upd_same
    have hB6 := hB5.fr0 e6
    have hD26 := e6.at hD25 (fun z => nomatch z)
    have F6 := F5.trans e6.nil
    have ht6 := ht5.fr e6
    generalize upd H5 p6 (.tup vs) = H6 at *
    have eD : Fr [D2] H6 (upd H6 D2 (.lst (rs ++ [.ref p6]))) := Fr.mut (List.mem_singleton.mpr rfl) hD26 nofix_lst
    have rl := tda_len3 hti
    rw [List.length_map] at rl
    refine ⟨rs, hD26, lt_of (by omega), hB6.fr eD (fun z => hDb2.1 (List.mem_singleton.mp z).symm) (fun z => hDb2.2 (List.mem_singleton.mp z).symm), F6.over hD2, rs ++ [.ref p6], vss ++ [vs], upd_same, ?_, by rw [List.length_append, hvl]; rfl, fun x hx => ?_⟩
    ·rw [List.map_append]
     exact (tda_snoc3 ht6 (show Td K H6 (.ref p6) (rowD vs) from .tup h6 (va_all cv))).fr eD
    ·rcases List.mem_append.mp hx with hx | hx
     ·exact hvv x hx
     ·rw [List.mem_singleton.mp hx]; exact ⟨cv, by omega⟩
   ·obtain ⟨hB9, hF9, rs, vss, hD29, ht9, hvl, hvv⟩ := h
    have hD9 := hF9.at hD8 hDM
    walk_at "q"
    refine g_tupleL (SqL.of hD9) fun p10 hp10 => ?_
    have e10 : Fr [] H9 (upd H9 p10 (.tup us)) := Fr.new hp10
    have h10 : SqT K (upd H9 p10 (.tup us)) p10 us := SqT.of upd_same
    have hB10 := hB9.fr0 e10
    have hD10 := e10.at hD9 (fun z => nomatch z)
    have hD210 := e10.at hD29 (fun z => nomatch z)
    have ht10 := ht9.fr e10
    generalize upd H9 p10 (.tup us) = H10 at *
    walk_at "q"
    refine ⟨le_of (by simp), fun p11 hp11 => ?_⟩
    have e11 : Fr [] H10 (upd H10 p11 (.tup [])) := Fr.new hp11
    have h11 : SqT K (upd H10 p11 (.tup [])) p11 [] := SqT.of upd_same
    have hB11 := hB10.fr0 e11
    have hD11 := e11.at hD10 (fun z => nomatch z)
    have hD211 := e11.at hD210 (fun z => nomatch z)
    have ht11 := ht10.fr e11
    have h1011 := e11.tup h10
    generalize upd H10 p11 (.tup []) = H11 at *
    walk_at "q"
    refine ⟨le_of (by simp), fun p12 hp12 => ?_⟩
    have e12 : Fr [] H11 (upd H11 p12 (.lst [.ref p10, .ref p11])) := Fr.new hp12
    have h12 : (upd H11 p12 (.lst [.ref p10, .ref p11])) p12 = some (.lst [.ref p10, .ref p11]) := upd_same
    have hB12 := hB11.fr0 e12
    have hD12 := e12.at hD11 (fun z => nomatch z)
    have hD212 := e12.at hD211 (fun z => nomatch z)
    have ht12 := ht11.fr e12
    have h1012 := e12.tup h1011
    have h1112 := e12.tup h11
    generalize upd H11 p12 (.lst [.ref p10, .ref p11]) = H12 at *
    have rl := tda_len3 ht9
    rw [List.length_map] at rl
    walk_at "q"
    refine g_addL hD212 h12 (le_of (by simp; omega)) fun R hR => ?_
    have e13 : Fr [] H12 (upd H12 R (.lst (rs ++ [.ref p10, .ref p11]))) := Fr.new hR
    have hR13 : (upd H12 R (.lst (rs ++ [.ref p10, .ref p11]))) R = some (.lst (rs ++ [.ref p10, .ref p11])) := upd_same
    have hB13 := hB12.fr0 e13
    have hD13 := e13.at hD12 (fun z => nomatch z)
    have hRb := hB12.some hR
    have hRD : R ≠ D := fun e => by rw [e, hD12] at hR; cases hR
    have ht13 : TdAll K (upd H12 R (.lst (rs ++ [.ref p10, .ref p11]))) (rs ++ [.ref p10, .ref p11]) ((vss ++ [us, []]).map rowD) := by
     have hh := TdAll.fr e13 (tda_snoc3 (tda_snoc3 ht12 (show Td K H12 (.ref p10) (rowD us) from .tup h1012 (va_all huv))) (show Td K H12 (.ref p11) (rowD []) from .tup h1112 .nil))
     have e1 : (rs ++ [V.ref p10]) ++ [.ref p11] = rs ++ [V.ref p10, .ref p11] := by simp
     have e2 : (vss.map rowD ++ [rowD us]) ++ [rowD []] = (vss ++ [us, []]).map rowD := by simp
     rw [e1, e2] at hh
     exact hh
    have hv13 : ∀ vs ∈ vss ++ [us, []], (∀ u ∈ vs, Va u) ∧ vs.length ≤ 10 := fun vs hvs => by
     rcases List.mem_append.mp hvs with h | h
     ·exact hvv vs h
     ·simp only [List.mem_cons, List.not_mem_nil, or_false] at h
      rcases h with rfl | rfl
      ·exact ⟨huv, by omega⟩
      ·exact ⟨(fun _ z => nomatch z), by simp⟩
    have rl13 : (rs ++ [V.ref p10, .ref p11]).length ≤ 9 := by simp; omega
    generalize upd H12 R (.lst (rs ++ [.ref p10, .ref p11])) = H13 at *
    generalize (rs ++ [V.ref p10, .ref p11]) = rs2 at *
    generalize vss ++ [us, []] = vss2 at *
    walk_at "q"
    refine g_slL (SqL.of hD13) fun p14 hp14 => ?_
    have e14 : Fr [] H13 (upd H13 p14 (.lst (cutV us (some 1) none))) := Fr.new hp14
    have h14 : (upd H13 p14 (.lst (cutV us (some 1) none))) p14 = some (.lst (cutV us (some 1) none)) := upd_same
    have cv : ∀ u ∈ cutV us (some 1) none, Va u := fun u hu => huv u (cut_mem hu)
    have cl := cutV_length us (some 1) none
    generalize cutV us (some 1) none = ws at *
    have hB14 := hB13.fr0 e14
    have hD14 := e14.at hD13 (fun z => nomatch z)
    have hR14 := e14.at hR13 (fun z => nomatch z)
    have ht14 := ht13.fr e14
    generalize upd H13 p14 (.lst ws) = H14 at *
    walk_at "q"
    refine g_tupleL (SqL.of h14) fun p15 hp15 => ?_
    have e15 : Fr [] H14 (upd H14 p15 (.tup ws)) := Fr.new hp15
    have h15 : SqT K (upd H14 p15 (.tup ws)) p15 ws := SqT.of upd_same
    have hB15 := hB14.fr0 e15
    have hD15 := e15.at hD14 (fun z => nomatch z)
    have hR15 := e15.at hR14 (fun z => nomatch z)
    have ht15 := ht14.fr e15
    generalize upd H14 p15 (.tup ws) = H15 at *
    walk_at "q"
    refine ⟨R, rs2, .ref p15, rfl, rfl, hR15, lt_of (by omega), ?_⟩
    have e16 : Fr [R] H15 (upd H15 R (.lst (rs2 ++ [.ref p15]))) := Fr.mut (List.mem_singleton.mpr rfl) hR15 nofix_lst
    have hR16 : (upd H15 R (.lst (rs2 ++ [.ref p15]))) R = some (.lst (rs2 ++ [.ref p15])) := upd_same
    have hB16 := hB15.fr e16 (fun z => hRb.1 (List.mem_singleton.mp z).symm) (fun z => hRb.2 (List.mem_singleton.mp z).symm)
    have hD16 := e16.at hD15 (fun z => hRD (List.mem_singleton.mp z).symm)
    have ht16 : TdAll K (upd H15 R (.lst (rs2 ++ [.ref p15]))) (rs2 ++ [.ref p15]) ((vss2 ++ [ws]).map rowD) := by
     rw [List.map_append]
     exact (tda_snoc3 ht15 (show Td K H15 (.ref p15) (rowD ws) from .tup h15 (va_all cv))).fr e16
    have hv16 : ∀ vs ∈ vss2 ++ [ws], (∀ u ∈ vs, Va u) ∧ vs.length ≤ 10 := fun vs hvs => by
     rcases List.mem_append.mp hvs with h | h
     ·exact hv13 vs h
     ·rw [List.mem_singleton.mp h]; exact ⟨cv, by omega⟩
    have rl16 : (rs2 ++ [V.ref p15]).length ≤ 10 := by simp; omega
    have r0 : ∃ x0 xr v0 vr, rs2 ++ [V.ref p15] = x0 :: xr ∧ vss2 ++ [ws] = v0 :: vr := by
     have l := tda_len3 ht16
     rw [List.length_map] at l
     cases e1 : rs2 ++ [V.ref p15] with
     | nil => simp at e1
     | cons x0 xr =>
      cases e2 : vss2 ++ [ws] with
      | nil => simp at e2
      | cons v0 vr => exact ⟨_, _, _, _, rfl, rfl⟩
    generalize upd H15 R (.lst (rs2 ++ [.ref p15])) = H16 at *
    generalize (rs2 ++ [V.ref p15]) = rs3 at *
    generalize vss2 ++ [ws] = vss3 at *
    walk_at "q"
    refine sort_rows (g := .tuple) (.inl fun _ => rfl) (fun r us H Q E h h2 h3 k => ⟨r, us, rfl, h, h2, h3, fun y H' e t => k y H' e t.dp⟩) hR16 ht16 hv16 fun p17 H17 e17 hp17 => ?_
    have cg : sortK rs3 (vss3.map fun vs => PyData.tuple (vs.map rankD)) = sortK rs3 (vss3.map fun vs => PyData.list (vs.map rankD)) := sortK_congr fun a _ b _ => by rw [PySem.W.dataLt_tuple, PySem.W.dataLt_list]
    rw [cg]
    have sl := (sortK_perm rs3 (vss3.map fun vs => PyData.list (vs.map rankD)) (by rw [tda_len3 ht16, List.length_map, List.length_map])).length_eq
    have sm := fun {x} => (sortK_perm rs3 (vss3.map fun vs => PyData.list (vs.map rankD)) (by rw [tda_len3 ht16, List.length_map, List.length_map])).mem_iff (a := x)
    have e18 : Fr [] H17 (upd H17 p17 (.lst (sortK rs3 (vss3.map fun vs => PyData.list (vs.map rankD))))) := Fr.new hp17
    have h18 : (upd H17 p17 (.lst (sortK rs3 (vss3.map fun vs => PyData.list (vs.map rankD))))) p17 = some (.lst (sortK rs3 (vss3.map fun vs => PyData.list (vs.map rankD)))) := upd_same
    have E18 := e17.trans e18
    have hR18 := E18.at hR16 (fun z => nomatch z)
    have ht18 := ht16.fr E18
    generalize upd H17 p17 (.lst (sortK rs3 (vss3.map fun vs => PyData.list (vs.map rankD)))) = H18 at *
    walk_at "q"
    refine sort_rows (g := .list) (.inr fun _ => rfl) (fun r us H Q E h h2 h3 k => ⟨r, us, rfl, h, h2, h3, fun p xs H' e hp t => k (.ref p) H' e (.lst (SqL.of hp) t.dp)⟩) hR18 ht18 hv16 fun p19 H19 e19 hp19 => ?_
    have e20 : Fr [] H19 (upd H19 p19 (.lst (sortK rs3 (vss3.map fun vs => PyData.list (vs.map rankD))))) := Fr.new hp19
    have h20 : (upd H19 p19 (.lst (sortK rs3 (vss3.map fun vs => PyData.list (vs.map rankD))))) p19 = some (.lst (sortK rs3 (vss3.map fun vs => PyData.list (vs.map rankD)))) := upd_same
    have E20 := e19.trans e20
    have h1820 := E20.at h18 (fun z => nomatch z)
    have hR20 := E20.at hR18 (fun z => nomatch z)
    have ht20 := ht18.fr E20
    have E1620 := E18.trans E20
    have hB20 := hB16.fr0 E1620
    have hD20 := E1620.at hD16 (fun z => nomatch z)
    generalize upd H19 p19 (.lst (sortK rs3 (vss3.map fun vs => PyData.list (vs.map rankD)))) = H20 at *
    generalize sortK rs3 (vss3.map fun vs => PyData.list (vs.map rankD)) = zs2 at *
    obtain ⟨ds, k1, k2, k3⟩ := pick_data (K := K) (H := H20) (n := 4) (xs := zs2) fun x hx => by
     obtain ⟨d, hd, td⟩ := tda_mem ht20 (sm.mp hx)
     obtain ⟨vs, hvs, rfl⟩ := List.mem_map.mp hd
     exact ⟨_, td, row_sm 2 (hv16 vs hvs).1 (hv16 vs hvs).2⟩
    walk_at "q"
    refine ⟨.ref p17, .ref p19, .list ds, rfl, .lst (SqL.of h1820) k1.dp, .lst (SqL.of h20) k1.dp, ⟨by omega, k3⟩, fun H21 e21 => ?_⟩
    have hB21 := hB20.fr0 e21
    have hD21 := e21.at hD20 (fun z => nomatch z)
    have hR21 := e21.at hR20 (fun z => nomatch z)
    have ht21 := ht20.fr e21
    walk_at "q"
    refine ⟨D, rfl, ⟨_, SqL.of hD21⟩, fun D3 hD3 => lc_it (walk_list (xs := us)) (fun i H' => Fr [] H21 H' ∧ H' D3 = some (.lst ((List.replicate i true).map V.bl))) ⟨Fr.new hD3, upd_same⟩ (fun i H' _ h => SqL.of (h.1.at hD21 (fun z => nomatch z))) (fun i y H22 H23 hi h yy => ?_) (fun H22 h => ?_)⟩
    ·obtain ⟨rfl, hy⟩ := yy
     obtain ⟨e22, h22⟩ := h
     walk_at "q"
     refine ⟨rfl, ?_⟩
     walk_at "q"
     refine ⟨y, rfl, huv y (List.mem_of_getElem? hy), fun z H24 e24 tz => ?_⟩
     obtain ⟨x0, y0, er⟩ := rank_tup (huv y (List.mem_of_getElem? hy))
     rw [er] at tz
     walk_at "q"
     refine g_isi (b := true) (td_ty tz) (by decide +kernel) ?_
     refine ⟨_, e24.at h22 (fun z => nomatch z), lt_of (by rw [List.length_map, List.length_replicate]; omega), (e22.trans e24).over hD3, ?_⟩
     rw [upd_same, List.replicate_succ', List.map_append]
     rfl
    ·obtain ⟨e22, h22⟩ := h
     have hB22 := hB21.fr0 e22
     have hR22 := e22.at hR21 (fun z => nomatch z)
     have ht22 := ht21.fr e22
     walk_at "q"
     refine ⟨D3, List.replicate us.length true, rfl, SqL.of h22, ?_⟩
     have ea : (List.replicate us.length true).all id = true := by simp
     rw [ea]
     walk_at "q"
     obtain ⟨x0, xr, v0, vr, rfl, rfl⟩ := r0
     refine g_ixL (SqL.of hR22) (atI_nat (j := 0) rfl) ?_
     have hv0 := hv16 v0 List.mem_cons_self
     obtain ⟨r, rfl, hr0⟩ := row_inv hv0.1 (tda_at (j := 0) ht22 rfl rfl)
     walk_at "q"
     refine ⟨r, v0, rfl, hr0, hv0.1, hv0.2, fun y H23 e23 ty => ?_⟩
     walk_at "q"
     refine g_isi (b := true) (td_ty ty) (by decide +kernel) ?_
     walk_at "q"
     exact ⟨hB22.fr0 e23, _, _, _, _, _, _, _, rfl⟩
 ·obtain ⟨hB0, z2, z3, z4, z5, z6, z7, z8, rfl⟩ := h
  walk_at "q"
  exact q _
end
def d_rank : He.DefD := ⟨("rank", none), "rank", "rank", defArgs s_rank, defBody s_rank, defScope s_rank, [], []⟩
def d_row_rank : He.DefD := ⟨("row_rank", none), "row_rank", "row_rank", defArgs s_row_rank, defBody s_row_rank, defScope s_row_rank, [], []⟩
def d__law_bag : He.DefD := ⟨("_law_bag", none), "_law_bag", "_law_bag", defArgs s__law_bag, defBody s__law_bag, defScope s__law_bag, [], []⟩
def d__law_pull : He.DefD := ⟨("_law_pull", none), "_law_pull", "_law_pull", defArgs s__law_pull, defBody s__law_pull, defScope s__law_pull, [], []⟩
def d__law_one : He.DefD := ⟨("_law_one", none), "_law_one", "_law_one", defArgs s__law_one, defBody s__law_one, defScope s__law_one, [], []⟩
def d__law_same : He.DefD := ⟨("_law_same", none), "_law_same", "_law_same", defArgs s__law_same, defBody s__law_same, defScope s__law_same, [], []⟩
def d__law_word : He.DefD := ⟨("_law_word", none), "_law_word", "_law_word", defArgs s__law_word, defBody s__law_word, defScope s__law_word, [], []⟩
def d__law_number : He.DefD := ⟨("_law_number", none), "_law_number", "_law_number", defArgs s__law_number, defBody s__law_number, defScope s__law_number, [], []⟩
def d__law_value : He.DefD := ⟨("_law_value", none), "_law_value", "_law_value", defArgs s__law_value, defBody s__law_value, defScope s__law_value, [], []⟩
def d__law_rank : He.DefD := ⟨("_law_rank", none), "_law_rank", "_law_rank", defArgs s__law_rank, defBody s__law_rank, defScope s__law_rank, [], []⟩
def d__law_row_rank : He.DefD := ⟨("_law_row_rank", none), "_law_row_rank", "_law_row_rank", defArgs s__law_row_rank, defBody s__law_row_rank, defScope s__law_row_rank, [], []⟩
def d_law : He.DefD := ⟨("law", none), "law", "law", defArgs s_law, defBody s_law, defScope s_law, [], []⟩
def fnAll : List He.DefD := [d_rank, d_row_rank, d__law_bag, d__law_pull, d__law_one, d__law_same, d__law_word, d__law_number, d__law_value, d__law_rank, d__law_row_rank, d_law]
def faAll : List He.Fa := [.glo "rank", .glo "row_rank", .glo "_law_bag", .glo "_law_pull", .glo "_law_one", .glo "_law_same", .glo "_law_word", .glo "_law_number", .glo "_law_value", .glo "_law_rank", .glo "_law_row_rank", .glo "law", .free "len", .free "list", .free "range", .free "isinstance", .free "tuple", .free "repr", .free "zip", .free "all", .free "bool", .free "int", .free "sorted"]
def looseAll : List PySem.Str := (["rank", "row_rank", "_law_bag", "_law_pull", "_law_one", "_law_same", "_law_word", "_law_number", "_law_value", "_law_rank", "_law_row_rank"] : List PySem.Str)
def tsAll : List He.Tab := []
def exL (K : PySem.W.Frag) : List Bool := []
def exAll (K : PySem.W.Frag) : Bool := (exL K).all id
abbrev RR : PySem.W.OpenRow := PySem.W.OpenLaw.row PySem.Challenge.rw_sightlore_k02_order_of_values_and_rows
abbrev hk : PySem.W.Hook := SL.hookY 4 faAll fnAll tsAll exAll
def obAll (s : PySem.W.SharedT) : He.AlX := SL.obsY 4 faAll fnAll tsAll exAll (HandSHeadRun.getT s)
theorem ob_eq (s : PySem.W.SharedT) : obAll s = hk.obs s.abs := SL.obsY_eq (HandSHeadRun.getT_eq s)
theorem run (w : World) : HandSHeadRun.RunEq RR (PySem.W.view RR.prog [13]) hk obAll 4000 looseAll w := by
 refine PySem.W.byRow2 "special-get-raises" (P := fun w => HandSHeadRun.RunEq RR (PySem.W.view RR.prog [13]) hk obAll 4000 looseAll w) (fun w os => ?_) (fun w os => ?_) w
 ·kernel_rfl
 ·kernel_rfl
theorem facts {P : Program} {w : World} {K : PySem.W.Frag} {h : Heap} {mg : Str → Option Value} {f : Addr} (X : K.In h) (G : h.Ns mainGlobals mg) (hfa : mg ("law" : Str) = some (.ref f)) (c : SL.SaysY faAll fnAll tsAll exAll w K) :
  ∃ fd : FuncData, (∀ (s : Shared) (v : Value), BindsTo s fd ⟨[v], []⟩ [("_law_script", v)]) ∧ ∀ base : Heap, K.In base → base.Ns mainGlobals mg → FnG P w K mg base CX0 100 f fd ["_law_script"] (spLaw K) := by
 obtain ⟨fd_rank, F_rank⟩ := c.t.d.def_ 0 (d := d_rank) rfl
 have M_rank := He.glo_ok X G (c.t.d.fact 0 (f := .glo "rank") rfl)
 have b_rank : Binds K fd_rank ["value"] [] := F_rank.bindsN fun _ _ _ _ _ _ us hl => match us, hl with | [_], _ => rfl
 obtain ⟨fd_row_rank, F_row_rank⟩ := c.t.d.def_ 1 (d := d_row_rank) rfl
 have M_row_rank := He.glo_ok X G (c.t.d.fact 1 (f := .glo "row_rank") rfl)
 have b_row_rank : Binds K fd_row_rank ["row"] [] := F_row_rank.bindsN fun _ _ _ _ _ _ us hl => match us, hl with | [_], _ => rfl
 obtain ⟨fd__law_bag, F__law_bag⟩ := c.t.d.def_ 2 (d := d__law_bag) rfl
 have M__law_bag := He.glo_ok X G (c.t.d.fact 2 (f := .glo "_law_bag") rfl)
 have b__law_bag : Binds K fd__law_bag ["_law_script"] [] := F__law_bag.bindsN fun _ _ _ _ _ _ us hl => match us, hl with | [_], _ => rfl
 obtain ⟨fd__law_pull, F__law_pull⟩ := c.t.d.def_ 3 (d := d__law_pull) rfl
 have M__law_pull := He.glo_ok X G (c.t.d.fact 3 (f := .glo "_law_pull") rfl)
 have b__law_pull : Binds K fd__law_pull ["_law_bag_here", "_law_upto"] [] := F__law_pull.bindsN fun _ _ _ _ _ _ us hl => match us, hl with | [_, _], _ => rfl
 obtain ⟨fd__law_one, F__law_one⟩ := c.t.d.def_ 4 (d := d__law_one) rfl
 have M__law_one := He.glo_ok X G (c.t.d.fact 4 (f := .glo "_law_one") rfl)
 have b__law_one : Binds K fd__law_one ["_law_bag_here", "_law_row"] [] := F__law_one.bindsN fun _ _ _ _ _ _ us hl => match us, hl with | [_, _], _ => rfl
 obtain ⟨fd__law_same, F__law_same⟩ := c.t.d.def_ 5 (d := d__law_same) rfl
 have M__law_same := He.glo_ok X G (c.t.d.fact 5 (f := .glo "_law_same") rfl)
 have b__law_same : Binds K fd__law_same ["_law_found", "_law_due"] [] := F__law_same.bindsN fun _ _ _ _ _ _ us hl => match us, hl with | [_, _], _ => rfl
 obtain ⟨fd__law_word, F__law_word⟩ := c.t.d.def_ 6 (d := d__law_word) rfl
 have M__law_word := He.glo_ok X G (c.t.d.fact 6 (f := .glo "_law_word") rfl)
 have b__law_word : Binds K fd__law_word ["_law_bag_here"] [] := F__law_word.bindsN fun _ _ _ _ _ _ us hl => match us, hl with | [_], _ => rfl
 obtain ⟨fd__law_number, F__law_number⟩ := c.t.d.def_ 7 (d := d__law_number) rfl
 have M__law_number := He.glo_ok X G (c.t.d.fact 7 (f := .glo "_law_number") rfl)
 have b__law_number : Binds K fd__law_number ["_law_bag_here"] [] := F__law_number.bindsN fun _ _ _ _ _ _ us hl => match us, hl with | [_], _ => rfl
 obtain ⟨fd__law_value, F__law_value⟩ := c.t.d.def_ 8 (d := d__law_value) rfl
 have M__law_value := He.glo_ok X G (c.t.d.fact 8 (f := .glo "_law_value") rfl)
 have b__law_value : Binds K fd__law_value ["_law_bag_here", "_law_kind"] [] := F__law_value.bindsN fun _ _ _ _ _ _ us hl => match us, hl with | [_, _], _ => rfl
 obtain ⟨fd__law_rank, F__law_rank⟩ := c.t.d.def_ 9 (d := d__law_rank) rfl
 have M__law_rank := He.glo_ok X G (c.t.d.fact 9 (f := .glo "_law_rank") rfl)
 have b__law_rank : Binds K fd__law_rank ["_law_value_here"] [] := F__law_rank.bindsN fun _ _ _ _ _ _ us hl => match us, hl with | [_], _ => rfl
 obtain ⟨fd__law_row_rank, F__law_row_rank⟩ := c.t.d.def_ 10 (d := d__law_row_rank) rfl
 have M__law_row_rank := He.glo_ok X G (c.t.d.fact 10 (f := .glo "_law_row_rank") rfl)
 have b__law_row_rank : Binds K fd__law_row_rank ["_law_row"] [] := F__law_row_rank.bindsN fun _ _ _ _ _ _ us hl => match us, hl with | [_], _ => rfl
 obtain ⟨fd_law, F_law⟩ := c.t.d.def_ 11 (d := d_law) rfl
 have Z_len := He.free_ok X G (c.t.d.fact 12 (f := .free "len") rfl)
 have Z_list := He.free_ok X G (c.t.d.fact 13 (f := .free "list") rfl)
 have Z_range := He.free_ok X G (c.t.d.fact 14 (f := .free "range") rfl)
 have Z_isinstance := He.free_ok X G (c.t.d.fact 15 (f := .free "isinstance") rfl)
 have Z_tuple := He.free_ok X G (c.t.d.fact 16 (f := .free "tuple") rfl)
 have Z_repr := He.free_ok X G (c.t.d.fact 17 (f := .free "repr") rfl)
 have Z_zip := He.free_ok X G (c.t.d.fact 18 (f := .free "zip") rfl)
 have Z_all := He.free_ok X G (c.t.d.fact 19 (f := .free "all") rfl)
 have Z_bool := He.free_ok X G (c.t.d.fact 20 (f := .free "bool") rfl)
 have Z_int := He.free_ok X G (c.t.d.fact 21 (f := .free "int") rfl)
 have Z_sorted := He.free_ok X G (c.t.d.fact 22 (f := .free "sorted") rfl)
 have eL := hfa.symm.trans (He.glo_ok X G (c.t.d.fact 11 (f := .glo "law") rfl))
 cases eL
 have bL := FunD.bindsA (ps := ["_law_script"]) F_law fun _ _ _ _ _ _ us hl => match us, hl with | [_], _ => rfl
 refine ⟨fd_law, fun s v => bL s [v] rfl, fun base _ _ => ?_⟩
 have B : Bi mg := ⟨Z_len, Z_list, Z_range⟩
 have BS : BiS mg := ⟨Z_isinstance, Z_list, Z_tuple, Z_repr, Z_zip, Z_all, Z_len⟩
 have BW : BiW mg := ⟨Z_isinstance, Z_bool, Z_int, Z_tuple⟩
 have BK : BiK mg := ⟨Z_range, Z_sorted, Z_tuple, Z_len, Z_all, Z_isinstance⟩
 have C__law_bag := calG_of (P := P) (w := w) (base := base) (ok__law_bag F__law_bag B) M__law_bag F__law_bag.kp b__law_bag
 have C__law_pull := calG_of (P := P) (w := w) (base := base) (ok__law_pull F__law_pull B) M__law_pull F__law_pull.kp b__law_pull
 have C__law_one := calG_of (P := P) (w := w) (base := base) (ok__law_one F__law_one B C__law_pull) M__law_one F__law_one.kp b__law_one
 have C__law_word := calG_of (P := P) (w := w) (base := base) (ok__law_word F__law_word B C__law_pull C__law_one) M__law_word F__law_word.kp b__law_word
 have C__law_number := calG_of (P := P) (w := w) (base := base) (ok__law_number F__law_number C__law_pull) M__law_number F__law_number.kp b__law_number
 have C__law_value := calG_of (P := P) (w := w) (base := base) (ok__law_value F__law_value C__law_pull C__law_one C__law_word C__law_number) M__law_value F__law_value.kp b__law_value
 have R__law_same := calG_rec0 (P := P) (w := w) (base := base) (sp := spSame K) (fun vs H Q E h => by obtain ⟨x, y, d, rfl, _, _, hm, _⟩ := h; exact sm_zero hm) M__law_same F__law_same.kp b__law_same fun n C => ok__law_same F__law_same BS C
 have D_rank : CalF P w K mg base _ "rank" _ _ := ⟨M_rank, fd_rank, ["value"], ok_rank F_rank BW, F_rank.kp, b_rank⟩
 have D__law_rank : CalF P w K mg base _ "_law_rank" _ _ := ⟨M__law_rank, fd__law_rank, ["_law_value_here"], ok__law_rank F__law_rank BW, F__law_rank.kp, b__law_rank⟩
 have D_row_rank : CalF P w K mg base _ "row_rank" _ _ := ⟨M_row_rank, fd_row_rank, ["row"], ok_row_rank F_row_rank BW D_rank.g, F_row_rank.kp, b_row_rank⟩
 have D__law_row_rank : CalF P w K mg base _ "_law_row_rank" _ _ := ⟨M__law_row_rank, fd__law_row_rank, ["_law_row"], ok__law_row_rank F__law_row_rank D__law_rank.g, F__law_row_rank.kp, b__law_row_rank⟩
 exact ok_law F_law BK C__law_bag C__law_pull C__law_one C__law_value (R__law_same 5) D_rank D__law_rank D_row_rank D__law_row_rank
end LW
open PySem PySem.W PySem.Calls PyProof.Rows
set_option maxHeartbeats 0 in
theorem PySem.Challenge.cw_sightlore_k02_order_of_values_and_rows_holds : PySem.Challenge.rw_sightlore_k02_order_of_values_and_rows.Holds := by
 w_on; o_law
 refine HandSHeadRun.head_any (r := OpenLaw.row PySem.Challenge.rw_sightlore_k02_order_of_values_and_rows) (q := view (OpenLaw.row PySem.Challenge.rw_sightlore_k02_order_of_values_and_rows).prog [13]) (H := LW.hk) (ob := LW.obAll) (M := 4000) (loose := LW.looseAll) (d := HandSHeadRun.topDef (OpenLaw.row PySem.Challenge.rw_sightlore_k02_order_of_values_and_rows).prog 13) (kwd := []) LW.ob_eq
  (by kernel_rfl) (fun s => by kernel_rfl) LW.run (by kernel_rfl) (by kernel_rfl) (by kernel_rfl) (by rfl) (by first | assumption | decide +kernel) (by decide +kernel) ⟨rfl, rfl, rfl, rfl, rfl, by decide +kernel⟩ ?hw ?hc
 case hw => w_witness2
 case hc =>
  refine SL.walkG (l := PySem.Challenge.rw_sightlore_k02_order_of_values_and_rows) (n := 63) (k := 100) (x := "_law_script") rfl (by decide) (by kernel_rfl) ⟨rfl, by decide, by decide⟩ ?F
  intro w mg fa h Y G hmg0
  obtain ⟨K, KX, c⟩ := Y
  have hmg : mg ("law" : PySem.Str) = some (.ref fa) := by
   have e : (HandSHeadRun.topDef (OpenLaw.row PySem.Challenge.rw_sightlore_k02_order_of_values_and_rows).prog 13).name = ("law" : PySem.Str) := by kernel_rfl
   rw [← e]
   exact hmg0
  obtain ⟨fd, hb, hF⟩ := LW.facts (P := (PySem.Challenge.rw_sightlore_k02_order_of_values_and_rows).prog) (w := w) KX G hmg c
  exact ⟨K, fd, LW.spLaw K, KX, hb, fun H a ns hl hS => ⟨a, ns, rfl, hS, hl, fun _ => rfl⟩, hF⟩
