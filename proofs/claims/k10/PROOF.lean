import PyProof.Rows.All
import Wide.All
import OpenK.AllK
import Wide.FinOn
import HandS.ForMost
import HandS.Zip
import HandS.Flow
import HandS.Conv
import HandS.IsInst
import HandS.Codes
import HandS.Wide
import HandS.StrMore
import HandS.Defaults
import HandS.Exc
import HandS.HeadEnd
import HandS.HeadHook2
import HandS.Head2
import HandS.RaiseMore
import HandS.Walk
import HandS.FStr
import HandS.HeadHook3
import HandS.HeadHook4
import HandS.TupAny
import HandS.SetFor
import HandS.DictComp
import HandS.ExcInit
import HandS.ExcIs
import KE.KExcIs
import HandS.ExcField
import HandS.ExcOwn
import HandS.WordsExc
import HandS.SetBool
import HandS.SetKeys
import KE.GoesEnum
import KE.GoesMore
import KE.DataMinMax
import KE.SortKeyHeap
import HandS.SortKw
import HandS.Keys
import HandS.MakeKwOnly
import HandS.ReplaceLit
import PyProof.StrReplace2
import PyProof.StrOps2
import PyProof.MeetsStr3
import PySem.Challenge.RW_sightlore_k10_refusals_by_themselves
set_option Elab.async false
set_option linter.all false
set_option maxRecDepth 100000
set_option maxHeartbeats 2000000
namespace SL
open PySem PySem.Spec PyProof.Rows L2
def Fix : HO → Prop
 | .tup _ => True
 | .frz _ (.tup _) => True
 | _ => False
def Fr (M : List Addr) (H H' : Hp) : Prop := ∀ a o, H a = some o → (a ∉ M ∨ Fix o) → H' a = some o
theorem Fr.refl {M : List Addr} {H : Hp} : Fr M H H := fun _ _ h _ => h
theorem Fr.trans {M : List Addr} {H H1 H2 : Hp} (a : Fr M H H1) (b : Fr M H1 H2) : Fr M H H2 := fun x o h z => b x o (a x o h z) z
theorem Fr.mono {M N : List Addr} {H H' : Hp} (h : Fr M H H') (s : ∀ a ∈ M, a ∈ N) : Fr N H H' := fun a o e z => h a o e (z.imp (fun n m => n (s a m)) id)
theorem Fr.nil {N : List Addr} {H H' : Hp} (h : Fr [] H H') : Fr N H H' := h.mono fun _ z => nomatch z
theorem Fr.new {M : List Addr} {H : Hp} {p : Addr} {o : HO} (h : H p = none) : Fr M H (upd H p o) := fun a u e _ => by
 rw [upd_ne (ne_of_none e h)]
 exact e
theorem Fr.mut {M : List Addr} {H : Hp} {p : Addr} {o u : HO} (hm : p ∈ M) (h : H p = some u) (hu : ¬ Fix u) : Fr M H (upd H p o) := fun a v e z => by
 by_cases c : a = p
 ·subst c
  rw [h] at e
  cases e
  rcases z with z | z
  ·exact absurd hm z
  ·exact absurd z hu
 ·rw [upd_ne c]
  exact e
theorem Fr.over {M : List Addr} {H H' : Hp} {p : Addr} {o : HO} (e : Fr M H H') (h : H p = none) : Fr M H (upd H' p o) := fun a u ha z => by
 rw [upd_ne (ne_of_none ha h)]
 exact e a u ha z
theorem Fr.same {H H' : Hp} (h : Fr [] H H') : Same H H' := fun b o e => h b o e (.inl (fun z => nomatch z))
theorem Fr.of_same {M : List Addr} {H H' : Hp} (h : Same H H') : Fr M H H' := fun a o e _ => h a o e
theorem Fr.at {M : List Addr} {H H' : Hp} {a : Addr} {o : HO} (h : Fr M H H') (e : H a = some o) (n : a ∉ M) : H' a = some o := h a o e (.inl n)
theorem Fr.back {M : List Addr} {H H' : Hp} {p : Addr} (e : Fr M H H') (hM : p ∉ M) (h : H' p = none) : H p = none := by
 cases q : H p with
 | none => rfl
 | some o =>
  rw [e p o q (.inl hM)] at h
  cases h
theorem Fr.tup {K : PySem.W.Frag} {M : List Addr} {H H' : Hp} {a : Addr} {xs : List V} (e : Fr M H H') (h : SqT K H a xs) : SqT K H' a xs := by
 rcases h with (h | ⟨o, h⟩) | h
 ·exact .inl (.inl (e a _ h (.inr trivial)))
 ·exact .inl (.inr ⟨o, e a _ h (.inr trivial)⟩)
 ·exact .inr h
theorem Fr.seq {K : PySem.W.Frag} {M : List Addr} {H H' : Hp} {a : Addr} {xs : List V} (e : Fr M H H') (n : a ∉ M) (h : SqL K H a xs) : SqL K H' a xs := by
 rcases h with (h | ⟨o, h⟩) | h
 ·exact .inl (.inl (e a _ h (.inl n)))
 ·exact .inl (.inr ⟨o, e a _ h (.inl n)⟩)
 ·exact .inr h
theorem nofix_lst {xs : List V} : ¬ Fix (.lst xs) := fun z => z
mutual
inductive Td (K : PySem.W.Frag) (H : Hp) : V → PyData → Prop
 | non : Td K H .non .none
 | bl (b : Bool) : Td K H (.bl b) (.bool b)
 | int (i : Int) : Td K H (.int i) (.int i)
 | str (x : Str) : Td K H (.str x) (.str x)
 | tup {a : Addr} {xs : List V} {ds : List PyData} : SqT K H a xs → TdAll K H xs ds → Td K H (.ref a) (.tuple ds)
inductive TdAll (K : PySem.W.Frag) (H : Hp) : List V → List PyData → Prop
 | nil : TdAll K H [] []
 | cons {v : V} {vs : List V} {d : PyData} {ds : List PyData} : Td K H v d → TdAll K H vs ds → TdAll K H (v :: vs) (d :: ds)
end
section
variable {K : PySem.W.Frag} {H H' : Hp} {M : List Addr}
mutual
theorem Td.fr (e : Fr M H H') : ∀ {v : V} {d : PyData}, Td K H v d → Td K H' v d
 | _, _, .non => .non
 | _, _, .bl b => .bl b
 | _, _, .int i => .int i
 | _, _, .str x => .str x
 | _, _, .tup h hs => .tup (e.tup h) (TdAll.fr e hs)
theorem TdAll.fr (e : Fr M H H') : ∀ {vs : List V} {ds : List PyData}, TdAll K H vs ds → TdAll K H' vs ds
 | _, _, .nil => .nil
 | _, _, .cons h hs => .cons (Td.fr e h) (TdAll.fr e hs)
end
mutual
theorem Td.dp : ∀ {v : V} {d : PyData}, Td K H v d → Dp K H v d
 | _, _, .non => .non
 | _, _, .bl b => .bl b
 | _, _, .int i => .int i
 | _, _, .str x => .str x
 | _, _, .tup h hs => .tup h (TdAll.dp hs)
theorem TdAll.dp : ∀ {vs : List V} {ds : List PyData}, TdAll K H vs ds → DpAll K H vs ds
 | _, _, .nil => .nil
 | _, _, .cons h hs => .cons (Td.dp h) (TdAll.dp hs)
end
theorem Td.tuple_inv {v : V} {ds : List PyData} (h : Td K H v (.tuple ds)) : ∃ a xs, v = .ref a ∧ SqT K H a xs ∧ TdAll K H xs ds := by
 cases h with
 | tup h1 h2 => exact ⟨_, _, rfl, h1, h2⟩
theorem TdAll.nil_inv {vs : List V} (h : TdAll K H vs []) : vs = [] := by cases h; rfl
theorem TdAll.cons_inv {vs : List V} {d : PyData} {ds : List PyData} (h : TdAll K H vs (d :: ds)) : ∃ v ws, vs = v :: ws ∧ Td K H v d ∧ TdAll K H ws ds := by
 cases h with
 | cons h1 h2 => exact ⟨_, _, rfl, h1, h2⟩
theorem Td.t1 {v : V} {a : PyData} (h : Td K H v (.tuple [a])) : ∃ p x, v = .ref p ∧ SqT K H p [x] ∧ Td K H x a := by
 obtain ⟨p, xs, rfl, hp, h⟩ := h.tuple_inv
 obtain ⟨x, xs, rfl, hx, h⟩ := h.cons_inv
 cases h.nil_inv
 exact ⟨p, x, rfl, hp, hx⟩
end
def uAdd (K : PySem.W.Frag) : R2 := fun x y H Q => match x, y with
 | .int i, .int j => Q (.int (i + j)) H
 | .str a, .str b => a.length + b.length ≤ sizeLine ∧ Q (.str (a ++ b)) H
 | .ref a, .ref b => rCat (.ref a) (.ref b) H Q ∨ rCatT K (.ref a) (.ref b) H Q
 | _, _ => False
def uSub : R2 := fun x y H Q => match x, y with
 | .int i, .int j => Q (.int (i - j)) H
 | _, _ => False
def uMul : R2 := fun x y H Q => match x, y with
 | .int i, .int j => IntMulOk i j ∧ Q (.int (i * j)) H
 | .ref a, .int k => rRep (.ref a) (.int k) H Q
 | .str a, .int k => 2 ≤ k ∧ k ≤ 1000 ∧ 0 < a.length ∧ a.length ≤ 1000 ∧ Q (.str ⟨(List.replicate k.toNat a.cps).foldl (· ++ ·) #[]⟩) H
 | _, _ => False
def uDiv : R2 := fun x y H Q => match x, y with
 | .int i, .int j => CDivW i j ∧ Q (.int (i / j)) H
 | _, _ => False
def uMod : R2 := fun x y H Q => match x, y with
 | .int i, .int j => 0 < j ∧ Q (.int (i % j)) H
 | _, _ => False
def uPow : R2 := fun x y H Q => match x, y with
 | .int i, .int j => CPow i j ∧ Q (.int (i ^ j.toNat)) H
 | _, _ => False
def rEqE (K : PySem.W.Frag) (x y : V) (H : Hp) (Q : Bool → Prop) : Prop :=
 (∃ a b xs, x = .ref a ∧ y = .ref b ∧ SqT K H a xs ∧ SqT K H b [] ∧ Q (decide (xs = []))) ∨ (∃ a b xs, x = .ref a ∧ y = .ref b ∧ SqL K H a xs ∧ SqL K H b [] ∧ Q (decide (xs = []))) ∨
 ∃ a b kvs, x = .ref a ∧ y = .ref b ∧ H a = some (.dK kvs) ∧ H b = some (.dK []) ∧ Q (decide (kvs = []))
def uEq (K : PySem.W.Frag) : R2 := fun x y H Q => (scal x y = true ∧ Q (.bl (decide (x = y))) H) ∨ rEqD K x y H Q ∨ rEqE K x y H fun b => Q (.bl b) H
def uNe (K : PySem.W.Frag) : R2 := fun x y H Q => (scal x y = true ∧ Q (.bl (!decide (x = y))) H) ∨ rNeD K x y H Q ∨ rEqE K x y H fun b => Q (.bl (!b)) H
def uLt (K : PySem.W.Frag) : R2 := fun x y H Q => match x, y with
 | .int i, .int j => Q (.bl (decide (i < j))) H
 | .str a, .str b => Q (.bl (decide (a.cps.toList < b.cps.toList))) H
 | _, _ => False
def uGt : R2 := fun x y H Q => match x, y with
 | .int i, .int j => Q (.bl (decide (j < i))) H
 | _, _ => False
def uLe : R2 := fun x y H Q => match x, y with
 | .int i, .int j => Q (.bl (decide (i ≤ j))) H
 | .str a, .str b => Q (.bl (!decide (b.cps.toList < a.cps.toList))) H
 | _, _ => False
def uGe : R2 := fun x y H Q => match x, y with
 | .int i, .int j => Q (.bl (decide (j ≤ i))) H
 | _, _ => False
section
variable {X : Cx}
theorem opu_add : OpR X (binaryOp .Add) (uAdd X.K) := by
 intro pins s σ H x y v u Q I rx ry h
 cases x <;> cases y <;> first
  | exact absurd h id
  | exact op_add pins s σ H _ _ v u Q I rx ry ⟨_, _, rfl, rfl, h⟩
  | exact op_add_str pins s σ H _ _ v u Q I rx ry ⟨_, _, rfl, rfl, h.1, h.2⟩
  | exact h.elim (fun h => op_cat pins s σ H _ _ v u Q I rx ry h) (fun h => op_catT pins s σ H _ _ v u Q I rx ry h)
theorem opu_sub : OpR X (binaryOp .Sub) uSub := by
 intro pins s σ H x y v u Q I rx ry h
 cases x <;> cases y <;> first
  | exact absurd h id
  | exact op_sub pins s σ H _ _ v u Q I rx ry ⟨_, _, rfl, rfl, h⟩
theorem foldl_size (c : Array Nat) : ∀ (m : Nat) (acc : Array Nat), ((List.replicate m c).foldl (· ++ ·) acc).size = acc.size + m * c.size
 | 0, acc => by simp
 | m + 1, acc => by
  rw [List.replicate_succ, List.foldl_cons, foldl_size c m, Array.size_append, Nat.succ_mul]
  omega
theorem op_repS : OpR X (binaryOp .Mult) (fun x y H Q => ∃ (a : Str) (k : Int), x = .str a ∧ y = .int k ∧ 2 ≤ k ∧ k ≤ 1000 ∧ 0 < a.length ∧ a.length ≤ 1000 ∧ Q (.str ⟨(List.replicate k.toNat a.cps).foldl (· ++ ·) #[]⟩) H) := by
 intro pins s σ H x y v u Q I rx ry h
 obtain ⟨a, k, rfl, rfl, h1, h2, h3, h4, q⟩ := h
 obtain ⟨t, rfl⟩ := rx
 obtain ⟨t', rfl⟩ := ry
 have hm : a.length * k.toNat ≤ 1000000 := Nat.le_trans (Nat.mul_le_mul h4 (show k.toNat ≤ 1000 by omega)) (by decide)
 refine PySem.P.mul_str ?_ (fun _ _ => ?_) (fun _ _ => ?_) ?_
 ·rw [decide_eq_false (show ¬ k < -(2 ^ 63) by omega), decide_eq_false (show ¬ k ≥ 2 ^ 63 by omega)]; rfl
 ·have e : ((2 : Int) ^ 63 - 1) / 1000 ≤ (2 ^ 63 - 1) / k := by
   rw [Int.le_ediv_iff_mul_le (by omega)]
   have : ((2 : Int) ^ 63 - 1) / 1000 * k ≤ (2 ^ 63 - 1) / 1000 * 1000 := Int.mul_le_mul_of_nonneg_left h2 (by decide)
   have e2 : ((2 : Int) ^ 63 - 1) / 1000 * 1000 ≤ 2 ^ 63 - 1 := by decide
   omega
  have e3 : (1000 : Int) ≤ (2 ^ 63 - 1) / 1000 := by decide
  omega
 ·exact decide_eq_false (by have := sizeLine_eq; omega)
 ·rw [if_neg (by omega), if_neg (by simp only [Bool.or_eq_true, beq_iff_eq]; omega)]
  refine ⟨?_, .str _, H, I.tok _, ⟨_, rfl⟩, q⟩
  show ((List.replicate k.toNat a.cps).foldl (· ++ ·) #[]).size ≤ sizeLine
  rw [foldl_size]
  have e : a.cps.size = a.length := rfl
  have e2 : (#[] : Array Nat).size = 0 := rfl
  have := sizeLine_eq
  rw [e, e2, Nat.mul_comm]
  omega
theorem opu_mul : OpR X (binaryOp .Mult) uMul := by
 intro pins s σ H x y v u Q I rx ry h
 cases x <;> cases y <;> first
  | exact absurd h id
  | exact (opI fun _ _ _ _ _ _ _ hc q => mul_int q hc : OpR X (binaryOp .Mult) (rI IntMulOk fun i j => .int (i * j))) pins s σ H _ _ v u Q I rx ry ⟨_, _, rfl, rfl, h.1, h.2⟩
  | exact op_rep pins s σ H _ _ v u Q I rx ry h
  | exact op_repS pins s σ H _ _ v u Q I rx ry ⟨_, _, rfl, rfl, h⟩
theorem opu_div : OpR X (binaryOp .FloorDiv) uDiv := by
 intro pins s σ H x y v u Q I rx ry h
 cases x <;> cases y <;> first
  | exact absurd h id
  | exact op_fdivW pins s σ H _ _ v u Q I rx ry ⟨_, _, rfl, rfl, h.1, h.2⟩
theorem opu_mod : OpR X (binaryOp .Mod) uMod := by
 intro pins s σ H x y v u Q I rx ry h
 cases x <;> cases y <;> first
  | exact absurd h id
  | exact op_mod pins s σ H _ _ v u Q I rx ry ⟨_, _, rfl, rfl, h.1, h.2⟩
theorem opu_pow : OpR X (binaryOp .Pow) uPow := by
 intro pins s σ H x y v u Q I rx ry h
 cases x <;> cases y <;> first
  | exact absurd h id
  | exact op_pow pins s σ H _ _ v u Q I rx ry ⟨_, _, rfl, rfl, h.1, h.2⟩
theorem nil_of {xs : List V} {its : List Value} (r : Vals xs its) : decide (its = []) = decide (xs = []) := by
 cases r <;> rfl
theorem nil_of_kv {xs : List (Key × V)} {vs : List (Key × Value)} (r : KV xs vs) : decide (vs = []) = decide (xs = []) := by
 cases r <;> rfl
theorem size0 {its : List Value} : (its.toArray.size == 0) = decide (its = []) := by cases its <;> rfl
theorem op_eqE (hu : X.A.units + 64 < cLine) : OpR X (compareOp .Eq) (fun x y H Q => rEqE X.K x y H fun b => Q (.bl b) H) := by
 intro pins s σ H x y v u Q I rx ry h
 have hu1 : X.A.units < cLine := by omega
 rcases h with ⟨a, b, xs, rfl, rfl, ha, hb, q⟩ | ⟨a, b, xs, rfl, rfl, ha, hb, q⟩ | ⟨a, b, kvs, rfl, rfl, ha, hb, q⟩
 ·cases rx; cases ry
  obtain ⟨its, r, p, _⟩ := I.tuple ha
  obtain ⟨its2, r2, p2, _⟩ := I.tuple hb
  cases r2
  refine SeqAt.RcAt.tuples (e := fun _ => true) p p2 hu1 (fun j _ h2 => absurd h2 (Nat.not_lt_zero j)) X.prog X.w _ _ ⟨.bl (decide (xs = [])), H, I, ?_, q⟩
  rw [← nil_of r, ← size0]
  simp [L2.RelV]
 ·cases rx; cases ry
  obtain ⟨its, r, p, _⟩ := I.list ha
  obtain ⟨its2, r2, p2, _⟩ := I.list hb
  cases r2
  cases its with
  | nil =>
   refine SeqAt.RcAt.lists (e := fun _ => true) p.isList p2.isList rfl hu1 (fun j _ h2 => absurd h2 (Nat.not_lt_zero j)) X.prog X.w _ _ ⟨.bl (decide (xs = [])), H, I, ?_, q⟩
   rw [← nil_of r]
   rfl
  | cons c cs =>
   refine SeqAt.RcAt.lists_lengths p.isList p2.isList (by simp) hu1 X.prog X.w _ _ ⟨.bl (decide (xs = [])), H, I, ?_, q⟩
   rw [← nil_of r]
   rfl
 ·cases rx; cases ry
  obtain ⟨_, ya, va, ra, da⟩ := dk_of I.hok ha
  obtain ⟨_, yb, vb, rb, db⟩ := dk_of I.hok hb
  cases rb
  refine PySem.W.keq_eq (r := true) ya yb da db hu1 (fun hl => ?_) ⟨.bl (decide (kvs = [])), H, I, ?_, q⟩
  ·cases va with
   | nil => exact .nil
   | cons c cs => cases hl
  ·rw [← nil_of_kv ra]
   cases va <;> rfl
theorem op_neE (hu : X.A.units + 64 < cLine) : OpR X (compareOp .NotEq) (fun x y H Q => rEqE X.K x y H fun b => Q (.bl (!b)) H) := by
 intro pins s σ H x y v u Q I rx ry h
 have hu1 : X.A.units < cLine := by omega
 rcases h with ⟨a, b, xs, rfl, rfl, ha, hb, q⟩ | ⟨a, b, xs, rfl, rfl, ha, hb, q⟩ | ⟨a, b, kvs, rfl, rfl, ha, hb, q⟩
 ·cases rx; cases ry
  obtain ⟨its, r, p, _⟩ := I.tuple ha
  obtain ⟨its2, r2, p2, _⟩ := I.tuple hb
  cases r2
  refine SeqAt.RcNeAt.tuples (e := fun _ => true) p p2 hu1 (fun j _ h2 => absurd h2 (Nat.not_lt_zero j)) X.prog X.w _ _ ⟨.bl (!decide (xs = [])), H, I, ?_, q⟩
  rw [← nil_of r, ← size0]
  simp [L2.RelV]
 ·cases rx; cases ry
  obtain ⟨its, r, p, _⟩ := I.list ha
  obtain ⟨its2, r2, p2, _⟩ := I.list hb
  cases r2
  cases its with
  | nil =>
   refine SeqAt.RcNeAt.lists (e := fun _ => true) p.isList p2.isList rfl hu1 (fun j _ h2 => absurd h2 (Nat.not_lt_zero j)) X.prog X.w _ _ ⟨.bl (!decide (xs = [])), H, I, ?_, q⟩
   rw [← nil_of r]
   rfl
  | cons c cs =>
   refine SeqAt.RcNeAt.lists_lengths p.isList p2.isList (by simp) hu1 X.prog X.w _ _ ⟨.bl (!decide (xs = [])), H, I, ?_, q⟩
   rw [← nil_of r]
   rfl
 ·cases rx; cases ry
  obtain ⟨_, ya, va, ra, da⟩ := dk_of I.hok ha
  obtain ⟨_, yb, vb, rb, db⟩ := dk_of I.hok hb
  cases rb
  refine PySem.W.keq_ne (r := true) ya yb da db hu1 (fun hl => ?_) ⟨.bl (!decide (kvs = [])), H, I, ?_, q⟩
  ·cases va with
   | nil => exact .nil
   | cons c cs => cases hl
  ·rw [← nil_of_kv ra]
   cases va <;> rfl
theorem opu_eq (hu : X.A.units + 64 < cLine) : OpR X (compareOp .Eq) (uEq X.K) := by
 intro pins s σ H x y v u Q I rx ry h
 exact h.elim (fun h => op_eq pins s σ H _ _ v u Q I rx ry h) (fun h => h.elim (fun h => op_eqD hu pins s σ H _ _ v u Q I rx ry h) (fun h => op_eqE hu pins s σ H _ _ v u Q I rx ry h))
theorem opu_ne (hu : X.A.units + 64 < cLine) : OpR X (compareOp .NotEq) (uNe X.K) := by
 intro pins s σ H x y v u Q I rx ry h
 exact h.elim (fun h => op_ne pins s σ H _ _ v u Q I rx ry h) (fun h => h.elim (fun h => op_neD hu pins s σ H _ _ v u Q I rx ry h) (fun h => op_neE hu pins s σ H _ _ v u Q I rx ry h))
theorem opu_lt : OpR X (compareOp .Lt) (uLt X.K) := by
 intro pins s σ H x y v u Q I rx ry h
 cases x <;> cases y <;> first
  | exact absurd h id
  | exact op_lt pins s σ H _ _ v u Q I rx ry ⟨_, _, rfl, rfl, h⟩
  | exact op_lt_str pins s σ H _ _ v u Q I rx ry ⟨_, _, rfl, rfl, h⟩
theorem opu_gt : OpR X (compareOp .Gt) uGt := by
 intro pins s σ H x y v u Q I rx ry h
 cases x <;> cases y <;> first
  | exact absurd h id
  | exact op_gt pins s σ H _ _ v u Q I rx ry ⟨_, _, rfl, rfl, h⟩
theorem opu_le : OpR X (compareOp .LtE) uLe := by
 intro pins s σ H x y v u Q I rx ry h
 cases x <;> cases y <;> first
  | exact absurd h id
  | exact op_le pins s σ H _ _ v u Q I rx ry ⟨_, _, rfl, rfl, h⟩
  | exact op_le_str pins s σ H _ _ v u Q I rx ry ⟨_, _, rfl, rfl, h⟩
end
end SL
set_option Elab.async false
set_option linter.all false
set_option maxRecDepth 100000
set_option maxHeartbeats 2000000
namespace SL
open PySem PySem.Spec PyProof.Rows L2
section
variable {K : PySem.W.Frag} {σ : L2.St} {H : Hp} {Q : VK} {R : Bool → Hp → Prop} {D : Ends} {v x y : V} {i : Nat} {ta tb tc te : TE} {t u : TT} {ts tu : TS} {r : R2} {G : TG}
theorem g_var (h : σ[i]? = some (some v)) (q : Q v H) : tVar i σ H Q := ⟨v, h, q⟩
theorem g_c (q : Q v H) : tC v σ H Q := q
theorem g_op (q : ta σ H fun x H1 => tb σ H1 fun y H2 => r x y H2 Q) : tOp r ta tb σ H Q := q
theorem g_un {ru : V → Hp → VK → Prop} (q : ta σ H fun x H1 => ru x H1 Q) : tUn ru ta σ H Q := q
theorem g_test (q : ta σ H fun x H' => ∃ k, x = .bl k ∧ R k H') : tTest ta σ H R := q
theorem g_B (q : ta σ H fun x H' => ∃ k, x = .bl k ∧ R k H') : tB ta σ H R := q
theorem g_k {A : Bool → Prop} {b : Bool} (q : A b) : ∃ k, V.bl b = V.bl k ∧ A k := ⟨b, rfl, q⟩
theorem g_and (q : t σ H fun c H1 => if c = true then u σ H1 R else R false H1) : tAnd t u σ H R := q
theorem g_or (q : t σ H fun c H1 => if c = true then R true H1 else u σ H1 R) : tOr t u σ H R := q
theorem g_not (q : t σ H fun c H1 => R (!c) H1) : tNot t σ H R := q
theorem g_ifE (q : t σ H fun c H1 => if c = true then ta σ H1 Q else tb σ H1 Q) : tIf t ta tb σ H Q := q
theorem g_seq (q : ts { D with nx := tu D } σ H) : tSeq ts tu D σ H := q
theorem g_asg (q : te σ H fun w H1 => G w σ H1 D.nx) : tAsg te G D σ H := q
theorem g_name {P : L2.St → Hp → Prop} (q : P (σ.set i (some v)) H) : gName i v σ H P := q
theorem g_sub {to ti : TE} {tset : TSet} {P : L2.St → Hp → Prop} (q : to σ H fun o H1 => ti σ H1 fun k H2 => tset o k v H2 fun H3 => P σ H3) : gSub to ti tset v σ H P := q
theorem g_if (q : t σ H fun b H1 => if b = true then ts D σ H1 else tu D σ H1) : tIfS t ts tu D σ H := q
theorem g_ret (q : te σ H D.rt) : tRet te D σ H := q
theorem g_next (q : D.nx σ H) : tNext D σ H := q
theorem g_drop (q : te σ H fun _ H1 => D.nx σ H1) : tDrop te D σ H := q
theorem g_nil {A : List V → Hp → Prop} (q : A [] H) : tNil σ H A := q
theorem g_cons {tr : TA} {A : List V → Hp → Prop} (q : ta σ H fun x H1 => tr σ H1 fun xs H2 => A (x :: xs) H2) : tCons ta tr σ H A := q
theorem g_tup {tl : TA} (q : tl σ H fun xs H1 => xs.length ≤ sizeLine ∧ ∀ p, H1 p = none → Q (.ref p) (upd H1 p (.tup xs))) : tTup tl σ H Q := q
theorem g_lst {tl : TA} (q : tl σ H fun xs H1 => xs.length ≤ sizeLine ∧ ∀ p, H1 p = none → Q (.ref p) (upd H1 p (.lst xs))) : tLst tl σ H Q := q
theorem g_cb {rc : List V → Hp → VK → Prop} {tl : TA} (q : tl σ H fun vs H1 => rc vs H1 Q) : tCB rc tl σ H Q := q
theorem g_call {sp : Sp} {dvs : List V} {E : XK} {tl : TA} (q : tl σ H fun vs H1 => sp (vs ++ dvs) H1 Q E) : tCall sp dvs E tl σ H Q := q
theorem g_sl {rs : V → Option Int → Option Int → Hp → VK → Prop} {tl th : TO} (q : te σ H fun x H1 => tl σ H1 fun l H2 => th σ H2 fun u H3 => rs x l u H3 Q) : tSl rs te tl th σ H Q := q
theorem g_noPart {A : Option Int → Hp → Prop} (q : A none H) : tNoPart σ H A := q
theorem g_part {A : Option Int → Hp → Prop} (q : te σ H fun x H1 => ∃ i, x = .int i ∧ A (some i) H1) : tPart te σ H A := q
theorem g_ki {A : Int → Prop} {i : Int} (q : A i) : ∃ k, V.int i = V.int k ∧ A k := ⟨i, rfl, q⟩
theorem g_for {wi : TI} (q : wi σ H fun J H1 => ∃ W : Nat → Nat → L2.St → Hp → Prop, (∃ m, W 0 m σ H1) ∧ ∀ i m σ H, W i m σ H →
 (J.stop i H ∧ D.nx σ H) ∨ (J.go i H ∧ ∃ N : L2.St → Hp → Prop, (∀ σ' H', N σ' H' → ∃ m', m' < m ∧ W (i + 1) m' σ' H') ∧ ∀ x H', J.yld i H x H' → G x σ H' fun σ2 H2 => ts { D with nx := N, ct := N, bk := D.nx } σ2 H2)) : tFor wi G ts D σ H := q
theorem g_iR1 {tl : TA} {S : It → Hp → Prop} (q : tl σ H fun vs H1 => ∃ j : Int, vs = [.int j] ∧ -(2 ^ 62) ≤ j ∧ j < 2 ^ 62 ∧ S (Itr 0 j.toNat) H1) : iRng1 tl σ H S := q
theorem g_iR2 {tl : TA} {S : It → Hp → Prop} (q : tl σ H fun vs H1 => ∃ i j : Int, vs = [.int i, .int j] ∧ (-(2 ^ 62) ≤ i ∧ i < 2 ^ 62 ∧ -(2 ^ 62) ≤ j ∧ j < 2 ^ 62) ∧ S (Itr i (j - i).toNat) H1) : iRng2 tl σ H S := q
theorem g_iL {S : It → Hp → Prop} (q : te σ H fun x H1 => ∃ a, x = .ref a ∧ (∃ xs, SqL K H1 a xs) ∧ S (Itl K a) H1) : iList K te σ H S := q
theorem g_iT {S : It → Hp → Prop} (q : te σ H fun x H1 => ∃ a, x = .ref a ∧ (∃ xs, SqT K H1 a xs) ∧ S (Itt K a) H1) : iTup K te σ H S := q
theorem g_lc {wi : TI} {vs : List Nat} (q : wi σ H fun J H1 => ∀ D, H1 D = none → ∃ W : Nat → Nat → Hp → Prop, (∃ m, W 0 m (upd H1 D (.lst []))) ∧ ∀ i m H, W i m H →
 (J.stop i H ∧ Q (.ref D) H) ∨ (J.go i H ∧ ∃ Nx : Hp → Prop, (∀ H', Nx H' → ∃ m', m' < m ∧ W (i + 1) m' H') ∧ ∀ x H', J.yld i H x H' → G x (wipe σ vs) H' fun σ2 H2 => wipe σ2 vs = wipe σ vs ∧ t σ2 H2 fun b H3 =>
  if b = true then te σ2 H3 fun y H4 => ∃ acc, H4 D = some (.lst acc) ∧ acc.length < sizeLine ∧ Nx (upd H4 D (.lst (acc ++ [y]))) else Nx H3)) : tLc wi G t te vs σ H Q := q
theorem g_gtup {p : Addr} {xs : List V} {n : Nat} {tt : TGs} {P : L2.St → Hp → Prop} (h : SqT K H p xs) (hl : xs.length = n) (q : tt xs σ H P) : gTup K n tt (.ref p) σ H P := ⟨p, xs, rfl, h, hl, q⟩
theorem g_gcons {xs : List V} {tt : TGs} {P : L2.St → Hp → Prop} (q : G v σ H fun σ' H' => tt xs σ' H' P) : gCons G tt (v :: xs) σ H P := ⟨v, xs, rfl, q⟩
theorem g_gnil {P : L2.St → Hp → Prop} (q : P σ H) : gNil [] σ H P := ⟨rfl, q⟩
theorem g_yes (q : R true H) : tYes σ H R := q
theorem g_andT (q : ta σ H fun x H1 => ∃ k, TruV K x H1 k ∧ if k = true then tb σ H1 Q else Q x H1) : tAndT K ta tb σ H Q := q
theorem g_orT (q : ta σ H fun x H1 => ∃ k, TruV K x H1 k ∧ if k = true then Q x H1 else tb σ H1 Q) : tOrT K ta tb σ H Q := q
theorem g_notT (q : ta σ H fun x H1 => ∃ k, TruV K x H1 k ∧ Q (.bl (!k)) H1) : tNotT K ta σ H Q := q
theorem g_truB {A : Bool → Prop} {b : Bool} (q : A b) : ∃ k, TruV K (.bl b) H k ∧ A k := ⟨b, rfl, q⟩
theorem g_addI {i j : Int} (q : Q (.int (i + j)) H) : uAdd K (.int i) (.int j) H Q := q
theorem g_addS {a b : Str} (h : a.length + b.length ≤ sizeLine) (q : Q (.str (a ++ b)) H) : uAdd K (.str a) (.str b) H Q := ⟨h, q⟩
theorem g_addL {a b : Addr} {xs ys : List V} (h : H a = some (.lst xs)) (h2 : H b = some (.lst ys)) (hs : xs.length + ys.length ≤ sizeLine) (q : ∀ p, H p = none → Q (.ref p) (upd H p (.lst (xs ++ ys)))) : uAdd K (.ref a) (.ref b) H Q :=
 .inl ⟨a, b, xs, ys, rfl, rfl, h, h2, hs, q⟩
theorem g_subI {i j : Int} (q : Q (.int (i - j)) H) : uSub (.int i) (.int j) H Q := q
theorem g_mulI {i j : Int} (h : IntMulOk i j) (q : Q (.int (i * j)) H) : uMul (.int i) (.int j) H Q := ⟨h, q⟩
theorem g_divI {i j : Int} (h : CDivW i j) (q : Q (.int (i / j)) H) : uDiv (.int i) (.int j) H Q := ⟨h, q⟩
theorem g_modI {i j : Int} (h : 0 < j) (q : Q (.int (i % j)) H) : uMod (.int i) (.int j) H Q := ⟨h, q⟩
theorem g_powI {i j : Int} (h : CPow i j) (q : Q (.int (i ^ j.toNat)) H) : uPow (.int i) (.int j) H Q := ⟨h, q⟩
theorem g_ltI {i j : Int} (q : Q (.bl (decide (i < j))) H) : uLt K (.int i) (.int j) H Q := q
theorem g_gtI {i j : Int} (q : Q (.bl (decide (j < i))) H) : uGt (.int i) (.int j) H Q := q
theorem g_leI {i j : Int} (q : Q (.bl (decide (i ≤ j))) H) : uLe (.int i) (.int j) H Q := q
theorem g_geI {i j : Int} (q : Q (.bl (decide (j ≤ i))) H) : uGe (.int i) (.int j) H Q := q
theorem dec_i {i j : Int} : decide (V.int i = V.int j) = decide (i = j) := by
 by_cases h : i = j
 ·rw [decide_eq_true h, h]; exact decide_eq_true rfl
 ·rw [decide_eq_false h]; exact decide_eq_false fun z => h (V.int.inj z)
theorem dec_s {i j : Str} : decide (V.str i = V.str j) = decide (i = j) := by
 by_cases h : i = j
 ·rw [decide_eq_true h, h]; exact decide_eq_true rfl
 ·rw [decide_eq_false h]; exact decide_eq_false fun z => h (V.str.inj z)
theorem dec_b {i j : Bool} : decide (V.bl i = V.bl j) = decide (i = j) := by
 by_cases h : i = j
 ·rw [decide_eq_true h, h]; exact decide_eq_true rfl
 ·rw [decide_eq_false h]; exact decide_eq_false fun z => h (V.bl.inj z)
theorem g_eqI {i j : Int} (q : Q (.bl (decide (i = j))) H) : uEq K (.int i) (.int j) H Q := .inl ⟨rfl, by rw [dec_i]; exact q⟩
theorem g_eqS {i j : Str} (q : Q (.bl (decide (i = j))) H) : uEq K (.str i) (.str j) H Q := .inl ⟨rfl, by rw [dec_s]; exact q⟩
theorem g_eqB {i j : Bool} (q : Q (.bl (decide (i = j))) H) : uEq K (.bl i) (.bl j) H Q := .inl ⟨rfl, by rw [dec_b]; exact q⟩
theorem g_eqD {d e : PyData} (h : Dp K H x d) (h2 : Dp K H y e) (hs : SeqAt.shaped d = true) (hs2 : SeqAt.shaped e = true) (q : Q (.bl (PyData.eqv d e)) H) : uEq K x y H Q := .inr (.inl ⟨d, e, h, h2, hs, hs2, q⟩)
theorem g_neI {i j : Int} (q : Q (.bl (!decide (i = j))) H) : uNe K (.int i) (.int j) H Q := .inl ⟨rfl, by rw [dec_i]; exact q⟩
theorem g_neS {i j : Str} (q : Q (.bl (!decide (i = j))) H) : uNe K (.str i) (.str j) H Q := .inl ⟨rfl, by rw [dec_s]; exact q⟩
theorem g_neB {i j : Bool} (q : Q (.bl (!decide (i = j))) H) : uNe K (.bl i) (.bl j) H Q := .inl ⟨rfl, by rw [dec_b]; exact q⟩
theorem g_neD {d e : PyData} (h : Dp K H x d) (h2 : Dp K H y e) (hs : SeqAt.shaped d = true) (hs2 : SeqAt.shaped e = true) (q : Q (.bl (!PyData.eqv d e)) H) : uNe K x y H Q := .inr (.inl ⟨d, e, h, h2, hs, hs2, q⟩)
theorem g_ixL {p : Addr} {xs : List V} {i : Int} (h : SqL K H p xs) (e : atI xs i = some v) (q : Q v H) : rIx K (.ref p) (.int i) H Q := .inl ⟨p, xs, i, v, rfl, rfl, h, e, q⟩
theorem g_ixT {p : Addr} {xs : List V} {i : Int} (h : SqT K H p xs) (e : atI xs i = some v) (q : Q v H) : rIx K (.ref p) (.int i) H Q := .inr (.inl ⟨p, xs, i, v, rfl, rfl, h, e, q⟩)
theorem g_ixS {z : Str} {i : Int} {c : Nat} (h : z.length ≤ sizeLine) (e : atI z.cps.toList i = some c) (q : Q (.str ⟨#[c]⟩) H) : rIx K (.str z) (.int i) H Q := .inr (.inr ⟨z, i, c, rfl, rfl, h, e, q⟩)
theorem g_setL {p : Addr} {xs : List V} {k : Int} {j : Nat} {P : Hp → Prop} (h : H p = some (.lst xs)) (e : ixN xs.length k = some j) (q : P (upd H p (.lst (xs.set j v)))) : rSetL (.ref p) (.int k) v H P := ⟨p, xs, k, j, rfl, rfl, h, e, q⟩
theorem g_slL {p : Addr} {xs : List V} {lo hi : Option Int} (h : SqL K H p xs) (q : ∀ p, H p = none → Q (.ref p) (upd H p (.lst (cutV xs lo hi)))) : rSlL K (.ref p) lo hi H Q := ⟨p, xs, rfl, h, q⟩
theorem cut0 (xs : List V) (n : Nat) : cutV xs none (some (n : Int)) = xs.take n := by
 unfold cutV
 rw [HT.sIx_none, HT.sIx_nat, List.drop_zero, Nat.sub_zero]
 by_cases h : n ≤ xs.length
 ·rw [Nat.min_eq_left h]
 ·rw [Nat.min_eq_right (by omega), List.take_length, List.take_of_length_le (by omega)]
theorem rd_start {tm : TS} {N : List Str} {vs : List V} {σ0 : L2.St} (e : start N vs = σ0) (q : tm D σ0 H) : tm D (start N vs) H := by rw [e]; exact q
theorem lt_of {n : Nat} (h : n ≤ 100000) : n < sizeLine := Nat.lt_of_le_of_lt h (by decide)
theorem le_of {n : Nat} (h : n ≤ 100000) : n ≤ sizeLine := Nat.le_trans h (by decide)
theorem g_tt {c : Bool} {A B : Prop} (h : c = true) (q : A) : if c = true then A else B := by rw [if_pos h]; exact q
theorem g_ff {c : Bool} {A B : Prop} (h : c = false) (q : B) : if c = true then A else B := by rw [if_neg (by rw [h]; exact Bool.false_ne_true)]; exact q
theorem g_by {c : Prop} [Decidable c] {A B : Prop} (h1 : c → A) (h2 : ¬ c → B) : if decide c = true then A else B := by
 by_cases h : c
 ·exact g_tt (decide_eq_true h) (h1 h)
 ·exact g_ff (decide_eq_false h) (h2 h)
theorem mulR {i j : Int} (h1 : -(2 ^ 64) < j) (h2 : j < 2 ^ 64) : IntMulOk i j := .of_right (intBits_le_64 h1 h2)
theorem mulL {i j : Int} (h1 : -(2 ^ 64) < i) (h2 : i < 2 ^ 64) : IntMulOk i j := .of_left (intBits_le_64 h1 h2)
theorem divS {i j : Int} (h : 0 < j) (h2 : j < 2 ^ 200) : CDivW i j := by
 refine ⟨h, ?_⟩
 have e : j.natAbs < 2 ^ 200 := by omega
 exact Nat.lt_of_lt_of_le (PySem.Flt.log2_lt_of (by decide) e) (by decide)
end
end SL
set_option Elab.async false
set_option linter.all false
set_option maxRecDepth 100000
set_option maxHeartbeats 2000000
namespace SL
open PySem PySem.Spec PyProof.Rows L2
structure Cal (P : Program) (w : World) (K : PySem.W.Frag) (mg : Str → Option Value) (base : Heap) (k : Nat) (x : Str) (sp : Sp) : Prop where
 ex : ∃ (f : Addr) (fd : FuncData) (ps : List Str), FnOk P w K mg base CX0 k f fd ps sp ∧ mg x = some (.ref f) ∧ PySem.W.keepIn K (.ref f) = true ∧ Binds K fd ps []
section
variable {P : Program} {w : World} {K : PySem.W.Frag} {mg : Str → Option Value} {base : Heap}
theorem Cal.mono {j k : Nat} {x : Str} {sp : Sp} (c : Cal P w K mg base j x sp) (h : j ≤ k) : Cal P w K mg base k x sp := by
 obtain ⟨f, fd, ps, F, m, kp, b⟩ := c.ex
 exact ⟨f, fd, ps, F.mono h, m, kp, b⟩
theorem Cal.imp {k : Nat} {x : Str} {sp sp' : Sp} (c : Cal P w K mg base k x sp) (h : ∀ vs H Q E, sp' vs H Q E → sp vs H Q E) : Cal P w K mg base k x sp' := by
 obtain ⟨f, fd, ps, F, m, kp, b⟩ := c.ex
 exact ⟨f, fd, ps, F.imp h, m, kp, b⟩
end
section
variable {X : Cx} {k j : Nat} {x : Str} {sp : Sp} {p pos : Pos} {e : Expr} {es : List Expr} {t : TA}
def uLen (K : PySem.W.Frag) : List V → Hp → VK → Prop := fun xs H Q => ∃ x, xs = [x] ∧ match x with
 | .str z => z.length ≤ sizeLine ∧ Q (.int z.length) H
 | .ref p => (∃ ys, (SqL K H p ys ∨ SqT K H p ys) ∧ Q (.int ys.length) H) ∨ ∃ kvs, H p = some (.dK kvs) ∧ Q (.int kvs.length) H
 | _ => False
theorem callu_len : CallR X (.builtin "len") (uLen X.K) := by
  intro pins s σ H xs us Q I r h
  obtain ⟨x, rfl, h⟩ := h
  cases x <;> first
    | exact absurd h id
    | exact call_len_str pins s σ H _ us Q I r ⟨_, rfl, h.1, h.2⟩
    | (rcases h with ⟨ys, h1, h2⟩ | ⟨kvs, h1, h2⟩
       · exact call_len_seq pins s σ H _ us Q I r ⟨_, ys, rfl, h1, h2⟩
       · obtain ⟨u, rfl, r1⟩ := vals1 r
         cases r1
         exact d_len I (.inl h1) fun t s' I' => ⟨.int _, H, I', ⟨_, rfl⟩, h2⟩)
def uList (K : PySem.W.Frag) : List V → Hp → VK → Prop := fun xs H Q => (∃ p ys, xs = [.ref p] ∧ (SqL K H p ys ∨ SqT K H p ys) ∧ ∀ l, H l = none → Q (.ref l) (upd H l (.lst ys))) ∨ rListD xs H Q
theorem callu_list (hc : X.calm = true := by rfl) : CallR X (.type "list") (uList X.K) := call_list_of.or (call_list_dK hc)
end
section
variable {K : PySem.W.Frag} {H : Hp} {Q : VK}
theorem g_len {p : Addr} {ys : List V} (h : SqL K H p ys ∨ SqT K H p ys) (q : Q (.int ys.length) H) : uLen K [.ref p] H Q := ⟨_, rfl, .inl ⟨ys, h, q⟩⟩
theorem g_list {p : Addr} {ys : List V} (h : SqL K H p ys ∨ SqT K H p ys) (q : ∀ l, H l = none → Q (.ref l) (upd H l (.lst ys))) : uList K [.ref p] H Q := .inl ⟨p, ys, rfl, h, q⟩
end
end SL
namespace SL
open PySem PySem.Spec PyProof.Rows L2
section
variable {K : PySem.W.Frag} {H : Hp} {Q : VK} {x : V}
end
section
variable {K : PySem.W.Frag} {H H' : Hp} {M : List Addr}
mutual
theorem dp_same (e : Same H H') : ∀ {v : V} {d : PyData}, Dp K H v d → Dp K H' v d
 | _, _, .non => .non
 | _, _, .bl b => .bl b
 | _, _, .int i => .int i
 | _, _, .str x => .str x
 | _, _, .lst h hs => .lst (e.seq h) (dpa_same e hs)
 | _, _, .tup h hs => .tup ((Fr.of_same (M := []) e).tup h) (dpa_same e hs)
theorem dpa_same (e : Same H H') : ∀ {vs : List V} {ds : List PyData}, DpAll K H vs ds → DpAll K H' vs ds
 | _, _, .nil => .nil
 | _, _, .cons h hs => .cons (dp_same e h) (dpa_same e hs)
end
end
end SL
namespace SL
open PySem PySem.Spec PyProof.Rows L2
section
variable {K : PySem.W.Frag} {σ : L2.St} {H : Hp} {a b : Addr} {xs ys : List V}
theorem g_izA {tl : TA} {S : It → Hp → Prop} (q : tl σ H fun vs H1 => ∃ a b xs ys, vs = [.ref a, .ref b] ∧ ((SqL K H1 a xs ∧ SqL K H1 b ys ∧ S (Itz K a b) H1) ∨ (SqT K H1 a xs ∧ SqT K H1 b ys ∧ S (RZ.ItzT K a b) H1))) : RZ.iZipA K tl σ H S := q
theorem g_iz {tl : TA} {S : It → Hp → Prop} (q : tl σ H fun vs H1 => ∃ a b xs ys, vs = [.ref a, .ref b] ∧ SqL K H1 a xs ∧ SqL K H1 b ys ∧ S (Itz K a b) H1) : iZip K tl σ H S := q
end
end SL
set_option Elab.async false
set_option linter.all false
set_option maxRecDepth 100000
set_option maxHeartbeats 2000000
namespace SL
open PySem PySem.Spec PyProof.Rows L2
structure RoomG (k : Nat) (A : Around) : Prop where
 rm : Room k A
 gd : A.guards = some []
theorem RoomG.mono {j k : Nat} {A : Around} (r : RoomG k A) (h : j ≤ k) : RoomG j A := ⟨r.rm.mono h, r.gd⟩
theorem RoomG.units {k : Nat} {A : Around} (r : RoomG k A) : A.units + 64 < cLine := r.rm.units
structure FnG (P : Program) (w : World) (K : PySem.W.Frag) (mg : Str → Option Value) (base : Heap) (CX : CXT) (k : Nat) (f : Addr) (fd : FuncData) (ps : List Str) (sp : Sp) : Prop where
 len : ∀ vs H Q E, sp vs H Q E → vs.length = ps.length
 go : ∀ (A : Around) (outer : List Env) (s : Shared) (H : Hp) (args : Args) (us : List Value) (vs : List V) (Q : VK) (E : XK), RoomG k A →
  Env0 P w K mg base A outer s H → BindsTo s fd args (ps.zip us) → Vals vs us → sp vs H Q E → codeAny (model P w) A (.call (.ref f) args) (CR CX outer P w H s Q E) s
section
variable {P : Program} {w : World} {K : PySem.W.Frag} {mg : Str → Option Value} {base : Heap} {CX : CXT}
theorem FnG.up {j k : Nat} {f : Addr} {fd : FuncData} {ps : List Str} {sp : Sp} (F : FnG P w K mg base CX j f fd ps sp) (h : j ≤ k) : FnG P w K mg base CX k f fd ps sp :=
 ⟨F.len, fun A outer s H args us vs Q E r => F.go A outer s H args us vs Q E (r.mono h)⟩
theorem FnG.imp {k : Nat} {f : Addr} {fd : FuncData} {ps : List Str} {sp sp' : Sp} (F : FnG P w K mg base CX k f fd ps sp) (h : ∀ vs H Q E, sp' vs H Q E → sp vs H Q E) : FnG P w K mg base CX k f fd ps sp' :=
 ⟨fun vs H Q E z => F.len vs H Q E (h vs H Q E z), fun A outer s H args us vs Q E r e b v z => F.go A outer s H args us vs Q E r e b v (h vs H Q E z)⟩
theorem fng_of {k : Nat} {f : Addr} {x qual : Str} {pr : Arguments} {bd : List Stmt} {sc : Scope} {dV kV doc pm cdv ct oc : Value} {an od : Option Addr} {osl : Array (Option Value)} {N ps : List Str} {sp : Sp}
  (lk : K.lookup f = some ⟨oc, od, .func (PySem.W.fnOf x qual pr bd sc dV kV doc pm an cdv ct), osl⟩) (hcd : PySem.W.codeIn K cdv qual = true) (S : FnScope N ps sc) (hlen : ∀ vs H Q E, sp vs H Q E → vs.length = ps.length)
  (hb : ∀ (A : Around) (outer : List Env) (s : Shared) (H : Hp) (vs : List V) (Q : VK) (E : XK), RoomG k (A.deeper (envOfC qual sc s.heap.objs.size f cdv)) → sp vs H Q E →
   ∃ t, PSs (cxOf CX P w K mg base N qual sc f cdv A outer s H E) bd t ∧ t { nx := fun _ H' => Q .non H', rt := Q } (start N vs) H) :
  FnG P w K mg base CX (k + 1) f (PySem.W.fnOf x qual pr bd sc dV kV doc pm an cdv ct) ps sp := by
 constructor
 ·exact hlen
 intro A outer s H args us vs Q E hr env0 hbind rel hsp
 have nl := hlen _ _ _ _ hsp
 have inH : K.In s.heap := env0.mod.kin.keeps fun b o z => (env0.bs b o z).1
 have nolim : s.heap.NoLimit := env0.mod.nolimit.keeps fun b o z => (env0.bs b o z).1
 have kinds : ∀ y ∈ ps.zip us, sc.names.lookup y.1 = some .local ∨ (sc.names.lookup y.1 = some .cell ∧ ((cellsFrom (s.heap.objs.size + 1) sc.names []).lookup y.1).isSome = true) := by
  rintro ⟨n, v⟩ hy
  exact (S.par n (List.of_mem_zip hy).1).imp id fun q => ⟨q, PySem.W.cellsFrom_some _ _ _ (.inl q)⟩
 refine codeAny_call_function hr.rm.depth (inH _ _ lk) rfl S.co S.gen rfl (PySem.W.codeRec_of inH hcd) (hbind _ _ _ _ (wpAny_newFunctionEnv_cells S.kind kinds fun en hen s1 ic => ?_))
 subst hen
 refine ⟨nolim.keeps ic.toInCall.keep, codeAny_func ?_⟩
 obtain ⟨t, ht, hq⟩ := hb A outer s H vs Q E ⟨hr.rm.deeper _, hr.gd⟩ hsp
 have J0 : Inv (cxOf CX P w K mg base N qual sc f cdv A outer s H E) [] (start N vs) H s1 := inv_start S hr.rm.hd env0 nl rel ic
 refine wpAny_mono (ht.run [] s1 (start N vs) H _ J0 hq) (fun fl s2 h2 => ?_) fun e s2 h2 => h2
 cases fl with
 | next =>
  obtain ⟨σ2, H2, J, q2⟩ := h2
  exact ⟨V.non, H2, J.os, J.bare, J.base, J.hok, rfl, q2⟩
 | ret u =>
  obtain ⟨v, σ2, H2, J, rv, q2⟩ := h2
  exact ⟨v, H2, J.os, J.bare, J.base, J.hok, rv, q2⟩
 | brk => exact h2.elim fun _ z => z.elim fun _ z => z.2.elim
 | cont => exact h2.elim fun _ z => z.elim fun _ z => z.2.elim
theorem okG {x qual : Str} {pr : Arguments} {bd : List Stmt} {sc : Scope} {dvs : List V} {kws : List (Str × V)} {f : Addr} {fd : FuncData} {N ps : List Str} {k : Nat} {sp : Sp} (F : FunD K x qual pr bd sc dvs kws f fd) (S : FnScope N ps sc) (hlen : ∀ vs H Q E, sp vs H Q E → vs.length = ps.length)
  (hb : ∀ (cdv : Value) (A : Around) (outer : List Env) (s : Shared) (H : Hp) (vs : List V) (Q : VK) (E : XK), RoomG k (A.deeper (envOfC qual sc s.heap.objs.size f cdv)) → sp vs H Q E →
   ∃ t, PSs (cxOf CX P w K mg base N qual sc f cdv A outer s H E) bd t ∧ t { nx := fun _ H' => Q .non H', rt := Q } (start N vs) H) : FnG P w K mg base CX (k + 1) f fd ps sp := by
 obtain ⟨oc, od, dV, kV, doc, pm, an, cdv, ct, osl, rfl, lk, hcd, _, _⟩ := F.ex
 exact fng_of lk hcd S hlen fun A outer s H vs Q E hr hsp => hb cdv A outer s H vs Q E hr hsp
structure CalG (P : Program) (w : World) (K : PySem.W.Frag) (mg : Str → Option Value) (base : Heap) (k : Nat) (x : Str) (sp : Sp) : Prop where
 ex : ∃ (f : Addr) (fd : FuncData) (ps : List Str), FnG P w K mg base CX0 k f fd ps sp ∧ mg x = some (.ref f) ∧ PySem.W.keepIn K (.ref f) = true ∧ Binds K fd ps []
theorem CalG.mono {j k : Nat} {x : Str} {sp : Sp} (c : CalG P w K mg base j x sp) (h : j ≤ k) : CalG P w K mg base k x sp := by
 obtain ⟨f, fd, ps, F, m, kp, b⟩ := c.ex
 exact ⟨f, fd, ps, F.up h, m, kp, b⟩
theorem CalG.imp {k : Nat} {x : Str} {sp sp' : Sp} (c : CalG P w K mg base k x sp) (h : ∀ vs H Q E, sp' vs H Q E → sp vs H Q E) : CalG P w K mg base k x sp' := by
 obtain ⟨f, fd, ps, F, m, kp, b⟩ := c.ex
 exact ⟨f, fd, ps, F.imp h, m, kp, b⟩
end
section
variable {X : Cx} {k j : Nat} {x : Str} {sp : Sp} {p pos : Pos} {e : Expr} {es : List Expr} {t : TA}
theorem run_fng {CX : CXT} {f : Addr} {fd : FuncData} {ps : List Str} {dvs : List V} {ds : List Value} {E : XK} {pins : List (Addr × Obj)} {σ : L2.St} {H : Hp} {s : Shared} {Q : VK} {us : List Value} {vs : List V}
  (F : FnG X.prog X.w X.K X.mg X.base CX k f fd ps sp) (hr : RoomG k X.A) (hb : Binds X.K fd ps ds) (hd : Vals dvs ds) (hx : Passes CX X E) (I : Inv X pins σ H s) (r : Vals vs us) (h : sp (vs ++ dvs) H Q E) :
  wpAny (model X.prog X.w) X.A (call (.ref f) us) (EP X pins σ Q) X.xe s := by
 have rel : Vals (vs ++ dvs) (us ++ ds) := r.append hd
 have ln : (us ++ ds).length = ps.length := rel.length.symm.trans (F.len _ _ _ _ h)
 refine wpAny_call (codeAny_mono (F.go X.A X.stack s H ⟨us, []⟩ (us ++ ds) (vs ++ dvs) Q E hr I.env0 (hb s us I.kIn ln) rel h) fun res s2 hq => ?_)
 cases res with
 | ok fl =>
  cases fl with
  | ret u => exact I.after hq
  | _ => exact hq.elim
 | error z => exact hx pins σ H s z s2 I hq
theorem pe_calG (c : CalG X.prog X.w X.K X.mg X.base k x sp) (hr : RoomG j X.A) (hg : Gl X x) (ha : PA X (e :: es) t) (hk : k ≤ j := by first | decide | omega)
  (hdb : (x == ("__debug__" : Str)) = false := by decide) (hst : starEach (e :: es) X.env = (false, eval e X.env) :: starEach es X.env := by rfl) (hnp : (backTo pos (starEach es X.env)).any (·.1) = false := by rfl) :
  PE X (.Call (.Name x p) (e :: es) [] pos) (tCall sp [] E0 t) := by
 obtain ⟨f, fd, ps, F, hm, kp, b⟩ := c.ex
 constructor
 intro pins s σ H Q I h
 refine wpAny_Call_Name_kw (ld_glob I hg hm (PySem.W.callWith_K (h₀ := X.base) I.ok.mod.kin kp (thn (ha.run pos pins s σ H _ I h) fun us s1 z => ?_) hst hnp) hdb)
 obtain ⟨vs, H1, I1, r, q⟩ := z
 exact ⟨I1.kIn, run_fng F (hr.mono hk) b .nil pass0 I1 r q⟩
end
theorem calG_of {P : Program} {w : World} {K : PySem.W.Frag} {mg : Str → Option Value} {base : Heap} {k : Nat} {x : Str} {sp : Sp} {f : Addr} {fd : FuncData} {ps : List Str} (F : FnG P w K mg base CX0 k f fd ps sp) (m : mg x = some (.ref f)) (kp : PySem.W.keepIn K (.ref f) = true) (b : Binds K fd ps []) : CalG P w K mg base k x sp := ⟨f, fd, ps, F, m, kp, b⟩
def scrO (vs : List Value) : Obj := { cls := .type "list", data := .seq vs.toArray }
theorem law_from {P : Program} {w : World} {K : PySem.W.Frag} {mg mb : Str → Option Value} {k : Nat} {fa a : Addr} {fd : FuncData} {x : Str} {sp : Sp} {s : Shared} {vs : List Value} {H : Hp}
  (kin : K.In s.heap) (gns : s.heap.Ns mainGlobals mg) (bns : s.heap.Ns builtinsNs mb) (bok : ∀ x : Str, x ≠ "__name__" → mb x = bootBuiltins x) (nolim : s.heap.NoLimit) (nog : s.gens = #[]) (scr : s.heap.get? a = some (scrO vs)) (hr : RoomG k callerA)
  (F : ∀ base : Heap, K.In base → base.Ns mainGlobals mg → FnG P w K mg base CX0 k fa fd [x] sp) (hbind : ∀ (s : Shared) (u : Value), BindsTo s fd ⟨[u], []⟩ [(x, u)])
  (hsp : sp [.ref a] H (fun v _ => v = .bl true) fun _ _ _ => False) (hO : Only H) (hok : HOk P w H s.heap) (hA : ∀ b, H b ≠ none → b = a) (hK : H a ≠ none → K.lookup a = none) :
  codeAny (model P w) callerA (.call (.ref fa) ⟨[.ref a], []⟩) (fun r s2 => r = .ok (.ret (.bool true)) ∧ OldK s.heap s2.heap ∧ s2.os = s.os ∧ AllBare s2.gens) s := by
 have dfree : ∀ {b : Addr} {o : Obj} {es : Array DictEntry} {ep : Nat}, s.heap.get? b = some o → o.data = .dict es ep → H b = none := by
  intro b o es ep h1 h2
  cases q : H b with
  | none => rfl
  | some u =>
   have hb : b = a := hA b (by rw [q]; exact fun z => nomatch z)
   rw [hb, scr] at h1
   cases h1
   cases h2
 have nsH : ∀ {b : Addr} {m : Str → Option Value}, s.heap.Ns b m → (hidT s.heap H).Ns b m := by
  rintro b m ⟨o, es, ep, h1, h2, h3⟩
  exact ⟨o, es, ep, hidT_get h1 (dfree h1 h2), h2, h3⟩
 have kH : K.In (hidT s.heap H) := by
  intro b o h1
  refine hidT_get (kin b o h1) ?_
  cases q : H b with
  | none => rfl
  | some u =>
   have hb : b = a := hA b (by rw [q]; exact fun z => nomatch z)
   rw [hb] at h1 q
   rw [hK (by rw [q]; exact fun z => nomatch z)] at h1
   cases h1
 obtain ⟨mc, l1, l2⟩ := nolim
 have md : Mod K mg (hidT s.heap H) := ⟨kH, nsH gns, ⟨mb, nsH bns, bok⟩, ⟨mc, nsH l1, l2⟩⟩
 have env : Env0 P w K mg (hidT s.heap H) callerA [] s H := ⟨rfl, md, fun _ _ z => of_hidT z, Nat.le_of_eq (hidT_size _ _), trivial, fun b hb => (nomatch (show b ∈ ([] : List Addr) from hb)), hok, .of_eq nog⟩
 refine codeAny_mono ((F _ kH (nsH gns)).go callerA [] s H ⟨[.ref a], []⟩ [.ref a] [.ref a] _ _ hr env (hbind s (.ref a)) (.cons rfl .nil) hsp) fun r s2 h => ?_
 cases r with
 | error z => exact h.elim
 | ok fl =>
  cases fl with
  | ret u =>
   obtain ⟨v, H2, os, bare, un, hok2, rv, q⟩ := h
   have q1 : v = .bl true := q
   rw [q1] at rv
   have ru : u = Value.bool true := rv
   rw [ru]
   refine ⟨rfl, OldK.of_keep fun b o h1 => ?_, os, bare⟩
   rcases hO b with z | ⟨ob, xs, z⟩
   ·exact un.keep b o h1 z (fun y => nomatch (show b ∈ ([] : List Addr) from y)) (fun y => nomatch y)
   ·obtain ⟨g1, _⟩ := hok b _ z
    obtain ⟨g2, _⟩ := hok2 b _ (un.frzs b ob _ z)
    rw [h1] at g1
    cases g1
    exact g2
  | _ => exact h.elim
theorem law_run {P : Program} {w : World} {K : PySem.W.Frag} {mg mb : Str → Option Value} {k : Nat} {fa a : Addr} {fd : FuncData} {x : Str} {sp : Sp} {s : Shared} {vs : List Value} {ns : List Int}
  (kin : K.In s.heap) (gns : s.heap.Ns mainGlobals mg) (bns : s.heap.Ns builtinsNs mb) (bok : ∀ x : Str, x ≠ "__name__" → mb x = bootBuiltins x) (nolim : s.heap.NoLimit) (nog : s.gens = #[]) (scr : s.heap.get? a = some (scrO vs)) (hin : IntsAre vs ns) (small : ns.length ≤ sizeLine) (hr : RoomG k callerA)
  (F : ∀ base : Heap, K.In base → base.Ns mainGlobals mg → FnG P w K mg base CX0 k fa fd [x] sp) (hbind : ∀ (s : Shared) (u : Value), BindsTo s fd ⟨[u], []⟩ [(x, u)])
  (hsp : ∀ H : Hp, Only H → SqL K H a (ns.map V.int) → sp [.ref a] H (fun v _ => v = .bl true) fun _ _ _ => False) :
  codeAny (model P w) callerA (.call (.ref fa) ⟨[.ref a], []⟩) (fun r s2 => r = .ok (.ret (.bool true)) ∧ OldK s.heap s2.heap ∧ s2.os = s.os ∧ AllBare s2.gens) s := by
 have rel := vals_ints hin
 have ln := hin.length
 cases hk : K.lookup a with
 | none =>
  let H0 : Hp := fun b => if b = a then some (.frz (scrO vs) (.lst (ns.map V.int))) else none
  have at_a : H0 a = some (.frz (scrO vs) (.lst (ns.map V.int))) := if_pos rfl
  have off_a : ∀ b, b ≠ a → H0 b = none := fun b hb => if_neg hb
  have only : Only H0 := fun b => by
   by_cases hb : b = a
   ·rw [hb]; exact .inr ⟨_, _, at_a⟩
   ·exact .inl (off_a b hb)
  refine law_from (H := H0) kin gns bns bok nolim nog scr hr F hbind (hsp H0 only (.inl (.inr ⟨_, at_a⟩))) only (fun b u z => ?_) (fun b z => ?_) fun _ => hk
  ·by_cases hb : b = a
   ·subst hb
    rw [at_a] at z
    cases z
    exact ⟨scr, (by rw [List.length_map]; exact small), vs, _, rel, scr⟩
   ·rw [off_a b hb] at z
    cases z
  ·by_cases hb : b = a
   ·exact hb
   ·exact absurd (off_a b hb) z
 | some o =>
  have h1 := kin a o hk
  rw [scr] at h1
  cases h1
  refine law_from (H := fun _ => none) kin gns bns bok nolim nog scr hr F hbind (hsp _ (fun _ => .inl rfl) (.inr ⟨_, vs.toArray, _, hk, rfl, rfl, rfl, by rw [List.size_toArray, ln]; exact small, by simpa using rel⟩)) (fun _ => .inl rfl) (fun b u z => ?_) (fun b z => absurd rfl z) fun z => absurd rfl z
  have z2 : (none : Option HO) = some u := z
  cases z2
theorem walkG {l : PySem.W.OpenLaw} {n k : Nat} {q : Program} {loose : List Str} {XP : (Str → Option Value) → Heap → Prop} {YP : World → Heap → Prop} {d : DefRec} {x : Str} (hn : l.most = some n) (hn2 : n ≤ sizeLine) (hdf : d.params.defaults = []) (hr : Room k callerA)
  (F : ∀ (w : World) (mg : Str → Option Value) (fa : Addr) (h : Heap), YP w h → h.Ns mainGlobals mg → mg d.name = some (.ref fa) →
   ∃ (K : PySem.W.Frag) (fd : FuncData) (sp : Sp), K.In h ∧ (∀ (s : Shared) (u : Value), BindsTo s fd ⟨[u], []⟩ [(x, u)]) ∧
    (∀ (H : Hp) (a : Addr) (ns : List Int), ns.length ≤ n → SqL K H a (ns.map V.int) → sp [.ref a] H (fun v _ => v = .bl true) fun _ _ _ => False) ∧ ∀ base : Heap, K.In base → base.Ns mainGlobals mg → FnG l.prog w K mg base CX0 k fa fd [x] sp) :
  PySem.W.WalkO q loose XP YP l.row.toRowW d [] (fun f vs => PySem.call f vs) := by
 refine Att.attach_call hn hdf fun w s₀ s₁ mg mb fa o pm cd doc a vs ns G Y ho hd hcd hmg hobj hints hlen hg => ?_
 obtain ⟨K, fd, sp, kin, hb, hsp, hF⟩ := F w mg fa _ Y G.T.g hmg
 exact law_run kin G.T.g G.T.b G.T.builtins G.T.nolimit hg hobj hints (Nat.le_trans hlen hn2) ⟨hr, rfl⟩ hF hb fun H _ hS => hsp H a ns hlen hS
end SL
set_option Elab.async false
set_option linter.all false
set_option maxRecDepth 100000
set_option maxHeartbeats 2000000
namespace SL
open PySem PySem.Spec PyProof.Rows L2
mutual
theorem dp_nodict {K : PySem.W.Frag} {H : Hp} : ∀ {v : V} {d : PyData}, Dp K H v d → d.hasDict = false
 | _, _, .non => by simp only [PyData.hasDict]
 | _, _, .bl _ => by simp only [PyData.hasDict]
 | _, _, .int _ => by simp only [PyData.hasDict]
 | _, _, .str _ => by simp only [PyData.hasDict]
 | _, _, .lst _ h => by simp only [PyData.hasDict]; exact dpa_nodict h
 | _, _, .tup _ h => by simp only [PyData.hasDict]; exact dpa_nodict h
theorem dpa_nodict {K : PySem.W.Frag} {H : Hp} : ∀ {vs : List V} {ds : List PyData}, DpAll K H vs ds → PyData.hasDictAll ds = false
 | _, _, .nil => by simp only [PyData.hasDictAll]
 | _, _, .cons h hs => by simp only [PyData.hasDictAll, dp_nodict h, dpa_nodict hs, Bool.or_self]
end
section
variable {X : Cx} {k : Nat}
end
section
variable {K : PySem.W.Frag} {H : Hp} {Q : VK} {x : V}
theorem g_dget {td ty : TE} {σ : L2.St} (q : td σ H fun x H1 => ty σ H1 fun y H2 => ∃ a v, x = .ref a ∧ DGet H2 a y (some v) ∧ Q v H2) : tDGet td ty σ H Q := q
end
end SL
namespace SL
open PySem PySem.Spec PyProof.Rows L2
section
variable {X : Cx} {K : PySem.W.Frag}
theorem kOp {r : PySem.W.Frag → R2} {f : Value → Value → Sem Value} (e : X.K = K) (h : OpR X f (r X.K)) : OpR X f (r K) := e ▸ h
theorem kIx {r : PySem.W.Frag → R2} (e : X.K = K) (h : IxR X (r X.K)) : IxR X (r K) := e ▸ h
theorem kSl {r : PySem.W.Frag → V → Option Int → Option Int → Hp → VK → Prop} (e : X.K = K) (h : SlR X (r X.K)) : SlR X (r K) := e ▸ h
theorem kCall {r : PySem.W.Frag → List V → Hp → VK → Prop} {f : Value} (e : X.K = K) (h : CallR X f (r X.K)) : CallR X f (r K) := e ▸ h
variable {a b : Expr} {rest es : List Expr} {ta tb te : TE} {tgs : TGs} {pos : Pos} {tg : Expr} {n k : Nat}
theorem pi_listK (e : X.K = K) (h : PE X a ta) : PI X tg a (iList K ta) := by subst e; exact pi_list h
theorem pi_tupK (e : X.K = K) (h : PE X a ta) : PI X tg a (iTup K ta) := by subst e; exact pi_tup h
theorem pg_tupK (e : X.K = K) (hc : X.calm = true) (h : PGs X es tgs) (hn : (assignEach es X.env).length = n := by rfl) (hst : (assignEach es X.env).findIdx? (·.1) = none := by rfl) : PG X (.Tuple es k pos) (gTup K n tgs) := by subst e; exact pg_tup hc h hn hst
end
end SL
namespace SL
open PySem PySem.Spec PyProof.Rows L2
section
variable {K : PySem.W.Frag} {H : Hp} {Q : VK}
end
end SL
namespace SL
open PySem PySem.Spec PyProof.Rows L2
section
variable {X : Cx} {K : PySem.W.Frag} {ex : Expr} {T : String} {rb : V → List V → Hp → VK → Prop} {to : TE} {tl : TA} {σ : L2.St} {H : Hp} {Q : VK}
theorem g_bm (q : to σ H fun x H1 => tyV K T x H1 ∧ tl σ H1 fun xs H2 => rb x xs H2 Q) : tBM K T rb to tl σ H Q := q
theorem g_bm0 (q : to σ H fun x H1 => tyV K T x H1 ∧ rb x [] H1 Q) : tBM0 K T rb to σ H Q := q
theorem g_tyS {A : Prop} {z : Str} (q : A) : tyV K "str" (.str z) H ∧ A := ⟨rfl, q⟩
theorem g_tyL {A : Prop} {p : Addr} {xs : List V} (h : SqL K H p xs) (q : A) : tyV K "list" (.ref p) H ∧ A := ⟨.inl ⟨rfl, xs, h⟩, q⟩
end
end SL
namespace SL
open PySem PySem.Spec PyProof.Rows L2
section
variable {K : PySem.W.Frag} {σ : L2.St} {H : Hp} {Q : VK} {tk tv : TE} {trs : List (TE × TE)} {A : List (V × V) → Hp → Prop}
theorem g_pairs (q : tk σ H fun x H1 => tv σ H1 fun y H2 => tPairs trs σ H2 fun ps H3 => A ((x, y) :: ps) H3) : tPairs ((tk, tv) :: trs) σ H A := q
theorem g_pairs0 (q : A [] H) : tPairs [] σ H A := q
theorem g_repL {p : Addr} {k : Int} {xs : List V} (h : H p = some (.lst xs)) (h0 : -(2 ^ 63) ≤ k) (h1 : k < 2 ^ 63) (hz : xs.length * k.toNat ≤ sizeLine) (q : ∀ l, H l = none → Q (.ref l) (upd H l (.lst (List.replicate k.toNat xs).flatten))) : uMul (.ref p) (.int k) H Q := ⟨p, k, xs, rfl, rfl, h, h0, h1, hz, q⟩
end
end SL
set_option Elab.async false
set_option linter.all false
set_option maxRecDepth 100000
set_option maxHeartbeats 2000000
namespace SL
open PySem PySem.Spec PyProof.Rows L2
section
variable {P : Program} {w : World} {K : PySem.W.Frag} {mg : Str → Option Value} {base : Heap} {f : Addr} {fd : FuncData} {ps : List Str} {x : Str} {sp : Nat → Sp}
end
end SL
set_option Elab.async false
set_option linter.all false
set_option maxRecDepth 100000
set_option maxHeartbeats 2000000
namespace SL
open PySem PySem.Spec PyProof.Rows L2
section
variable {X : Cx} {K : PySem.W.Frag} {σ : L2.St} {H : Hp} {Q : VK} {x y : V}
def tFs (ts : List TE) : TE := fun σ H Q => tJs ts Str.empty σ H fun out H1 => Q (.str out) H1
theorem g_fs {ts : List TE} (q : tJs ts Str.empty σ H fun out H1 => Q (.str out) H1) : tFs ts σ H Q := q
theorem g_js0 {acc : Str} {A : Str → Hp → Prop} (q : A acc H) : tJs [] acc σ H A := q
theorem g_js {t : TE} {ts : List TE} {acc : Str} {A : Str → Hp → Prop} (q : t σ H fun x H1 => ∃ y : Str, x = .str y ∧ (acc ++ y).length ≤ sizeLine ∧ tJs ts (acc ++ y) σ H1 A) : tJs (t :: ts) acc σ H A := q
theorem g_fmt {te : TE} (q : te σ H fun x H1 => (∃ y : Str, x = .str y ∧ y.length ≤ sizeLine ∧ Q (.str y) H1) ∨ ∃ i : Int, x = .int i ∧ i.natAbs.log2 < 1920 ∧ Q (.str (toString i)) H1) : tFmt te σ H Q := q
theorem g_fmtS {z : Str} {A : Str → Prop} {B : Prop} (h : z.length ≤ sizeLine) (q : A z) : (∃ y : Str, V.str z = .str y ∧ y.length ≤ sizeLine ∧ A y) ∨ B := .inl ⟨z, rfl, h, q⟩
theorem g_jsS {z acc : Str} {A : Str → Prop} (h : (acc ++ z).length ≤ sizeLine) (q : A z) : ∃ y : Str, V.str z = .str y ∧ (acc ++ y).length ≤ sizeLine ∧ A y := ⟨z, rfl, h, q⟩
theorem app_len {a b : Str} : (a ++ b).length = a.length + b.length := Array.size_append
theorem lit_q : ("'" : Str).length = 1 := by decide +kernel
theorem lit_lp : ("(" : Str).length = 1 := by decide +kernel
theorem lit_rp : (")" : Str).length = 1 := by decide +kernel
theorem lit_sp : (" " : Str).length = 1 := by decide +kernel
theorem lit_cs : (", " : Str).length = 2 := by decide +kernel
theorem lit_not : ("not " : Str).length = 4 := by decide +kernel
theorem lit_is : (" is " : Str).length = 4 := by decide +kernel
theorem lit_if : (" if " : Str).length = 4 := by decide +kernel
theorem lit_e : Str.empty.length = 0 := by decide +kernel
theorem lit_dot : ("." : Str).length = 1 := by decide +kernel
def uIs : R2 := fun x y H Q => y = .non ∧ Q (.bl (decide (x = .non))) H
def uIsNot : R2 := fun x y H Q => y = .non ∧ Q (.bl (!decide (x = .non))) H
theorem g_is (q : Q (.bl (decide (x = .non))) H) : uIs x .non H Q := ⟨rfl, q⟩
theorem g_isNot (q : Q (.bl (!decide (x = .non))) H) : uIsNot x .non H Q := ⟨rfl, q⟩
end
section
variable {X : Cx} {o e f : Expr} {apos cpos : Pos} {td ty tx : TE}
end
section
variable {K : PySem.W.Frag} {w : World} {H : Hp} {Q : VK} {σ : L2.St}
end
end SL
set_option Elab.async false
set_option linter.all false
set_option maxRecDepth 100000
set_option maxHeartbeats 2000000
namespace SL
open PySem PySem.Spec PyProof.Rows L2
theorem lc_map {J : It} {n : Nat} {G : Hp → Prop} {xs ys : List V} (w : Walk J n G (YAt xs)) {g : TG} {te : TE} {vs : List Nat} {σ : L2.St} {H1 : Hp} {D : Addr} {Qd : Hp → Prop} (hG : ∀ H', Fr [] H1 H' → G H') (hn : xs.length = n) (hy : ys.length = n) (hz : n ≤ 10000) (hD : H1 D = none)
  (body : ∀ (i : Nat) (x y : V) (H' : Hp) (A : V → Hp → Prop), xs[i]? = some x → ys[i]? = some y → Fr [] H1 H' → (∀ H4, Fr [] H' H4 → A y H4) → g x (wipe σ vs) H' fun σ2 H2 => wipe σ2 vs = wipe σ vs ∧ te σ2 H2 A)
  (fin : ∀ H', Fr [] H1 H' → H' D = some (.lst ys) → Qd H') :
  ∃ W : Nat → Nat → Hp → Prop, (∃ m, W 0 m (upd H1 D (.lst []))) ∧ ∀ i m H, W i m H →
   (J.stop i H ∧ Qd H) ∨ (J.go i H ∧ ∃ Nx : Hp → Prop, (∀ H', Nx H' → ∃ m', m' < m ∧ W (i + 1) m' H') ∧ ∀ x H', J.yld i H x H' → g x (wipe σ vs) H' fun σ2 H2 => wipe σ2 vs = wipe σ vs ∧ tYes σ2 H2 fun b H3 =>
    if b = true then te σ2 H3 fun y H4 => ∃ acc, H4 D = some (.lst acc) ∧ acc.length < sizeLine ∧ Nx (upd H4 D (.lst (acc ++ [y]))) else Nx H3) := by
 subst hn
 refine lc_it w (fun i H' => Fr [] H1 H' ∧ H' D = some (.lst (ys.take i))) ⟨Fr.new hD, by rw [List.take_zero]; exact upd_same⟩ (fun i H' _ h => hG H' h.1) (fun i x H' H'' hi h y => ?_) (fun H' h => ?_)
 ·obtain ⟨rfl, hx⟩ := y
  obtain ⟨h1, h2⟩ := h
  have hi2 : i < ys.length := by omega
  exact body i x ys[i] H'' _ hx (List.getElem?_eq_getElem hi2) h1 fun H4 e4 => ⟨_, e4.at h2 (fun z => nomatch z), lt_of (by rw [List.length_take]; omega), (h1.trans e4).over hD, by rw [upd_same, List.take_succ, List.getElem?_eq_getElem hi2]; rfl⟩
 ·exact fin H' h.1 (by rw [h.2, ← hy, List.take_length])
section
variable {P : Program} {w : World} {K : PySem.W.Frag} {mg : Str → Option Value} {base : Heap} {f : Addr} {fd : FuncData} {ps : List Str} {x : Str} {sp : Nat → Sp}
end
section
variable {K : PySem.W.Frag} {σ : L2.St} {H : Hp} {D : Ends} {Q : VK}
theorem g_dput {td ty tv : TE} (q : tv σ H fun v H1 => td σ H1 fun x H2 => ty σ H2 fun y H3 => ∃ a H4, x = .ref a ∧ DPut H3 a y v H4 ∧ D.nx σ H4) : sDPut td ty tv D σ H := q
end
section
variable {D : Ends} {σ : L2.St} {H : Hp}
theorem g_seqIf (t : TT) (a b u : TS) (D : Ends) (σ : L2.St) (H : Hp) : tSeq (tIfS t a b) u D σ H → tSeq (tIfS t a b) u D σ H := id
end
end SL
set_option Elab.async false
set_option linter.all false
set_option maxRecDepth 100000
set_option maxHeartbeats 2000000
namespace SL
open PySem PySem.Spec PyProof.Rows L2
section
variable {σ : L2.St} {H : Hp} {Q : VK} {D : Ends}
theorem g_listRg {te : TE} (q : tRg1 te σ H fun a b H1 => RgOk a b ∧ ∀ q, H1 q = none → Q (.ref q) (upd H1 q (.lst (rgV a b)))) : tLstRg (tRg1 te) σ H Q := q
theorem g_rg1 {ta : TE} {A : Int → Int → Hp → Prop} (q : ta σ H fun x H1 => ∃ n, x = .int n ∧ A 0 n H1) : tRg1 ta σ H A := q
end
abbrev Turns (J : It) (b : (Hp → Prop) → V → Hp → Prop) (H0 : Hp) (Dn : Hp → Prop) : Prop :=
 ∃ W : Nat → Nat → Hp → Prop, (∃ m, W 0 m H0) ∧ ∀ i m H, W i m H → (J.stop i H ∧ Dn H) ∨ (J.go i H ∧ ∃ Nx : Hp → Prop, (∀ H', Nx H' → ∃ m', m' < m ∧ W (i + 1) m' H') ∧ ∀ x H', J.yld i H x H' → b Nx x H')
abbrev inB (g1 : TG) (tt1 : TT) (te : TE) (vs1 : List Nat) (σ : L2.St) (D : Addr) (Nx : Hp → Prop) (x : V) (H' : Hp) : Prop :=
 g1 x (wipe σ vs1) H' fun σ3 H5 => wipe σ3 vs1 = wipe σ vs1 ∧ tt1 σ3 H5 fun b H6 => if b = true then te σ3 H6 fun y H7 => ∃ acc, H7 D = some (.lst acc) ∧ acc.length < sizeLine ∧ Nx (upd H7 D (.lst (acc ++ [y]))) else Nx H6
abbrev outB (g : TG) (tt : TT) (wi1 : TI) (g1 : TG) (tt1 : TT) (te : TE) (vs vs1 : List Nat) (σ : L2.St) (D : Addr) (Nx : Hp → Prop) (x : V) (H' : Hp) : Prop :=
 g x (wipe σ vs) H' fun σ2 H2 => wipe σ2 vs = wipe σ vs ∧ tt σ2 H2 fun b H3 => if b = true then wi1 σ2 H3 fun J1 H4 => Turns J1 (inB g1 tt1 te vs1 σ2 D) H4 Nx else Nx H3
abbrev dictB (g : TG) (tt : TT) (tk tv : TE) (vs : List Nat) (σ : L2.St) (D : Addr) (Nx : Hp → Prop) (x : V) (H' : Hp) : Prop :=
 g x (wipe σ vs) H' fun σ2 H2 => wipe σ2 vs = wipe σ vs ∧ tt σ2 H2 fun b H3 => if b = true then tk σ2 H3 fun y H4 => tv σ2 H4 fun z H5 => ∃ kvs k, y = kV k ∧ H5 D = some (.dK kvs) ∧ kvs.length < sizeLine ∧ Nx (upd H5 D (.dK (putK kvs k z))) else Nx H3
section
variable {J : It} {n : Nat} {G : Hp → Prop} {Y : Nat → Hp → V → Hp → Prop}
end
section
variable {σ : L2.St} {H : Hp} {Q : VK} {wi wi1 : TI} {g g1 : TG} {tt tt1 : TT} {te tk tv : TE} {vs vs1 : List Nat}
theorem g_lc2 (q : wi σ H fun J H1 => ∀ D, H1 D = none → Turns J (outB g tt wi1 g1 tt1 te vs vs1 σ D) (upd H1 D (.lst [])) fun H => Q (.ref D) H) : tLc2 wi g tt wi1 g1 tt1 te vs vs1 σ H Q := q
theorem g_dc (q : wi σ H fun J H1 => ∀ D, H1 D = none → Turns J (dictB g tt tk tv vs σ D) (upd H1 D (.dK [])) fun H => Q (.ref D) H) : tDc wi g tt tk tv vs σ H Q := q
theorem g_din {ty td : TE} (q : ty σ H fun y H1 => td σ H1 fun x H2 => ∃ a o, x = .ref a ∧ DGet H2 a y o ∧ Q (.bl o.isSome) H2) : tDIn ty td σ H Q := q
end
end SL
set_option Elab.async false
set_option linter.all false
set_option maxRecDepth 100000
set_option maxHeartbeats 2000000
namespace SL
open PySem PySem.Spec PyProof.Rows L2
structure EcC (K : PySem.W.Frag) (C : Addr) : Prop where
 oe : OexC K C
 xf : XfC K C
 xc : ExcC K C
def oexB (K : PySem.W.Frag) (C : Addr) : Bool := match K.lookup C with
 | some ⟨.type "type", _, .cls cd, sl⟩ => (match cd.mro, sl.toList with
  | .ref C' :: bm, [_, _, _, _, some (.builtin n), _] => decide (C' = C) && (decide (n = "ValueError.__new__") && (!cd.hasDel && (cd.hasDict && PySem.HandSPX.refsVE bm)))
  | _, _ => false)
 | _ => false
def ecB (K : PySem.W.Frag) (C : Addr) : Bool := oexB K C && (decide (PySem.W.findIn K (.ref C) "__setattr__" = some (some (.builtin "object.__setattr__"))) && (decide (PySem.W.subIn K (.ref C) (.type "BaseException") = some true) &&
 (decide (PySem.W.typeIn K (.ref C) = some (.type "type")) && (PySem.W.keepIn K (.ref C) && (decide (PySem.W.findIn K (.ref C) "__getattribute__" = some (some (.builtin "BaseException.__getattribute__"))) &&
 (decide (PySem.W.findIn K (.ref C) "__getattr__" = some none) && (PySem.W.hasDictIn K C && (decide (PySem.W.findIn K (.ref C) "__class__" = some (some (.builtin "object.__class__"))) &&
 (decide (PySem.W.specialIn K (.builtin "object.__class__") "__get__" = some (some (.builtin "getset_descriptor.__get__"))) && (decide (PySem.W.takesIn K (.builtin "object.__class__") = some true) && decide (PySem.W.mroIn K C (.type "object") = some true)))))))))))
theorem oexB_ok {K : PySem.W.Frag} {C : Addr} (h : oexB K C = true) : ∃ nm q N bs bm sn sub ab col dd k0 k1 k2 k3 k5, K.lookup C = some (excClassObj nm q C N bs bm true sn sub ab col dd k0 k1 k2 k3 k5 "ValueError.__new__") ∧ PySem.HandSPX.refsVE bm = true := by
 unfold oexB at h
 split at h
 ·rename_i dd cd sl ho
  split at h
  ·rename_i C' bm k0 k1 k2 k3 n k5 hm hs
   simp only [Bool.and_eq_true, decide_eq_true_eq, Bool.not_eq_true'] at h
   obtain ⟨rfl, rfl, hdel, hd, hr⟩ := h
   obtain ⟨nm, bs, mro, ns, qn, hdt, sn, sub, ab, col, del⟩ := cd
   dsimp only at hm hdel hd
   subst hm hdel hd
   have hsl : sl = #[k0, k1, k2, k3, some (.builtin "ValueError.__new__"), k5] := by
    obtain ⟨l⟩ := sl
    simp only at hs
    rw [hs]
   subst hsl
   exact ⟨nm, qn, ns, bs, bm, sn, sub, ab, col, dd, k0, k1, k2, k3, k5, ho, hr⟩
  ·cases h
 ·cases h
theorem ecB_ok {K : PySem.W.Frag} {C : Addr} (h : ecB K C = true) : EcC K C := by
 unfold ecB at h
 simp only [Bool.and_eq_true, decide_eq_true_eq] at h
 obtain ⟨h1, h2, h3, h4, h5, h6, h7, h8, h9, h10, h11, h12⟩ := h
 exact ⟨⟨oexB_ok h1, h2, h3, h4, h5⟩, ⟨h6, h7, h3, h8⟩, ⟨h6, h7, h3, h8, h9, h10, h11, h12⟩⟩
structure EcI (K : PySem.W.Frag) (C fI : Addr) : Prop where
 ini : PySem.W.findIn K (.ref C) "__init__" = some (some (.ref fI))
 ty : PySem.W.typeIn K (.ref fI) = some (.type "function")
 ga : PySem.W.specialIn K (.ref C) "__getattribute__" = some (some (.builtin "type.__getattribute__"))
 rd : PySem.W.readsIn K C (.type "type") = true
 fd : PySem.W.findCls K (.ref C) (.type "type") "__init__" = some (.val (.ref fI))
 kp : PySem.W.keepIn K (.ref fI) = true
def eciB (K : PySem.W.Frag) (C fI : Addr) : Bool := decide (PySem.W.findIn K (.ref C) "__init__" = some (some (.ref fI))) && (decide (PySem.W.typeIn K (.ref fI) = some (.type "function")) &&
 (decide (PySem.W.specialIn K (.ref C) "__getattribute__" = some (some (.builtin "type.__getattribute__"))) && (PySem.W.readsIn K C (.type "type") && ((match PySem.W.findCls K (.ref C) (.type "type") "__init__" with
  | some (.val (.ref f)) => decide (f = fI)
  | _ => false) && PySem.W.keepIn K (.ref fI)))))
theorem eciB_ok {K : PySem.W.Frag} {C fI : Addr} (h : eciB K C fI = true) : EcI K C fI := by
 unfold eciB at h
 simp only [Bool.and_eq_true, decide_eq_true_eq] at h
 obtain ⟨h1, h2, h3, h4, h5, h6⟩ := h
 refine ⟨h1, h2, h3, h4, ?_, h6⟩
 split at h5
 ·rename_i f e
  rw [e, of_decide_eq_true h5]
 ·cases h5
structure ClG (P : Program) (w : World) (K : PySem.W.Frag) (mg : Str → Option Value) (base : Heap) (k : Nat) (x : Str) (C : Addr) (sp : Sp) : Prop where
 m : mg x = some (.ref C)
 ec : EcC K C
 ex : ∃ (fI : Addr) (fd : FuncData) (ps : List Str), FnG P w K mg base CX0 k fI fd ps sp ∧ EcI K C fI ∧ Binds K fd ps []
section
variable {X : Cx} {k j : Nat} {x : Str} {C : Addr} {sp : Sp} {p p1 p2 pos : Pos} {e : Expr} {es : List Expr} {t ta : TA}
theorem pe_fini {pl : Sem Bool} (c : ClG X.prog X.w X.K X.mg X.base k x C sp) (hr : RoomG j X.A) (hg : Gl X x) (ha : PA X (e :: es) t) (hk : k ≤ j := by first | decide | omega)
  (hdb : (x == ("__debug__" : Str)) = false := by decide)
  (hc : eval (.Call (.Attribute (.Name x p1) "__init__" p2) (e :: es) [] pos) X.env = (do
   let ov ← eval (.Name x p1) X.env
   standAt p2.atName
   let (f, first) ← holding [ov] (getMethod ov "__init__" pl)
   callWith pos f first (backTo pos (starEach (e :: es) X.env)) (backToKw pos (keywordEach [] X.env))) := by rfl)
  (hst : starEach (e :: es) X.env = (false, eval e X.env) :: starEach es X.env := by rfl) (hnp : (backTo pos (starEach es X.env)).any (·.1) = false := by rfl) :
  PE X (.Call (.Attribute (.Name x p1) "__init__" p2) (e :: es) [] pos) (tCall sp [] E0 t) := by
 obtain ⟨fI, fd, ps, F, ci, b⟩ := c.ex
 refine ⟨fun pins s σ H Q I h => ?_⟩
 refine PySem.W.methodCall_KW (ld_glob I hg c.m ?_ hdb) hc
 refine PySem.W.method_cls I.kIn ci.ga (PySem.W.cls_value I.kIn ci.rd ci.fd rfl ?_)
 have I2 := I.tok (s.toks + 1)
 refine PySem.W.callWith_K (h₀ := X.base) I2.ok.mod.kin ci.kp (thn (ha.run pos pins _ σ H _ I2 h) fun us s1 z => ?_) hst hnp
 obtain ⟨vs, H1, I1, r, q⟩ := z
 exact ⟨I1.kIn, run_fng F (hr.mono hk) b .nil pass0 I1 r q⟩
theorem RoomG.make {k : Nat} {A : Around} (hr : RoomG (k + 1) A) (C : Addr) (us : List Value) (kw : List (Str × Value)) : RoomG k (A.under (.builtin "type.__call__" ⟨.ref C :: us, kw⟩)) := ⟨hr.rm.make C us kw, hr.gd⟩
def spMk (C : Addr) (sp : Sp) (vs : List V) (H1 : Hp) (Q : VK) : Prop := vs.length ≤ 1000 ∧ ∀ a, H1 a = none → sp (.ref a :: vs) (upd H1 a (exo a C none)) (fun v H2 => v = .non ∧ Q (.ref a) H2) E0
abbrev laidE (C : Addr) (us : List Value) (s : Shared) : Shared := { s with heap := (s.heap.push (PySem.W.kdv_tup us)).push (PySem.HandSPX.excO C s.heap.objs.size) }
theorem laidE_keeps {us : List Value} {s : Shared} (a : Addr) (o : Obj) (e : s.heap.get? a = some o) : (laidE C us s).heap.get? a = some o := Heap.get?_push_of_some _ (Heap.get?_push_of_some _ e)
theorem laidE_inv {us : List Value} {pins : List (Addr × Obj)} {σ : L2.St} {H : Hp} {s : Shared} (I : Inv X pins σ H s) : Inv X pins σ (upd H (s.heap.objs.size + 1) (exo (s.heap.objs.size + 1) C none)) (laidE C us s) :=
 I.laid (t' := s.toks) laidE_keeps (Nat.le_succ _) (exo_ok (by heap_get))
theorem exn_runs (c : ClG X.prog X.w X.K X.mg X.base k x C sp) (hr : RoomG j X.A) (hk : k + 1 ≤ j) {pins : List (Addr × Obj)} {σ : L2.St} {H : Hp} {s : Shared} {Q E : Value → Shared → Prop} {Qi : VK} {vs : List V} {us : List Value} (I : Inv X pins σ H s) (r : Vals vs us) (few : vs.length ≤ 1000)
  (prom : sp (.ref (s.heap.objs.size + 1) :: vs) (upd H (s.heap.objs.size + 1) (exo (s.heap.objs.size + 1) C none)) Qi E0)
  (on : ∀ u z, CE X.stack X.prog X.w (upd H (s.heap.objs.size + 1) (exo (s.heap.objs.size + 1) C none)) (laidE C us s) Qi u z → u = .none ∧ Q (.ref (s.heap.objs.size + 1)) z) :
  wpAny (model X.prog X.w) X.A (call (.ref C) us) Q E s := by
 obtain ⟨fI, fd, ps, Fn, ci, binds⟩ := c.ex
 have J := laidE_inv (C := C) (us := us) I
 have all : Vals (V.ref (s.heap.objs.size + 1) :: vs) (Value.ref (s.heap.objs.size + 1) :: us) := .cons rfl r
 have count : (Value.ref (s.heap.objs.size + 1) :: us ++ []).length = ps.length := (congrArg List.length (List.append_nil _)).trans (all.length.symm.trans (Fn.len _ _ _ _ prom))
 have small : us.length ≤ sizeLine := by rw [← r.length, sizeLine_eq]; omega
 have bound := List.append_nil (Value.ref (s.heap.objs.size + 1) :: us) ▸ binds (laidE C us s) (Value.ref (s.heap.objs.size + 1) :: us) J.kIn count
 have body := Fn.go _ X.stack (laidE C us s) _ ⟨Value.ref (s.heap.objs.size + 1) :: us, []⟩ _ _ Qi E0 ((hr.mono hk).make C us []) (J.env0.make C us []) bound all prom
 obtain ⟨_, _, _, _, bm, _, _, _, _, _, _, _, _, _, _, at_C, same⟩ := c.ec.oe.cls
 refine wpAny_call (PySem.HandSPX.call_own F.excBase_ValueError (fun Y => PySem.HandSPX.refsVE_contains Y bm same) (I.kIn _ _ at_C) (PySem.W.looks_findIn I.kIn ci.ini) (fun self => PySem.W.bind_fn I.kIn self ci.ty) small (codeAny_mono body fun res z hz => ?_))
 match res, hz with
 | .ok (.ret u), hz => exact on u z hz
 | .ok .next, hz => exact absurd hz id
 | .ok .brk, hz => exact absurd hz id
 | .ok .cont, hz => exact absurd hz id
 | .error _, hz => exact absurd hz id
theorem mkE_ok (c : ClG X.prog X.w X.K X.mg X.base k x C sp) (hr : RoomG j X.A) (hk : k + 1 ≤ j) {pins : List (Addr × Obj)} {σ : L2.St} {H1 : Hp} {s1 : Shared} {Q : VK} {vs : List V} {us : List Value} (I1 : Inv X pins σ H1 s1) (r1 : Vals vs us) (q : spMk C sp vs H1 Q) :
  wpAny (model X.prog X.w) X.A (call (.ref C) us) (EP X pins σ Q) X.xe s1 :=
 exn_runs c hr hk I1 r1 q.1 (q.2 _ (I1.hok.fresh (Nat.le_succ _))) fun u z hz => by
  obtain ⟨v, H2, J, rv, rfl, q2⟩ := (laidE_inv I1).after hz
  exact ⟨rv, .ref _, H2, J, rfl, q2⟩
def tMkE (C : Addr) (sp : Sp) (ta : TA) : TE := fun σ H Q => ta σ H fun vs H1 => spMk C sp vs H1 Q
theorem pe_mkE (c : ClG X.prog X.w X.K X.mg X.base k x C sp) (hr : RoomG j X.A) (hg : Gl X x) (ha : PA X (e :: es) ta) (hk : k + 1 ≤ j := by first | decide | omega)
  (hdb : (x == ("__debug__" : Str)) = false := by decide) (hst : starEach (e :: es) X.env = (false, eval e X.env) :: starEach es X.env := by rfl) (hnp : (backTo pos (starEach es X.env)).any (·.1) = false := by rfl) :
  PE X (.Call (.Name x p) (e :: es) [] pos) (tMkE C sp ta) := by
 refine ⟨fun pins s σ H Q I h => ?_⟩
 refine wpAny_Call_Name_kw (ld_glob I hg c.m ?_ hdb)
 refine PySem.W.callWith_K (h₀ := X.base) I.ok.mod.kin c.ec.oe.kC (thn (ha.run pos pins s σ H _ I h) fun us s1 ⟨vs, H1, I1, r1, q1⟩ => ⟨I1.kIn, ?_⟩) hst hnp
 exact mkE_ok c hr hk I1 r1 q1
theorem pe_mkE0 (c : ClG X.prog X.w X.K X.mg X.base k x C sp) (hr : RoomG j X.A) (hg : Gl X x) (hk : k + 1 ≤ j := by first | decide | omega) (hdb : (x == ("__debug__" : Str)) = false := by decide) :
  PE X (.Call (.Name x p) [] [] pos) (tMkE C sp tNil) := by
 refine ⟨fun pins s σ H Q I h => ?_⟩
 refine wpAny_Call_Name_kw (ld_glob I hg c.m ?_ hdb)
 refine PySem.W.callWith_K0 I.kIn c.ec.oe.kC ?_
 exact mkE_ok c hr hk I .nil h
def tXat (K : PySem.W.Frag) (n : Str) (te : TE) : TE := fun σ H Q => te σ H fun x H1 => ∃ (a C d : Addr) (fs : List (Str × V)) (v : V), x = .ref a ∧ EcC K C ∧ PySem.W.findIn K (.ref C) n = some none ∧ H1 a = some (exo a C (some d)) ∧ H1 d = some (exd d fs) ∧ fs.lookup n = some v ∧ Q v H1
theorem exo_inst {P : Program} {w : World} {H : Hp} {h : Heap} {a C d : Addr} {fs : List (Str × V)} (hok : HOk P w H h) (ha : H a = some (exo a C (some d))) (hd : H d = some (exd d fs)) :
  ∃ (ox od : Obj) (mA : Str → Option Value), PySem.W.InstAt h a ox C (some od) ∧ (∀ n, PySem.W.lookIn n od = some (mA n)) ∧ ∀ n, RelO (fs.lookup n) (mA n) := by
 obtain ⟨t1, ho⟩ := exo_at hok ha
 obtain ⟨mA, hns, rel⟩ := exd_at hok hd
 obtain ⟨od, hod, hl⟩ := lookIn_ns hns
 exact ⟨_, od, mA, ⟨ho, rfl, rfl, hod⟩, hl, rel⟩
theorem pe_xat {X : Cx} {e : Expr} {te : TE} {pos : Pos} {n : Str} (he : PE X e te) (hb : attributeBase e n X.env (eval e X.env) = eval e X.env := by rfl) : PE X (.Attribute e n pos) (tXat X.K n te) := by
 refine ⟨fun pins s σ H Q I h => ?_⟩
 refine attr_of hb (thn (he.run pins s σ H _ I h) fun u s1 hh => ?_)
 obtain ⟨x, H1, I1, rx, a, C, d, fs, v, ex, T, hno, ea, ed, l, q⟩ := hh
 subst ex
 obtain rfl : u = Value.ref a := rx
 obtain ⟨ox, od, mA, J, hl, rel⟩ := exo_inst I1.hok ea ed
 obtain ⟨u, hu, ru⟩ := RelO.some_of (v := v) (o := mA n) (by rw [← l]; exact rel n)
 exact HandSPX.exc_get I1.kIn J T.xf.ga T.xf.gg T.xf.exC (PySem.W.findObj_own T.xf.hdC hno rfl (by rw [hl, hu])) (handed_of ru) ⟨v, H1, I1.tok _, ru, q⟩
end
end SL
namespace PySem.W
open PySem PySem.Spec PySem.Calls PyProof.Rows
section
variable {prog : Program} {w : World} {A : Around} {E : Value → Shared → Prop} {s : Shared} {K : Frag} {x D : Addr} {ox : Obj} {od : Option Obj}
theorem sl_kitx (C : L2.ExcC K D) : KitX K (.ref x) (.ref D) (fun h => InstAt h x ox D od) :=
 kitx_exc ((any_some C.hd).elim fun _ h => by rw [h.1]; rfl) C.hg C.hk C.hs C.ha C.hn C.ht C.hm
end
end PySem.W
namespace SL
open PySem PySem.Spec PyProof.Rows L2
def rIsX (K : PySem.W.Frag) : List V → Hp → VK → Prop := fun xs H Q => ∃ (a C d : Addr) (fs : List (Str × V)) (c : V) (cv : Value) (b : Bool), xs = [.ref a, c] ∧ EcC K C ∧ H a = some (exo a C (some d)) ∧ H d = some (exd d fs) ∧ (∀ u, RelV c u → u = cv) ∧ PySem.W.kitOne K (.ref C) cv = some b ∧ Q (.bl b) H
theorem call_isX {X : Cx} : CallR X (.builtin "isinstance") (rIsX X.K) := by
 intro pins s σ H xs us Q I r h
 obtain ⟨a, C, d, fs, c, cv, b, rfl, T, ea, ed, hcv, e, q⟩ := h
 cases r with
 | cons rx rr =>
  cases rr with
  | cons rt rr =>
   cases rr
   cases rx
   have ec := hcv _ rt
   subst ec
   obtain ⟨ox, od, mA, J, _, _⟩ := exo_inst I.hok ea ed
   exact PySem.W.kia_one (PySem.W.sl_kitx T.xc) I.kIn J e (fun z => nomatch z) fun tk => ⟨.bl b, H, I.kept (t' := tk) fun _ _ z => z, rfl, q⟩
section
variable {X : Cx} {k j : Nat} {x : Str} {C : Addr} {sp : Sp} {p p1 p2 pos : Pos} {e : Expr} {es : List Expr} {t ta : TA}
def tMkX (C : Addr) (sp : Sp) (ta : TA) : L2.St → Hp → XK → Prop := fun σ H Q => ta σ H fun vs H1 => vs.length ≤ 1000 ∧ ∀ a, H1 a = none → sp (.ref a :: vs) (upd H1 a (exo a C none))
 (fun v H2 => v = .non ∧ ∃ (d : Addr) (fs : List (Str × V)), H2 a = some (exo a C (some d)) ∧ H2 d = some (exd d fs) ∧ H1 d = none ∧ Q (.ref C) (some d) (upd (del H2 a) d (.xd fs))) E0
end
structure CalX (P : Program) (w : World) (K : PySem.W.Frag) (mg : Str → Option Value) (base : Heap) (k : Nat) (x : Str) (sp : Sp) : Prop where
 ex : ∃ (f : Addr) (fd : FuncData) (ps : List Str), FnG P w K mg base (L2.CX P w) k f fd ps sp ∧ mg x = some (.ref f) ∧ PySem.W.keepIn K (.ref f) = true ∧ Binds K fd ps []
section
variable {X : Cx} {k j : Nat} {x : Str} {sp : Sp} {p pos : Pos} {e : Expr} {es : List Expr} {t : TA} {W : WX}
end
end SL
namespace SL
open PySem PySem.Spec PyProof.Rows L2
def tXs (K : PySem.W.Frag) (a : Addr) (cls : Value) (d : Option Addr) (n : Str) (te : TE) : TE := fun σ H Q => te σ H fun x H1 => x = .ref a ∧ ∃ (C dd : Addr) (fs : List (Str × V)) (v : V), cls = .ref C ∧ d = some dd ∧ EcC K C ∧ PySem.W.findIn K (.ref C) n = some none ∧ H1 dd = some (.xd fs) ∧ fs.lookup n = some v ∧ Q v H1
def tRs (t : L2.St → Hp → XK → Prop) (W : WX) : TS := fun _ σ H => t σ H fun cls d H' => W cls d σ H'
def tTry (K : PySem.W.Frag) (c : Value) (i : Nat) (tb : WX → TS) (ts : Addr → Value → Option Addr → TS) (Wout : WX) : TS := fun D σ H => tb (wAs K c i ts Wout D) D σ H
theorem find_VE (K : PySem.W.Frag) : PySem.W.findCls K (.type "ValueError") (.type "type") "__init__" = some (.val (.builtin "ValueError.__init__")) := by kernel_rfl
section
variable {X : Cx} {K : PySem.W.Frag} {e : Expr} {st : Stmt} {ta : TA} {te to : TE} {f : Str} {a : Addr} {cls : Value} {d : Option Addr} {σ : L2.St} {H : Hp} {Q : VK} {D : Ends}
theorem kVeI (q : X.K = K) (h : PE X e (tVeI X.K ta)) : PE X e (tVeI K ta) := q ▸ h
theorem kOst (q : X.K = K) (h : PS X st (tOst X.K f to te)) : PS X st (tOst K f to te) := q ▸ h
theorem kXat (q : X.K = K) (h : PE X e (tXat X.K f te)) : PE X e (tXat K f te) := q ▸ h
theorem g_vei (q : ta σ H fun vs H1 => ∃ (a C : Addr) (ws : List V), vs = .ref a :: ws ∧ ws.length ≤ 1000 ∧ OexC K C ∧ H1 a = some (exo a C none) ∧ Q .non H1) : tVeI K ta σ H Q := q
theorem g_ost (q : te σ H fun y H1 => to σ H1 fun x H2 => ∃ a C : Addr, x = .ref a ∧ OexC K C ∧ PySem.W.findIn K (.ref C) f = some none ∧
 ((H2 a = some (exo a C none) ∧ ∀ dx, H2 dx = none → dx ≠ a → D.nx σ (upd (upd H2 dx (exd dx [(f, y)])) a (exo a C (some dx)))) ∨
  ∃ (dx : Addr) (fs : List (Str × V)), H2 a = some (exo a C (some dx)) ∧ H2 dx = some (exd dx fs) ∧ fs.length ≤ 900 ∧ D.nx σ (upd H2 dx (exd dx ((f, y) :: fs))))) : tOst K f to te D σ H := q
theorem g_xat (q : te σ H fun x H1 => ∃ (a C d : Addr) (fs : List (Str × V)) (v : V), x = .ref a ∧ EcC K C ∧ PySem.W.findIn K (.ref C) f = some none ∧ H1 a = some (exo a C (some d)) ∧ H1 d = some (exd d fs) ∧ fs.lookup f = some v ∧ Q v H1) : tXat K f te σ H Q := q
theorem g_xs (q : te σ H fun x H1 => x = .ref a ∧ ∃ (C dd : Addr) (fs : List (Str × V)) (v : V), cls = .ref C ∧ d = some dd ∧ EcC K C ∧ PySem.W.findIn K (.ref C) f = some none ∧ H1 dd = some (.xd fs) ∧ fs.lookup f = some v ∧ Q v H1) : tXs K a cls d f te σ H Q := q
theorem g_mkE {C : Addr} {sp : Sp} (q : ta σ H fun vs H1 => spMk C sp vs H1 Q) : tMkE C sp ta σ H Q := q
theorem g_rs {t : L2.St → Hp → XK → Prop} {W : WX} (q : t σ H fun cls d H' => W cls d σ H') : tRs t W D σ H := q
theorem g_mkX {C : Addr} {sp : Sp} {Qx : XK} (q : ta σ H fun vs H1 => vs.length ≤ 1000 ∧ ∀ a, H1 a = none → sp (.ref a :: vs) (upd H1 a (exo a C none))
 (fun v H2 => v = .non ∧ ∃ (d : Addr) (fs : List (Str × V)), H2 a = some (exo a C (some d)) ∧ H2 d = some (exd d fs) ∧ H1 d = none ∧ Qx (.ref C) (some d) (upd (del H2 a) d (.xd fs))) E0) : tMkX C sp ta σ H Qx := q
theorem g_try {c : Value} {i : Nat} {tb : WX → TS} {ts : Addr → Value → Option Addr → TS} {Wout : WX} (q : tb (wAs K c i ts Wout D) D σ H) : tTry K c i tb ts Wout D σ H := q
theorem g_callS {sp : Sp} {E : L2.St → XK} (q : ta σ H fun vs H1 => sp vs H1 Q (E σ)) : tCallS sp E ta σ H Q := q
end
def Made (a C : Addr) (fs : List (Str × V)) (H : Hp) (Q : VK) : Prop := ∀ (d : Addr) (H' : Hp), H d = none → d ≠ a → Fr [a] H H' → H' a = some (exo a C (some d)) → H' d = some (exd d fs) → Q .non H'
def IniAt (K : PySem.W.Frag) (a C : Addr) (f : Str) (H : Hp) : Prop := OexC K C ∧ PySem.W.findIn K (.ref C) f = some none ∧ H a = some (exo a C none)
def spL (K : PySem.W.Frag) : Sp := fun vs H Q _ => ∃ (a C : Addr) (y : V), vs = [.ref a, y] ∧ IniAt K a C "word" H ∧ Made a C [("word", y)] H Q
def spI1 (K : PySem.W.Frag) (w f : Str) : Sp := fun vs H Q _ => ∃ (a C : Addr) (y : V), vs = [.ref a, y] ∧ IniAt K a C "word" H ∧ PySem.W.findIn K (.ref C) f = some none ∧ Made a C [(f, y), ("word", .str w)] H Q
def spI0 (K : PySem.W.Frag) (w : Str) : Sp := fun vs H Q _ => ∃ (a C : Addr), vs = [.ref a] ∧ IniAt K a C "word" H ∧ Made a C [("word", .str w)] H Q
theorem nofix_exo {e C : Addr} {d : Option Addr} : ¬ Fix (exo e C d) := fun z => z
theorem Fr.exd {H : Hp} {a d C : Addr} {o u : HO} (hd : H d = none) (ha : H a = some (exo a C none)) : Fr [a] H (upd (upd H d o) a u) := (Fr.new hd).trans (Fr.mut List.mem_cons_self (by rw [upd_ne (ne_of_none ha hd)]; exact ha) nofix_exo)
theorem spMk_I1 {K : PySem.W.Frag} {C : Addr} {w f : Str} {y : V} {H : Hp} {Q : VK} (T : EcC K C) (h1 : PySem.W.findIn K (.ref C) "word" = some none) (h2 : PySem.W.findIn K (.ref C) f = some none)
  (q : ∀ (a d : Addr) (H' : Hp), H a = none → Fr [] H H' → H' a = some (exo a C (some d)) → H' d = some (exd d [(f, y), ("word", .str w)]) → Q (.ref a) H') : spMk C (spI1 K w f) [y] H Q :=
 ⟨Nat.le_of_ble_eq_true rfl, fun a ha => ⟨a, C, y, rfl, ⟨T.oe, h1, upd_same⟩, h2, fun d H' hd hne fr e1 e2 => ⟨rfl, q a d H' ha (fun b o hb _ => by
  have hb2 : b ≠ a := ne_of_none hb ha
  exact fr b o (by rw [upd_ne hb2]; exact hb) (.inl fun z => hb2 (List.mem_singleton.mp z))) e1 e2⟩⟩⟩
theorem spMk_I0 {K : PySem.W.Frag} {C : Addr} {w : Str} {H : Hp} {Q : VK} (T : EcC K C) (h1 : PySem.W.findIn K (.ref C) "word" = some none)
  (q : ∀ (a d : Addr) (H' : Hp), H a = none → Fr [] H H' → H' a = some (exo a C (some d)) → H' d = some (exd d [("word", .str w)]) → Q (.ref a) H') : spMk C (spI0 K w) [] H Q :=
 ⟨by decide, fun a ha => ⟨a, C, rfl, ⟨T.oe, h1, upd_same⟩, fun d H' hd hne fr e1 e2 => ⟨rfl, q a d H' ha (fun b o hb _ => by
  have hb2 : b ≠ a := ne_of_none hb ha
  exact fr b o (by rw [upd_ne hb2]; exact hb) (.inl fun z => hb2 (List.mem_singleton.mp z))) e1 e2⟩⟩⟩
end SL
namespace SL
open PySem PySem.Spec PyProof.Rows L2
section
variable {K : PySem.W.Frag} {σ : L2.St} {H : Hp} {Q : VK} {ta tb tc te : TE} {r r' : R2}
theorem g_chain (q : ta σ H fun x H1 => tb σ H1 fun y H2 => r x y H2 fun z H3 => ∃ k, z = .bl k ∧ (if k = true then tc σ H3 fun w' H4 => r' y w' H4 Q else Q (.bl false) H3)) : tChain r r' ta tb tc σ H Q := q
theorem g_rU {f : Int → V} {i : Int} (q : Q (f i) H) : rU f (.int i) H Q := ⟨i, rfl, q⟩
theorem g_istr {S : It → Hp → Prop} (q : te σ H fun v H1 => ∃ x, v = .str x ∧ S (Its x) H1) : iStr te σ H S := q
theorem g_leS {a b : Str} (q : Q (.bl (!decide (b.cps.toList < a.cps.toList))) H) : uLe (.str a) (.str b) H Q := q
end
end SL
namespace SL
open PySem PySem.Spec PyProof.Rows L2 He
def asY (g : Addr → Option Obj) (n : Nat) : List Addr := He.asD g n ++ [cStatics]
structure SaysY (fa : List Fa) (fn : List DefD) (ts : List Tab) (ex : PySem.W.Frag → Bool) (w : World) (K : PySem.W.Frag) : Prop where
 t : SaysT fa fn ts w K
 more : ex K = true
def obsY (n : Nat) (fa : List Fa) (fn : List DefD) (ts : List Tab) (ex : PySem.W.Frag → Bool) (g : Addr → Option Obj) : AlX := (obsT fa fn ts (frG g (asY g n)), ex (frG g (asY g n)))
def hookY (n : Nat) (fa : List Fa) (fn : List DefD) (ts : List Tab) (ex : PySem.W.Frag → Bool) : PySem.W.Hook where
 α := AlX
 obs := fun s => obsY n fa fn ts ex s.heap.get?
 val := fun w => (valT fn ts w, true)
 says := fun w h => ∃ K : PySem.W.Frag, K.In h ∧ SaysY fa fn ts ex w K
 of := fun _ _ e => ⟨_, frG_in, ⟨congrArg (fun z : AlX => z.1) e, congrArg (fun z : AlX => z.2) e⟩⟩
 keeps := fun _ _ _ ⟨K, hK, c⟩ k => ⟨K, PySem.W.Frag.In.keeps hK k, c⟩
theorem obsY_eq {n : Nat} {fa : List Fa} {fn : List DefD} {ts : List Tab} {ex : PySem.W.Frag → Bool} {g : Addr → Option Obj} {s : Shared} (h : ∀ a, g a = s.heap.get? a) : obsY n fa fn ts ex g = (hookY n fa fn ts ex).obs s := by
 have e : g = s.heap.get? := funext h
 rw [e] <;> rfl
end SL
set_option Elab.async false
set_option linter.all false
set_option maxRecDepth 100000
set_option maxHeartbeats 2000000
namespace SL
open PySem PySem.Spec PySem.W PyProof.Rows L2
abbrev Bod := (Hp → Prop) → L2.St → Hp → Prop
def Rounds (J : It) (g : TG) (b : Bod) (vs : List Nat) (σ : L2.St) (H0 : Hp) (Dn : Hp → Prop) : Prop :=
 ∃ (n : Nat) (Pv : Nat → Hp → Prop), Pv 0 H0 ∧ (∀ H, Pv n H → J.stop n H ∧ Dn H) ∧ ∀ i H, i < n → Pv i H → J.go i H ∧
  ∀ x H', J.yld i H x H' → g x (wipe σ vs) H' fun σ2 H2 => wipe σ2 vs = wipe σ vs ∧ b (Pv (i + 1)) σ2 H2
section
variable {Y : Cx} {pins : List (Addr × Obj)}
end
section
variable {X : Cx}
end
end SL
set_option Elab.async false
set_option linter.all false
set_option maxRecDepth 100000
set_option maxHeartbeats 2000000
namespace SL
open PySem PySem.Spec PySem.W PyProof.Rows L2
structure Clause (P : Program) (w : World) (c : Expr) (k : Nat) (acc : Value) (env : Env) (g : Comprehension) : Prop where
 at_k : (clausesOf c)[k]? = some g
 plain : g.is_async = 0
 quiet : ∀ it, (Code.compLoop c k it acc env).quiet = true
 turn : ∀ it, (model P w).den (.compLoop c k it acc env) = (compTurn c k it acc env).onRaise fun x => do noteFrame x env; theTreesLotGoes x
 start : ∀ it, (model P w).den (.compStart c k it acc env) = (compStart c k it acc env).onRaise fun x => do noteFrame x env; standAt theWindowsPlace
 under : ∀ (A : Around) it, A.under (.compLoop c k it acc env) = A ∧ A.under (.compStart c k it acc env) = A
section
variable {P : Program} {w : World} {A : Around} {c : Expr} {k : Nat} {acc : Value} {env : Env} {g : Comprehension}
end
abbrev ifB (tt : TT) (b : Bod) : Bod := fun Nx σ H => tt σ H fun t H1 => if t = true then b Nx σ H1 else Nx H1
abbrev putB (tk tv : TE) (D : Addr) : Bod := fun Nx σ H => tk σ H fun y H1 => tv σ H1 fun z H2 => ∃ kvs k, y = kV k ∧ H2 D = some (.dK kvs) ∧ kvs.length < sizeLine ∧ Nx (upd H2 D (.dK (putK kvs k z)))
section
variable {P : Program} {w : World} {env : Env} {kx vx tg iter tg1 iter1 elt : Expr} {ifs ifs1 : List Expr} {scope : Scope} {pos : Pos} {D : Addr}
end
abbrev innerB (wi1 : TI) (g1 : TG) (b1 : Bod) (vs1 : List Nat) : Bod := fun Nx σ H => wi1 σ H fun J1 H1 => Rounds J1 g1 b1 vs1 σ H1 Nx
section
variable {X : Cx}
def tDc2 (wi : TI) (g : TG) (tt : TT) (wi1 : TI) (g1 : TG) (tt1 : TT) (tk tv : TE) (vs vs1 : List Nat) : TE := fun σ H Q => wi σ H fun J H1 => ∀ D, H1 D = none →
 Rounds J g (ifB tt (innerB wi1 g1 (ifB tt1 (putB tk tv D)) vs1)) vs σ (upd H1 D (.dK [])) fun H => Q (.ref D) H
end
end SL
set_option Elab.async false
set_option linter.all false
set_option maxRecDepth 100000
set_option maxHeartbeats 2000000
namespace SL
open PySem PySem.Spec PyProof.Rows L2
section
variable {prog : Program} {w : World} {A : Around} {E : Value → Shared → Prop} {s : Shared}
end
def IteT (K : PySem.W.Frag) (a : Addr) : It :=
 ⟨fun i H => ∃ (xs : List V) (x : V), SqT K H a xs ∧ xs[i]? = some x, fun i H v H' => ∃ T x, v = .ref T ∧ H T = none ∧ H' = upd H T (.tup [.int (i : Nat), x]) ∧ ∀ xs, SqT K H a xs → xs[i]? = some x, fun i H => ∃ xs : List V, SqT K H a xs ∧ xs.length ≤ i⟩
structure EnumT (a e it : Addr) (i : Nat) (h : Heap) : Prop where
 outer : ∃ old, IsEnum h e it ((i : Nat) : Int) old
 inner : h.IsTupleIter it a i
 apart : e ≠ it ∧ a ≠ it ∧ e ≠ a
def iEnumT (K : PySem.W.Frag) (ta : TA) : TI := fun σ H R => ta σ H fun vs H1 => ∃ a xs, vs = [.ref a] ∧ SqT K H1 a xs ∧ R (IteT K a) H1
end SL
namespace SL
open PySem PySem.Spec PyProof.Rows L2
theorem g_ienT {H : Hp} {σ : L2.St} {K : PySem.W.Frag} {R : It → Hp → Prop} {ta : TA} (q : ta σ H fun vs H1 => ∃ a xs, vs = [.ref a] ∧ SqT K H1 a xs ∧ R (IteT K a) H1) : iEnumT K ta σ H R := q
theorem g_dc2 {σ : L2.St} {H : Hp} {Q : VK} {wi wi1 : TI} {g g1 : TG} {tt tt1 : TT} {tk tv : TE} {vs vs1 : List Nat} (q : wi σ H fun J H1 => ∀ D, H1 D = none → Rounds J g (ifB tt (innerB wi1 g1 (ifB tt1 (putB tk tv D)) vs1)) vs σ (upd H1 D (.dK [])) fun H => Q (.ref D) H) : tDc2 wi g tt wi1 g1 tt1 tk tv vs vs1 σ H Q := q
end SL
set_option Elab.async false
set_option linter.all false
set_option maxRecDepth 100000
set_option maxHeartbeats 2000000
namespace SL
open PySem PySem.Spec PySem.W PyProof.Rows
section
variable {prog : Program} {w : World} {A : Around} {s : Shared}
end
open L2
def Keys (sp : Sp) (K : PySem.W.Frag) (H : Hp) (xs : List V) (ds : List PyData) : Prop :=
 ∀ (j : Nat) (x : V) (d : PyData), xs[j]? = some x → ds[j]? = some d → ∀ (H' : Hp) (Q : VK), SL.Fr [] H H' → (∀ y H2, SL.Fr [] H' H2 → Dp K H2 y d → Q y H2) → sp [x] H' Q E0
section
variable {X : Cx} {pins : List (Addr × Obj)} {σ : L2.St} {H : Hp} {s : Shared} {f : Addr} {fd : FuncData} {ps : List Str} {sp : Sp} {k : Nat}
end
structure CalF (P : Program) (w : World) (K : PySem.W.Frag) (mg : Str → Option Value) (base : Heap) (k : Nat) (x : Str) (f : Addr) (sp : Sp) : Prop where
 m : mg x = some (.ref f)
 ex : ∃ (fd : FuncData) (ps : List Str), FnG P w K mg base CX0 k f fd ps sp ∧ PySem.W.keepIn K (.ref f) = true ∧ Binds K fd ps []
theorem CalF.g {P : Program} {w : World} {K : PySem.W.Frag} {mg : Str → Option Value} {base : Heap} {k : Nat} {x : Str} {f : Addr} {sp : Sp} (D : CalF P w K mg base k x f sp) : CalG P w K mg base k x sp := by
 obtain ⟨fd, ps, F, kp, b⟩ := D.ex
 exact ⟨f, fd, ps, F, D.m, kp, b⟩
end SL
set_option Elab.async false
set_option linter.all false
set_option maxRecDepth 100000
set_option maxHeartbeats 2000000
namespace SL
open PySem PySem.Spec PyProof.Rows L2
structure MetG (P : Program) (w : World) (K : PySem.W.Frag) (mg : Str → Option Value) (base : Heap) (CX : CXT) (k : Nat) (C : Addr) (m : Str) (dvs : List V) (sp : Sp) : Prop where
 cls : Cls K C
 ex : ∃ (f : Addr) (fd : FuncData) (ps : List Str) (ds : List Value), Meth K C m f ∧ FnG P w K mg base CX k f fd ps sp ∧ Binds K fd ps ds ∧ Vals dvs ds
section
variable {X : Cx} {k j : Nat} {C : Addr} {sp : Sp} {m : Str} {pos apos : Pos} {e o : Expr} {es : List Expr} {ta : TE} {t : TA} {W : WX} {dvs : List V}
end
section
variable {X : Cx} {K : PySem.W.Frag} {o e value ex : Expr} {f : Str} {pos pos' tpos : Pos} {ta tv : TE} {rd : V → V → Hp → VK → Prop} {st : Stmt}
variable {σ : L2.St} {H : Hp} {Q : VK} {C : Addr} {m : Str} {sp : Sp} {dvs : List V} {E : L2.St → XK} {t : TA} {D : Ends}
end
section
variable {σ : L2.St} {H : Hp} {D : Ends}
end
end SL
set_option Elab.async false
set_option linter.all false
set_option maxRecDepth 100000
set_option maxHeartbeats 2000000
namespace SL
open PySem PySem.Spec PyProof.Rows L2
section
variable {X : Cx} {k j n : Nat} {f C : Addr} {fd : FuncData} {ps ks : List Str} {sp : Sp} {x : Str} {p pos : Pos} {e : Expr} {es : List Expr} {kws : List Keyword} {t tk : TA} {g : List Value → List Value → List Value} {gV : List V → List V → List V} {W : WX}
structure MkX (P : Program) (w : World) (K : PySem.W.Frag) (mg : Str → Option Value) (base : Heap) (k : Nat) (x : Str) (C : Addr) (n : Nat) (ks : List Str) (gV : List V → List V → List V) (sp : Sp) : Prop where
 m : mg x = some (.ref C)
 ex : ∃ (f : Addr) (fd : FuncData) (ps : List Str) (g : List Value → List Value → List Value), Mk K C f ∧ FnG P w K mg base (L2.CX P w) k f fd ps sp ∧ KBn K fd ps (n + 1) ks g gV
end
end SL
set_option Elab.async false
set_option linter.all false
set_option maxRecDepth 100000
set_option maxHeartbeats 2000000
namespace SL
open PySem PySem.Spec PyProof.Rows L2 PySem.Builtin PySem.Builtin.Str
section
variable {X : Cx} {o e : Expr} {te : TE} {to tk : TE} {y : Str} {j1 j2 j3 : Nat} {c0 c1 c2 apos pos pm : Pos}
end
end SL
set_option Elab.async false
set_option linter.all false
set_option maxRecDepth 100000
set_option maxHeartbeats 4000000
namespace LW
open PySem PySem.Spec PyProof.Rows L2 SL
abbrev FnP (K : PySem.W.Frag) (x : Str) (st : Stmt) (f : Addr) (fd : FuncData) : Prop := FunD K x x (defArgs st) (defBody st) (defScope st) [] [] f fd
def topS (i : Nat) : Stmt := PySem.Challenge.pw_sightlore_k10_refusals_by_themselves.main.body.getD i (.Pass ⟨0, 0, 0, 0⟩)
abbrev FnM (K : PySem.W.Frag) (q : Str) (st : Stmt) (f : Addr) (fd : FuncData) : Prop := FunD K "__init__" q (defArgs st) (defBody st) (defScope st) [] [] f fd
def methS (i j : Nat) : Stmt := match topS i with
 | .ClassDef _ _ _ body _ _ _ _ _ _ _ => body.getD j (.Pass ⟨0, 0, 0, 0⟩)
 | s => s
local macro_rules | `(tactic| walk_at "q") => `(tactic| repeat walk_at "st")
local macro_rules | `(tactic| walk_at "st") => `(tactic| first
 | with_reducible refine g_seq ?_
 | ((with_reducible show tVar _ _ _ _); refine g_var rfl ?_)
 | with_reducible refine g_c ?_
 | with_reducible refine g_op ?_
 | with_reducible refine g_asg ?_
 | with_reducible refine g_name ?_
 | with_reducible refine g_if ?_
 | with_reducible refine g_test ?_
 | with_reducible refine g_k ?_
 | with_reducible refine g_ret ?_
 | with_reducible refine g_next ?_
 | with_reducible refine g_cons ?_
 | with_reducible refine g_nil ?_
 | with_reducible refine g_call ?_
 | with_reducible refine g_cb ?_
 | with_reducible refine g_addI ?_
 | with_reducible refine g_subI ?_
 | with_reducible refine g_ltI ?_
 | with_reducible refine g_leI ?_
 | with_reducible refine g_gtI ?_
 | with_reducible refine g_geI ?_
 | with_reducible refine g_eqI ?_
 | with_reducible refine g_eqS ?_
 | with_reducible refine g_eqB ?_
 | with_reducible refine g_neI ?_
 | with_reducible refine g_neS ?_
 | with_reducible refine g_neB ?_
 | ((with_reducible refine g_mulI ?h0 ?_); (case h0 => first | exact mulR (by decide) (by decide) | exact mulL (by decide) (by decide) | exact mulR (by omega) (by omega) | exact mulL (by omega) (by omega)))
 | ((with_reducible refine g_modI ?h0 ?_); (case h0 => first | decide | omega))
 | ((with_reducible refine g_divI ?h0 ?_); (case h0 => first | exact divS (by decide) (by decide) | exact divS (by omega) (by omega)))
 | ((with_reducible refine g_powI ?h0 ?_); (case h0 => exact ⟨by decide +kernel, by decide +kernel, by decide +kernel⟩))
 | ((with_reducible show rIx _ (V.ref _) (V.int _) _ _); refine g_ixL (by first | assumption | exact SqL.of (by assumption)) (by exact rfl) ?_)
 | ((with_reducible show rIx _ (V.ref _) (V.int _) _ _); refine g_ixT (by first | assumption | exact SqT.of (by assumption)) (by exact rfl) ?_)
 | ((with_reducible show uLen _ [V.ref _] _ _); first | refine g_len (.inl (SqL.of (by assumption))) ?_ | refine g_len (.inl (by assumption)) ?_ | refine g_len (.inr (by assumption)) ?_ | refine g_len (.inr (SqT.of (by assumption))) ?_)
 | with_reducible refine g_dget ?_
 | with_reducible refine g_dput ?_
 | with_reducible refine g_bm ?_
 | with_reducible refine g_bm0 ?_
 | with_reducible refine g_tyS ?_
 | ((with_reducible show tyV _ "list" (V.ref _) _ ∧ _); refine g_tyL (by first | assumption | exact SqL.of (by assumption)) ?_)
 | with_reducible refine g_pairs ?_
 | with_reducible refine g_pairs0 ?_
 | with_reducible refine g_for ?_
 | with_reducible refine g_iR1 ?_
 | with_reducible refine g_iR2 ?_
 | with_reducible refine g_iL ?_
 | with_reducible refine g_iT ?_
 | with_reducible refine g_lc ?_
 | with_reducible refine g_lc2 ?_
 | with_reducible refine g_dc ?_
 | with_reducible refine g_din ?_
 | with_reducible refine g_listRg ?_
 | with_reducible refine g_rg1 ?_
 | with_reducible refine g_izA ?_
 | with_reducible refine g_iz ?_
 | ((with_reducible show gTup _ _ _ (V.ref _) _ _ _); first | refine g_gtup (SqT.of upd_same) rfl ?_ | refine g_gtup (by first | assumption | exact SqT.of (by assumption)) rfl ?_)
 | with_reducible refine g_gcons ?_
 | with_reducible refine g_gnil ?_
 | with_reducible refine g_yes ?_
 | with_reducible refine g_andT ?_
 | with_reducible refine g_orT ?_
 | with_reducible refine g_notT ?_
 | with_reducible refine g_truB ?_
 | with_reducible refine g_and ?_
 | with_reducible refine g_or ?_
 | with_reducible refine g_not ?_
 | with_reducible refine g_ifE ?_
 | with_reducible refine g_B ?_
 | with_reducible refine g_un ?_
 | with_reducible refine g_sub ?_
 | with_reducible refine g_drop ?_
 | with_reducible refine g_sl ?_
 | with_reducible refine g_noPart ?_
 | with_reducible refine g_part ?_
 | with_reducible refine g_ki ?_
 | with_reducible refine g_fs ?_
 | with_reducible refine g_js0 ?_
 | with_reducible refine g_js ?_
 | with_reducible refine g_fmt ?_
 | with_reducible refine g_is ?_
 | with_reducible refine g_isNot ?_
 | with_reducible refine g_chain ?_
 | with_reducible refine g_istr ?_
 | with_reducible refine g_rU ?_
 | with_reducible refine g_leS ?_
 | with_reducible refine g_vei ?_
 | with_reducible refine g_dc2 ?_
 | with_reducible refine g_ienT ?_
 | with_reducible refine g_ost ?_
 | with_reducible refine g_xat ?_
 | with_reducible refine g_xs ?_
 | with_reducible refine g_mkE ?_
 | with_reducible refine g_rs ?_
 | with_reducible refine g_mkX ?_
 | with_reducible refine g_try ?_
 | with_reducible refine g_callS ?_
 | (with_reducible refine g_tup ?_)
 | (with_reducible refine g_lst ?_)
 | ((with_reducible refine g_tt ?h0 ?_); (case h0 => decide +kernel))
 | ((with_reducible refine g_ff ?h0 ?_); (case h0 => decide +kernel)))
local macro_rules | `(tactic| walk_at "sz") => `(tactic| (refine le_of ?_; (try simp only [app_len, lit_q, lit_lp, lit_rp, lit_sp, lit_cs, lit_not, lit_is, lit_if, lit_e, lit_dot]); omega))
local macro_rules | `(tactic| walk_at "fs") => `(tactic| first
 | walk_at "st"
 | (refine g_fmtS ?hz ?_; (case hz => walk_at "sz"))
 | (refine g_jsS ?hz ?_; (case hz => walk_at "sz"))
 | (refine g_addS ?hz ?_; (case hz => walk_at "sz")))
local macro_rules | `(tactic| walk_at "if") => `(tactic| ((fail_if_success (with_reducible refine g_seqIf _ _ _ _ _ _ _ ?_)); walk_at "st"))
structure Bi (mg : Str → Option Value) : Prop where
 b_len : mg "len" = none
 b_list : mg "list" = none
 b_range : mg "range" = none
def bagO (cs : Addr) (i r k : Int) : HO := .lst [.ref cs, .int i, .int r, .int k]
structure BagAt (H : Hp) (b cs : Addr) : Prop where
 ex : ∃ (cells : List Int) (i r k : Int), H b = some (bagO cs i r k) ∧ H cs = some (.lst (cells.map V.int)) ∧ 0 ≤ i
theorem BagAt.ne {H : Hp} {b cs : Addr} (h : BagAt H b cs) : cs ≠ b := by
 obtain ⟨cells, i, r, k, h1, h2, _⟩ := h.ex
 intro e
 rw [e, h1] at h2
 have h3 : [V.ref cs, .int i, .int r, .int k] = cells.map V.int := HO.lst.inj (Option.some.inj h2)
 cases cells with
 | nil => cases h3
 | cons c r => cases (List.cons.inj h3).1
theorem BagAt.fr {H H' : Hp} {b cs : Addr} {M : List Addr} (h : BagAt H b cs) (e : Fr M H H') (n1 : b ∉ M) (n2 : cs ∉ M) : BagAt H' b cs := by
 obtain ⟨cells, i, r, k, h1, h2, h3⟩ := h.ex
 exact ⟨cells, i, r, k, e.at h1 n1, e.at h2 n2, h3⟩
theorem BagAt.fr0 {H H' : Hp} {b cs : Addr} (h : BagAt H b cs) (e : Fr [] H H') : BagAt H' b cs := h.fr e (fun z => nomatch z) (fun z => nomatch z)
theorem BagAt.put {H : Hp} {b cs : Addr} (h : BagAt H b cs) {i r k : Int} (hi : 0 ≤ i) : BagAt (upd H b (bagO cs i r k)) b cs := by
 obtain ⟨cells, _, _, _, h1, h2, h3⟩ := h.ex
 exact ⟨cells, i, r, k, upd_same, by rw [upd_ne h.ne]; exact h2, hi⟩
theorem BagAt.frp {H : Hp} {b cs : Addr} (h : BagAt H b cs) {o : HO} : Fr [b] H (upd H b o) := by
 obtain ⟨cells, i, r, k, h1, h2, h3⟩ := h.ex
 exact Fr.mut (List.mem_singleton.mpr rfl) h1 nofix_lst
theorem BagAt.some {H : Hp} {b cs : Addr} (h : BagAt H b cs) {p : Addr} (hp : H p = none) : p ≠ b ∧ p ≠ cs := by
 obtain ⟨cells, i, r, k, h1, h2, h3⟩ := h.ex
 exact ⟨fun e => (by rw [e, h1] at hp; cases hp), fun e => (by rw [e, h2] at hp; cases hp)⟩
def spBag (K : PySem.W.Frag) : Sp := fun vs H Q _ => ∃ (a : Addr) (ns : List Int), vs = [.ref a] ∧ SqL K H a (ns.map V.int) ∧ ns.length ≤ 63 ∧
 ∀ b cs H', Fr [] H H' → H b = none → BagAt H' b cs → Q (.ref b) H'
def spPull : Sp := fun vs H Q _ => ∃ (b cs : Addr) (u : Int), vs = [.ref b, .int u] ∧ BagAt H b cs ∧ 0 < u ∧ u < 2 ^ 200 ∧
 ∀ d H', 0 ≤ d → d < u → BagAt H' b cs → Fr [b] H H' → Q (.int d) H'
abbrev s__law_bag : Stmt := topS 29
theorem sc__law_bag : FnScope ["_law_script", "_law_cells", "_law_knot", "_law_cell"] ["_law_script"] (defScope s__law_bag) := ⟨rfl, rfl, rfl, by decide +kernel, rfl, by decide +kernel, by decide +kernel⟩
abbrev s__law_pull : Stmt := topS 30
theorem sc__law_pull : FnScope ["_law_bag_here", "_law_upto", "_law_seed", "_law_fold", "_law_twist", "_law_drawn"] ["_law_bag_here", "_law_upto"] (defScope s__law_pull) := ⟨rfl, rfl, rfl, by decide +kernel, rfl, by decide +kernel, by decide +kernel⟩
section
variable {P : Program} {w : World} {K : PySem.W.Frag} {mg : Str → Option Value} {base : Heap}
theorem ok__law_bag {f : Addr} {fd : FuncData} (F : FnP K "_law_bag" s__law_bag f fd) (B : Bi mg) : FnG P w K mg base CX0 10 f fd ["_law_script"] (spBag K) := by
 refine okG F sc__law_bag (fun vs H Q E h => ?_) (fun cdv A outer s H vs Q E hr h => ?_)
 ·obtain ⟨a, ns, rfl, _⟩ := h
  rfl
 obtain ⟨a, ns, rfl, hS, hl, q⟩ := h
 refine ⟨_, PSs.nox (pss_cons (ps_set (i := 1) sc__law_bag.nd rfl (.inl rfl) (pe_callTy (kCall (K := K) (r := uList) rfl callu_list) (by rfl) B.b_list (by decide +kernel) (pa_cons (pe_slice (kSl (K := K) (r := rSlL) rfl sl_list) (pv 0) po_none (po_some pe_int)) pa_nil)))
 (pss_cons (ps_set (i := 2) sc__law_bag.nd rfl (.inl rfl) (pe_op (kOp (K := K) (r := uAdd) rfl opu_add) pe_int (pe_callB (kCall (K := K) (r := uLen) rfl callu_len) (by rfl) B.b_len (by decide +kernel) (pa_cons (pv 1) pa_nil))))
 (pss_cons (ps_for PassesOwn.never rfl (pi_listK (K := K) rfl (pv 1)) (pg_name (i := 3) sc__law_bag.nd rfl (by first | exact Or.inl rfl | exact Or.inr rfl)) (pss_one (ps_set (i := 2) sc__law_bag.nd rfl (.inl rfl) (pe_op opu_mod (pe_op (kOp (K := K) (r := uAdd) rfl opu_add) (pe_op opu_mul (pv 2) pe_int) (pv 3)) pe_int))))
 (pss_one (ps_ret (pe_lst (pa_cons (pv 1) (pa_cons pe_int (pa_cons pe_int (pa_cons (pv 2) pa_nil)))))))))), rd_start (σ0 := [some (.ref a), none, none, none]) rfl ?_⟩
 walk_at "q"
 refine g_slL hS fun p1 hp1 => ?_
 walk_at "q"
 refine g_list (.inl (SqL.of upd_same)) fun p2 hp2 => ?_
 have ec : cutV (ns.map V.int) none (some 63) = ns.map V.int := by
  have z := cut0 (ns.map V.int) 63
  rw [List.take_of_length_le (by rw [List.length_map]; omega)] at z
  exact z
 rw [ec] at hp2 ⊢
 have e2 : Fr [] H (upd (upd H p1 (.lst (ns.map V.int))) p2 (.lst (ns.map V.int))) := (Fr.new hp1).trans (Fr.new hp2)
 have h2 : (upd (upd H p1 (.lst (ns.map V.int))) p2 (.lst (ns.map V.int))) p2 = some (.lst (ns.map V.int)) := upd_same
 generalize upd (upd H p1 (.lst (ns.map V.int))) p2 (.lst (ns.map V.int)) = H2 at *
 walk_at "q"
 refine ⟨_, rfl, ⟨_, SqL.of h2⟩, for_list (K := K) (a := p2) (xs := ns.map V.int) (fun i σ H' => ∃ (k : Int) (c : Option V), σ = [some (.ref a), some (.ref p2), some (.int k), c] ∧ H' = H2) ⟨_, _, rfl, rfl⟩ (fun i σ H' _ h => ?_) (fun i x σ H' hi h => ?_) (fun σ H' h => ?_)⟩
 ·obtain ⟨k, c, rfl, rfl⟩ := h
  exact SqL.of h2
 ·obtain ⟨k, c, rfl, rfl⟩ := h
  obtain ⟨n, _, rfl⟩ := List.mem_map.mp (List.mem_of_getElem? hi)
  walk_at "q"
  exact ⟨_, _, rfl, rfl⟩
 ·obtain ⟨k, c, rfl, rfl⟩ := h
  walk_at "q"
  refine ⟨le_of (by simp), fun p3 hp3 => ?_⟩
  refine q p3 p2 _ (e2.trans (Fr.new hp3)) (e2.back (fun z => nomatch z) hp3) ⟨ns, 0, 0, k, upd_same, by rw [upd_ne (ne_of_none h2 hp3)]; exact h2, Int.le_refl 0⟩
theorem ok__law_pull {f : Addr} {fd : FuncData} (F : FnP K "_law_pull" s__law_pull f fd) (B : Bi mg) : FnG P w K mg base CX0 10 f fd ["_law_bag_here", "_law_upto"] spPull := by
 refine okG F sc__law_pull (fun vs H Q E h => ?_) (fun cdv A outer s H vs Q E hr h => ?_)
 ·obtain ⟨b, cs, u, rfl, _⟩ := h
  rfl
 obtain ⟨b, cs, u, rfl, hB, hu0, hu1, q⟩ := h
 obtain ⟨cells, i, r, k, hb, hc, hi⟩ := id hB.ex
 refine ⟨_, PSs.nox (pss_cons (ps_if (pt_cmpR (kOp (K := K) (r := uLt) rfl opu_lt) (pe_ix (kIx (K := K) (r := rIx) rfl ix_seq) (pv 0) pe_int (fun _ _ => rfl)) pe_int (nomark _)) (pss_cons (ps_asg (pe_op (kOp (K := K) (r := uAdd) rfl opu_add) (pe_ix (kIx (K := K) (r := rIx) rfl ix_seq) (pv 0) pe_int (fun _ _ => rfl)) pe_int) (pg_sub (pv 0) pe_int set_list))
 (pss_cons (ps_set (i := 2) sc__law_pull.nd rfl (.inl rfl) (pe_op (kOp (K := K) (r := uAdd) rfl opu_add) (pe_ix (kIx (K := K) (r := rIx) rfl ix_seq) (pv 0) pe_int (fun _ _ => rfl)) (pe_op opu_mul (pe_ix (kIx (K := K) (r := rIx) rfl ix_seq) (pv 0) pe_int (fun _ _ => rfl)) pe_int)))
 (pss_cons (ps_if (pt_cmpR opu_le (pe_ix (kIx (K := K) (r := rIx) rfl ix_seq) (pv 0) pe_int (fun _ _ => rfl)) (pe_callB (kCall (K := K) (r := uLen) rfl callu_len) (by rfl) B.b_len (by decide +kernel) (pa_cons (pe_ix (kIx (K := K) (r := rIx) rfl ix_seq) (pv 0) pe_int (fun _ _ => rfl)) pa_nil)) (nomark _)) (pss_one (ps_set (i := 2) sc__law_pull.nd rfl (.inl rfl) (pe_ix (kIx (K := K) (r := rIx) rfl ix_seq) (pe_ix (kIx (K := K) (r := rIx) rfl ix_seq) (pv 0) pe_int (fun _ _ => rfl)) (pe_op opu_sub (pe_ix (kIx (K := K) (r := rIx) rfl ix_seq) (pv 0) pe_int (fun _ _ => rfl)) pe_int) (fun _ _ => rfl)))) pss_nil)
 (pss_cons (ps_if (PW.pt (pw_or (pt_cmpR opu_gt (pe_ix (kIx (K := K) (r := rIx) rfl ix_seq) (pv 0) pe_int (fun _ _ => rfl)) (pe_callB (kCall (K := K) (r := uLen) rfl callu_len) (by rfl) B.b_len (by decide +kernel) (pa_cons (pe_ix (kIx (K := K) (r := rIx) rfl ix_seq) (pv 0) pe_int (fun _ _ => rfl)) pa_nil)) (nomark _)) (pw_or1 (pt_cmpR (kOp (K := K) (r := uLt) rfl opu_lt) (pv 2) (pe_op opu_pow pe_int pe_int) (nomark _))))) (pss_cons (ps_set (i := 3) sc__law_pull.nd rfl (.inl rfl) (pe_op opu_mod (pe_op (kOp (K := K) (r := uAdd) rfl opu_add) (pe_op (kOp (K := K) (r := uAdd) rfl opu_add) (pe_op opu_mul (pv 2) pe_int) (pe_op opu_mul (pe_ix (kIx (K := K) (r := rIx) rfl ix_seq) (pv 0) pe_int (fun _ _ => rfl)) pe_int)) (pe_ix (kIx (K := K) (r := rIx) rfl ix_seq) (pv 0) pe_int (fun _ _ => rfl))) pe_int))
 (pss_cons (ps_set (i := 4) sc__law_pull.nd rfl (.inl rfl) (pe_op opu_mod (pe_op (kOp (K := K) (r := uAdd) rfl opu_add) (pe_op opu_mul (pv 3) (pv 3)) (pe_ix (kIx (K := K) (r := rIx) rfl ix_seq) (pv 0) pe_int (fun _ _ => rfl))) pe_int))
 (pss_one (ps_ret (pe_op opu_mod (pe_op opu_div (pe_op opu_mod (pe_op (kOp (K := K) (r := uAdd) rfl opu_add) (pe_op opu_mul (pv 4) pe_int) (pv 3)) pe_int) pe_int) (pv 1)))))) pss_nil)
 (pss_one (ps_asg (pv 2) (pg_sub (pv 0) pe_int set_list))))))) pss_nil)
 (pss_cons (ps_set (i := 5) sc__law_pull.nd rfl (.inl rfl) (pe_op opu_mod (pe_ix (kIx (K := K) (r := rIx) rfl ix_seq) (pv 0) pe_int (fun _ _ => rfl)) (pv 1)))
 (pss_cons (ps_asg (pe_op opu_div (pe_ix (kIx (K := K) (r := rIx) rfl ix_seq) (pv 0) pe_int (fun _ _ => rfl)) (pv 1)) (pg_sub (pv 0) pe_int set_list))
 (pss_one (ps_ret (pv 5)))))), rd_start (σ0 := [some (.ref b), some (.int u), none, none, none, none]) rfl ?_⟩
 unfold bagO at hb
 have hcb := hB.ne
 walk_at "q"
 refine g_by (fun c1 => ?_) (fun c1 => ?_)
 ·walk_at "q"
  refine g_setL (j := 1) hb rfl ?_
  have hb1 : (upd H b (.lst ([V.ref cs, .int i, .int r, .int k].set 1 (.int (i + 1))))) b = some (.lst [V.ref cs, .int (i + 1), .int r, .int k]) := upd_same
  have hc1 : (upd H b (.lst ([V.ref cs, .int i, .int r, .int k].set 1 (.int (i + 1))))) cs = some (.lst (cells.map V.int)) := by rw [upd_ne hcb]; exact hc
  have hf1 : Fr [b] H (upd H b (.lst ([V.ref cs, .int i, .int r, .int k].set 1 (.int (i + 1))))) := hB.frp
  generalize upd H b (.lst ([V.ref cs, .int i, .int r, .int k].set 1 (.int (i + 1)))) = H1 at *
  walk_at "q"
  refine g_by (fun c2 => ?_) (fun c2 => ?_)
  ·walk_at "q"
   have hl : i + 1 ≤ (cells.length : Int) := by rw [List.length_map] at c2; exact c2
   obtain ⟨j, rfl⟩ : ∃ j : Nat, i = (j : Int) := ⟨i.toNat, by omega⟩
   have hj : j < cells.length := by omega
   have hat : atI (cells.map V.int) ((j : Int) + 1 - 1) = some (.int cells[j]) := by
    rw [show (j : Int) + 1 - 1 = (j : Int) by omega]
    exact atI_nat (by rw [List.getElem?_map, List.getElem?_eq_getElem hj]; rfl)
   refine g_ixL (SqL.of hc1) hat ?_
   generalize cells[j] = seed
   walk_at "q"
   have hB1 : BagAt H1 b cs := ⟨cells, _, r, k, hb1, hc1, by omega⟩
   refine g_by (fun c3 => ?_) (fun c3 => ?_)
   ·have key : ∀ z : Int, Q (.int (z % u)) H1 := fun z => q _ _ (Int.emod_nonneg _ (by omega)) (Int.emod_lt_of_pos _ hu0) hB1 hf1
    walk_at "q"
    exact key _
   ·walk_at "q"
    refine g_by (fun c4 => ?_) (fun c4 => ?_)
    ·have key : ∀ z : Int, Q (.int (z % u)) H1 := fun z => q _ _ (Int.emod_nonneg _ (by omega)) (Int.emod_lt_of_pos _ hu0) hB1 hf1
     walk_at "q"
     exact key _
    ·walk_at "q"
     refine g_setL (j := 2) hb1 rfl ?_
     have hb2 : (upd H1 b (.lst ([V.ref cs, .int ((j : Int) + 1), .int r, .int k].set 2 (.int seed)))) b = some (.lst [V.ref cs, .int ((j : Int) + 1), .int seed, .int k]) := upd_same
     have hB2 : BagAt (upd H1 b (.lst ([V.ref cs, .int ((j : Int) + 1), .int r, .int k].set 2 (.int seed)))) b cs := hB1.put (by omega)
     have hf2 : Fr [b] H (upd H1 b (.lst ([V.ref cs, .int ((j : Int) + 1), .int r, .int k].set 2 (.int seed)))) := hf1.trans hB1.frp
     generalize upd H1 b (.lst ([V.ref cs, .int ((j : Int) + 1), .int r, .int k].set 2 (.int seed))) = H2 at *
     walk_at "q"
     refine g_setL (j := 2) hb2 rfl ?_
     walk_at "q"
     exact q _ _ (Int.emod_nonneg _ (by omega)) (Int.emod_lt_of_pos _ hu0) (hB2.put (by omega)) (hf2.trans hB2.frp)
  ·walk_at "q"
   generalize k + (i + 1) * 7919 = seed
   walk_at "q"
   have hB1 : BagAt H1 b cs := ⟨cells, _, r, k, hb1, hc1, by omega⟩
   refine g_by (fun c3 => ?_) (fun c3 => ?_)
   ·have key : ∀ z : Int, Q (.int (z % u)) H1 := fun z => q _ _ (Int.emod_nonneg _ (by omega)) (Int.emod_lt_of_pos _ hu0) hB1 hf1
    walk_at "q"
    exact key _
   ·walk_at "q"
    refine g_by (fun c4 => ?_) (fun c4 => ?_)
    ·have key : ∀ z : Int, Q (.int (z % u)) H1 := fun z => q _ _ (Int.emod_nonneg _ (by omega)) (Int.emod_lt_of_pos _ hu0) hB1 hf1
     walk_at "q"
     exact key _
    ·walk_at "q"
     refine g_setL (j := 2) hb1 rfl ?_
     have hb2 : (upd H1 b (.lst ([V.ref cs, .int (i + 1), .int r, .int k].set 2 (.int seed)))) b = some (.lst [V.ref cs, .int (i + 1), .int seed, .int k]) := upd_same
     have hB2 : BagAt (upd H1 b (.lst ([V.ref cs, .int (i + 1), .int r, .int k].set 2 (.int seed)))) b cs := hB1.put (by omega)
     have hf2 : Fr [b] H (upd H1 b (.lst ([V.ref cs, .int (i + 1), .int r, .int k].set 2 (.int seed)))) := hf1.trans hB1.frp
     generalize upd H1 b (.lst ([V.ref cs, .int (i + 1), .int r, .int k].set 2 (.int seed))) = H2 at *
     walk_at "q"
     refine g_setL (j := 2) hb2 rfl ?_
     walk_at "q"
     exact q _ _ (Int.emod_nonneg _ (by omega)) (Int.emod_lt_of_pos _ hu0) (hB2.put (by omega)) (hf2.trans hB2.frp)
 ·walk_at "q"
  refine g_setL (j := 2) hb rfl ?_
  walk_at "q"
  exact q _ _ (Int.emod_nonneg _ (by omega)) (Int.emod_lt_of_pos _ hu0) (hB.put hi) hB.frp
end
theorem atI_in {α : Type} {xs : List α} {d : Int} (h0 : 0 ≤ d) (h1 : d < (xs.length : Int)) : ∃ v, v ∈ xs ∧ atI xs d = some v := by
 obtain ⟨j, rfl⟩ : ∃ j : Nat, d = (j : Int) := ⟨d.toNat, by omega⟩
 have hj : j < xs.length := by omega
 exact ⟨xs[j], List.getElem_mem hj, atI_nat (List.getElem?_eq_getElem hj)⟩
def spOne (K : PySem.W.Frag) : Sp := fun vs H Q _ => ∃ (b cs r : Addr) (xs : List V), vs = [.ref b, .ref r] ∧ BagAt H b cs ∧ ((SqL K H r xs ∧ r ≠ b) ∨ SqT K H r xs) ∧ 0 < xs.length ∧ xs.length ≤ 1000 ∧
 ∀ v H', v ∈ xs → BagAt H' b cs → Fr [b] H H' → Q v H'
abbrev s__law_one : Stmt := topS 31
theorem sc__law_one : FnScope ["_law_bag_here", "_law_row"] ["_law_bag_here", "_law_row"] (defScope s__law_one) := ⟨rfl, rfl, rfl, by decide +kernel, rfl, by decide +kernel, by decide +kernel⟩
section
variable {P : Program} {w : World} {K : PySem.W.Frag} {mg : Str → Option Value} {base : Heap}
theorem ok__law_one {f : Addr} {fd : FuncData} (F : FnP K "_law_one" s__law_one f fd) (B : Bi mg) (C__law_pull : CalG P w K mg base 10 "_law_pull" spPull) : FnG P w K mg base CX0 20 f fd ["_law_bag_here", "_law_row"] (spOne K) := by
 refine okG F sc__law_one (fun vs H Q E h => ?_) (fun cdv A outer s H vs Q E hr h => ?_)
 ·obtain ⟨b, cs, r, xs, rfl, _⟩ := h
  rfl
 obtain ⟨b, cs, r, xs, rfl, hB, hx, h0, h1, q⟩ := h
 refine ⟨_, PSs.nox (pss_one (ps_ret (pe_ix (kIx (K := K) (r := rIx) rfl ix_seq) (pv 1) (pe_calG C__law_pull hr rfl (pa_cons (pv 0) (pa_cons (pe_callB (kCall (K := K) (r := uLen) rfl callu_len) (by rfl) B.b_len (by decide +kernel) (pa_cons (pv 1) pa_nil)) pa_nil))) (fun _ _ => rfl)))), rd_start (σ0 := [some (.ref b), some (.ref r)]) rfl ?_⟩
 walk_at "q"
 refine g_len (hx.imp (fun z => z.1) id) ?_
 walk_at "q"
 refine ⟨b, cs, _, rfl, hB, by omega, Int.lt_of_le_of_lt (b := 1000) (by omega) (by decide), fun d H' d0 d1 hB' hF => ?_⟩
 obtain ⟨v, hv, ha⟩ := atI_in d0 d1
 rcases hx with ⟨hx, hn⟩ | hx
 ·exact g_ixL (hF.seq (fun z => hn (List.mem_singleton.mp z)) hx) ha (q v H' hv hB' hF)
 ·exact g_ixT (hF.tup hx) ha (q v H' hv hB' hF)
end
def isLet (c : Nat) : Bool := decide (97 ≤ c ∧ c ≤ 122)
def isFig (c : Nat) : Bool := decide (48 ≤ c ∧ c ≤ 57)
def WordP (x : Str) : Prop := ∃ c r, x.cps.toList = c :: r ∧ isLet c = true ∧ (∀ d ∈ r, (isLet d || isFig d) = true) ∧ r.length ≤ 11
def signs36 : Str := "abcdefghijklmnopqrstuvwxyz0123456789"
theorem signs36_list : signs36.cps.toList = [97, 98, 99, 100, 101, 102, 103, 104, 105, 106, 107, 108, 109, 110, 111, 112, 113, 114, 115, 116, 117, 118, 119, 120, 121, 122, 48, 49, 50, 51, 52, 53, 54, 55, 56, 57] := by decide +kernel
theorem signs36_at {d : Int} (h0 : 0 ≤ d) (h1 : d < 36) : ∃ c, atI signs36.cps.toList d = some c ∧ (isLet c || isFig c) = true := by
 obtain ⟨c, hc, ha⟩ := atI_in (xs := signs36.cps.toList) h0 (by rw [signs36_list]; exact h1)
 refine ⟨c, ha, ?_⟩
 rw [signs36_list] at hc
 have z : ∀ x ∈ ([97, 98, 99, 100, 101, 102, 103, 104, 105, 106, 107, 108, 109, 110, 111, 112, 113, 114, 115, 116, 117, 118, 119, 120, 121, 122, 48, 49, 50, 51, 52, 53, 54, 55, 56, 57] : List Nat), (isLet x || isFig x) = true := by decide
 exact z c hc
theorem signs26_at {d : Int} (h0 : 0 ≤ d) (h1 : d < 26) : ∃ c, atI signs36.cps.toList d = some c ∧ isLet c = true := by
 obtain ⟨j, rfl⟩ : ∃ j : Nat, d = (j : Int) := ⟨d.toNat, by omega⟩
 have hj : j < 26 := by omega
 have z : ∀ j : Nat, j < 26 → ∃ c, signs36.cps.toList[j]? = some c ∧ isLet c = true := by
  rw [signs36_list]
  intro j hj
  have y : ∀ i : Fin 26, isLet (([97, 98, 99, 100, 101, 102, 103, 104, 105, 106, 107, 108, 109, 110, 111, 112, 113, 114, 115, 116, 117, 118, 119, 120, 121, 122, 48, 49, 50, 51, 52, 53, 54, 55, 56, 57] : List Nat).getD i.val 0) = true := by decide
  have y2 := y ⟨j, hj⟩
  have hl : j < ([97, 98, 99, 100, 101, 102, 103, 104, 105, 106, 107, 108, 109, 110, 111, 112, 113, 114, 115, 116, 117, 118, 119, 120, 121, 122, 48, 49, 50, 51, 52, 53, 54, 55, 56, 57] : List Nat).length := by
   show j < 36
   omega
  refine ⟨_, List.getElem?_eq_getElem hl, ?_⟩
  rw [List.getD_eq_getElem?_getD, List.getElem?_eq_getElem hl] at y2
  exact y2
 obtain ⟨c, h1, h2⟩ := z j hj
 exact ⟨c, atI_nat h1, h2⟩
def spWord : Sp := fun vs H Q _ => ∃ (b cs : Addr), vs = [.ref b] ∧ BagAt H b cs ∧ ∀ x H', WordP x → BagAt H' b cs → Fr [b] H H' → Q (.str x) H'
abbrev s__law_word : Stmt := topS 32
theorem sc__law_word : FnScope ["_law_bag_here", "_law_signs", "_law_word_here", "_law_k"] ["_law_bag_here"] (defScope s__law_word) := ⟨rfl, rfl, rfl, by decide +kernel, rfl, by decide +kernel, by decide +kernel⟩
section
variable {P : Program} {w : World} {K : PySem.W.Frag} {mg : Str → Option Value} {base : Heap}
theorem ok__law_word {f : Addr} {fd : FuncData} (F : FnP K "_law_word" s__law_word f fd) (B : Bi mg) (C__law_pull : CalG P w K mg base 10 "_law_pull" spPull) (C__law_one : CalG P w K mg base 20 "_law_one" (spOne K)) : FnG P w K mg base CX0 30 f fd ["_law_bag_here"] spWord := by
 refine okG F sc__law_word (fun vs H Q E h => ?_) (fun cdv A outer s H vs Q E hr h => ?_)
 ·obtain ⟨b, cs, rfl, _⟩ := h
  rfl
 obtain ⟨b, cs, rfl, hB, q⟩ := h
 refine ⟨_, PSs.nox (pss_cons (ps_set (i := 1) sc__law_word.nd rfl (.inl rfl) pe_str)
 (pss_cons (ps_set (i := 2) sc__law_word.nd rfl (.inl rfl) (pe_ix (kIx (K := K) (r := rIx) rfl ix_seq) (pv 1) (pe_calG C__law_pull hr rfl (pa_cons (pv 0) (pa_cons pe_int pa_nil))) (fun _ _ => rfl)))
 (pss_cons (ps_for PassesOwn.never rfl (pi_range1 rfl B.b_range (pa_cons (pe_calG C__law_pull hr rfl (pa_cons (pv 0) (pa_cons (pe_calG C__law_one hr rfl (pa_cons (pv 0) (pa_cons (pe_lst (pa_cons pe_int (pa_cons pe_int pa_nil))) pa_nil))) pa_nil))) pa_nil)) (pg_name (i := 3) sc__law_word.nd rfl (by first | exact Or.inl rfl | exact Or.inr rfl)) (pss_one (ps_set (i := 2) sc__law_word.nd rfl (.inl rfl) (pe_op (kOp (K := K) (r := uAdd) rfl opu_add) (pv 2) (pe_ix (kIx (K := K) (r := rIx) rfl ix_seq) (pv 1) (pe_calG C__law_pull hr rfl (pa_cons (pv 0) (pa_cons pe_int pa_nil))) (fun _ _ => rfl))))))
 (pss_one (ps_ret (pv 2)))))), rd_start (σ0 := [some (.ref b), none, none, none]) rfl ?_⟩
 walk_at "q"
 refine ⟨b, cs, _, rfl, hB, by decide, by decide, fun d H1 d0 d1 hB1 hF1 => ?_⟩
 obtain ⟨c0, ha, hc0⟩ := signs26_at d0 d1
 refine g_ixS (le_of (by decide)) ha ?_
 walk_at "q"
 refine ⟨le_of (by decide), fun p hp => ?_⟩
 have hF2 : Fr [b] H1 (upd H1 p (.lst [V.int 3, .int 12])) := Fr.new hp
 have hB2 := hB1.fr0 (Fr.new (M := []) (o := .lst [V.int 3, .int 12]) hp)
 have hpl : (upd H1 p (.lst [V.int 3, .int 12])) p = some (.lst [V.int 3, .int 12]) := upd_same
 generalize upd H1 p (.lst [V.int 3, .int 12]) = H2 at *
 walk_at "q"
 refine ⟨b, cs, p, [V.int 3, .int 12], rfl, hB2, .inl ⟨SqL.of hpl, (hB1.some hp).1⟩, by decide, by decide, fun v H3 hv hB3 hF3 => ?_⟩
 obtain ⟨n, rfl, n0, n1⟩ : ∃ n : Int, v = .int n ∧ 0 < n ∧ n ≤ 12 := by
  rcases List.mem_cons.mp hv with e | hv
  ·exact ⟨3, e, by decide, by decide⟩
  ·exact ⟨12, List.mem_singleton.mp hv, by decide, by decide⟩
 walk_at "q"
 refine ⟨b, cs, n, rfl, hB3, n0, Int.lt_of_le_of_lt n1 (by decide), fun m H4 m0 m1 hB4 hF4 => ?_⟩
 walk_at "q"
 refine ⟨m, rfl, by omega, by omega, for_range (lo := 0) (n := m.toNat) (fun i σ H' => ∃ (x : Str) (z : Option V), σ = [some (.ref b), some (.str signs36), some (.str x), z] ∧ Fr [b] H H' ∧ BagAt H' b cs ∧
  ∃ r, x.cps.toList = c0 :: r ∧ (∀ d ∈ r, (isLet d || isFig d) = true) ∧ r.length = i) ⟨_, _, rfl, ((hF1.trans hF2).trans hF3).trans hF4, hB4, [], rfl, (fun _ z => nomatch z), rfl⟩ (fun i σ H' hi h => ?_) (fun σ H' h => ?_)⟩
 ·obtain ⟨x, z, rfl, hF, hB', r, hx, hr1, hr2⟩ := h
  walk_at "q"
  refine ⟨b, cs, _, rfl, hB', by decide, by decide, fun d H5 d0 d1 hB5 hF5 => ?_⟩
  obtain ⟨c1, ha1, hc1⟩ := signs36_at d0 d1
  refine g_ixS (le_of (by decide)) ha1 ?_
  have hxl : x.length = r.length + 1 := by rw [TL.len_tl]; show x.cps.toList.length = _; rw [hx]; rfl
  refine g_addS (le_of (by rw [hxl]; show r.length + 1 + 1 ≤ _; omega)) ?_
  walk_at "q"
  refine ⟨_, _, rfl, hF.trans hF5, hB5, r ++ [c1], ?_, ?_, by rw [List.length_append, hr2]; rfl⟩
  ·show TL.tl (x ++ ⟨#[c1]⟩) = _
   rw [TL.tl_append]
   show x.cps.toList ++ [c1] = _
   rw [hx]
   rfl
  ·intro d hd
   rcases List.mem_append.mp hd with hd | hd
   ·exact hr1 d hd
   ·rw [List.mem_singleton.mp hd]; exact hc1
 ·obtain ⟨x, z, rfl, hF, hB', r, hx, hr1, hr2⟩ := h
  walk_at "q"
  exact q x H' ⟨c0, r, hx, hc0, hr1, by omega⟩ hB' hF
end
structure BiX (mg : Str → Option Value) : Prop where
 b_ValueError : mg "ValueError" = none
abbrev s_LoreError_ini : Stmt := methS 1 0
theorem sc_LoreError_ini : FnScope ["self", "word"] ["self", "word"] (defScope s_LoreError_ini) := ⟨rfl, rfl, rfl, by decide +kernel, rfl, by decide +kernel, by decide +kernel⟩
theorem ok_LoreError_ini {P : Program} {w : World} {K : PySem.W.Frag} {mg : Str → Option Value} {base : Heap} {f : Addr} {fd : FuncData} (F : FnM K "LoreError.__init__" s_LoreError_ini f fd) (B : BiX mg) : FnG P w K mg base CX0 1 f fd ["self", "word"] (spL K) := by
 refine okG F sc_LoreError_ini (fun vs H Q E h => ?_) (fun cdv A outer s H vs Q E hr h => ?_)
 ·obtain ⟨a, C, y, rfl, _⟩ := h
  rfl
 obtain ⟨a, C, y, rfl, ⟨oe, hn, ha⟩, q⟩ := h
 refine ⟨_, PSs.nox (pss_cons (ps_expr (kVeI (K := K) rfl (pe_veinit (by rfl) B.b_ValueError (find_VE _) (pa_cons (pv 0) (pa_cons (pv 1) pa_nil)))))
 (pss_one (kOst (K := K) rfl (ps_ost (pv 0) (pv 1))))), rd_start (σ0 := [some (.ref a), some y]) rfl ?_⟩
 walk_at "q"
 refine ⟨a, C, [y], rfl, Nat.le_of_ble_eq_true rfl, oe, ha, ?_⟩
 walk_at "q"
 refine ⟨a, C, rfl, oe, hn, .inl ⟨ha, fun d hd hne => ?_⟩⟩
 exact q d _ hd hne (Fr.exd hd ha) upd_same (by rw [upd_ne hne]; exact upd_same)
abbrev s_BadText_ini : Stmt := methS 6 0
theorem sc_BadText_ini : FnScope ["self", "at"] ["self", "at"] (defScope s_BadText_ini) := ⟨rfl, rfl, rfl, by decide +kernel, rfl, by decide +kernel, by decide +kernel⟩
theorem ok_BadText_ini {P : Program} {w : World} {K : PySem.W.Frag} {mg : Str → Option Value} {base : Heap} {f a_TextError : Addr} {fd : FuncData} (F : FnM K "BadText.__init__" s_BadText_ini f fd) (G_TextError : ClG P w K mg base 1 "TextError" a_TextError (spL K)) : FnG P w K mg base CX0 2 f fd ["self", "at"] (spI1 K "badtext" "at") := by
 refine okG F sc_BadText_ini (fun vs H Q E h => ?_) (fun cdv A outer s H vs Q E hr h => ?_)
 ·obtain ⟨a, C, y, rfl, _⟩ := h
  rfl
 obtain ⟨a, C, y, rfl, ⟨oe, hn, ha⟩, hf, q⟩ := h
 refine ⟨_, PSs.nox (pss_cons (ps_expr (pe_fini G_TextError hr rfl (pa_cons (pv 0) (pa_cons pe_str pa_nil))))
 (pss_one (kOst (K := K) rfl (ps_ost (pv 0) (pv 1))))), rd_start (σ0 := [some (.ref a), some y]) rfl ?_⟩
 walk_at "q"
 refine ⟨a, C, _, rfl, ⟨oe, hn, ha⟩, fun d H1 hd hne fr e1 e2 => ?_⟩
 walk_at "q"
 refine ⟨a, C, rfl, oe, hf, .inr ⟨d, _, e1, e2, by decide, ?_⟩⟩
 exact q d _ hd hne (fr.over hd) (by rw [upd_ne (Ne.symm hne)]; exact e1) upd_same
abbrev s_BadName_ini : Stmt := methS 7 0
theorem sc_BadName_ini : FnScope ["self", "name"] ["self", "name"] (defScope s_BadName_ini) := ⟨rfl, rfl, rfl, by decide +kernel, rfl, by decide +kernel, by decide +kernel⟩
theorem ok_BadName_ini {P : Program} {w : World} {K : PySem.W.Frag} {mg : Str → Option Value} {base : Heap} {f a_TextError : Addr} {fd : FuncData} (F : FnM K "BadName.__init__" s_BadName_ini f fd) (G_TextError : ClG P w K mg base 1 "TextError" a_TextError (spL K)) : FnG P w K mg base CX0 2 f fd ["self", "name"] (spI1 K "badname" "name") := by
 refine okG F sc_BadName_ini (fun vs H Q E h => ?_) (fun cdv A outer s H vs Q E hr h => ?_)
 ·obtain ⟨a, C, y, rfl, _⟩ := h
  rfl
 obtain ⟨a, C, y, rfl, ⟨oe, hn, ha⟩, hf, q⟩ := h
 refine ⟨_, PSs.nox (pss_cons (ps_expr (pe_fini G_TextError hr rfl (pa_cons (pv 0) (pa_cons pe_str pa_nil))))
 (pss_one (kOst (K := K) rfl (ps_ost (pv 0) (pv 1))))), rd_start (σ0 := [some (.ref a), some y]) rfl ?_⟩
 walk_at "q"
 refine ⟨a, C, _, rfl, ⟨oe, hn, ha⟩, fun d H1 hd hne fr e1 e2 => ?_⟩
 walk_at "q"
 refine ⟨a, C, rfl, oe, hf, .inr ⟨d, _, e1, e2, by decide, ?_⟩⟩
 exact q d _ hd hne (fr.over hd) (by rw [upd_ne (Ne.symm hne)]; exact e1) upd_same
abbrev s_Loose_ini : Stmt := methS 8 0
theorem sc_Loose_ini : FnScope ["self", "name"] ["self", "name"] (defScope s_Loose_ini) := ⟨rfl, rfl, rfl, by decide +kernel, rfl, by decide +kernel, by decide +kernel⟩
theorem ok_Loose_ini {P : Program} {w : World} {K : PySem.W.Frag} {mg : Str → Option Value} {base : Heap} {f a_CheckError : Addr} {fd : FuncData} (F : FnM K "Loose.__init__" s_Loose_ini f fd) (G_CheckError : ClG P w K mg base 1 "CheckError" a_CheckError (spL K)) : FnG P w K mg base CX0 2 f fd ["self", "name"] (spI1 K "loose" "name") := by
 refine okG F sc_Loose_ini (fun vs H Q E h => ?_) (fun cdv A outer s H vs Q E hr h => ?_)
 ·obtain ⟨a, C, y, rfl, _⟩ := h
  rfl
 obtain ⟨a, C, y, rfl, ⟨oe, hn, ha⟩, hf, q⟩ := h
 refine ⟨_, PSs.nox (pss_cons (ps_expr (pe_fini G_CheckError hr rfl (pa_cons (pv 0) (pa_cons pe_str pa_nil))))
 (pss_one (kOst (K := K) rfl (ps_ost (pv 0) (pv 1))))), rd_start (σ0 := [some (.ref a), some y]) rfl ?_⟩
 walk_at "q"
 refine ⟨a, C, _, rfl, ⟨oe, hn, ha⟩, fun d H1 hd hne fr e1 e2 => ?_⟩
 walk_at "q"
 refine ⟨a, C, rfl, oe, hf, .inr ⟨d, _, e1, e2, by decide, ?_⟩⟩
 exact q d _ hd hne (fr.over hd) (by rw [upd_ne (Ne.symm hne)]; exact e1) upd_same
abbrev s_NoName_ini : Stmt := methS 9 0
theorem sc_NoName_ini : FnScope ["self", "name"] ["self", "name"] (defScope s_NoName_ini) := ⟨rfl, rfl, rfl, by decide +kernel, rfl, by decide +kernel, by decide +kernel⟩
theorem ok_NoName_ini {P : Program} {w : World} {K : PySem.W.Frag} {mg : Str → Option Value} {base : Heap} {f a_CheckError : Addr} {fd : FuncData} (F : FnM K "NoName.__init__" s_NoName_ini f fd) (G_CheckError : ClG P w K mg base 1 "CheckError" a_CheckError (spL K)) : FnG P w K mg base CX0 2 f fd ["self", "name"] (spI1 K "noname" "name") := by
 refine okG F sc_NoName_ini (fun vs H Q E h => ?_) (fun cdv A outer s H vs Q E hr h => ?_)
 ·obtain ⟨a, C, y, rfl, _⟩ := h
  rfl
 obtain ⟨a, C, y, rfl, ⟨oe, hn, ha⟩, hf, q⟩ := h
 refine ⟨_, PSs.nox (pss_cons (ps_expr (pe_fini G_CheckError hr rfl (pa_cons (pv 0) (pa_cons pe_str pa_nil))))
 (pss_one (kOst (K := K) rfl (ps_ost (pv 0) (pv 1))))), rd_start (σ0 := [some (.ref a), some y]) rfl ?_⟩
 walk_at "q"
 refine ⟨a, C, _, rfl, ⟨oe, hn, ha⟩, fun d H1 hd hne fr e1 e2 => ?_⟩
 walk_at "q"
 refine ⟨a, C, rfl, oe, hf, .inr ⟨d, _, e1, e2, by decide, ?_⟩⟩
 exact q d _ hd hne (fr.over hd) (by rw [upd_ne (Ne.symm hne)]; exact e1) upd_same
abbrev s_BadWide_ini : Stmt := methS 10 0
theorem sc_BadWide_ini : FnScope ["self", "name"] ["self", "name"] (defScope s_BadWide_ini) := ⟨rfl, rfl, rfl, by decide +kernel, rfl, by decide +kernel, by decide +kernel⟩
theorem ok_BadWide_ini {P : Program} {w : World} {K : PySem.W.Frag} {mg : Str → Option Value} {base : Heap} {f a_CheckError : Addr} {fd : FuncData} (F : FnM K "BadWide.__init__" s_BadWide_ini f fd) (G_CheckError : ClG P w K mg base 1 "CheckError" a_CheckError (spL K)) : FnG P w K mg base CX0 2 f fd ["self", "name"] (spI1 K "badwide" "name") := by
 refine okG F sc_BadWide_ini (fun vs H Q E h => ?_) (fun cdv A outer s H vs Q E hr h => ?_)
 ·obtain ⟨a, C, y, rfl, _⟩ := h
  rfl
 obtain ⟨a, C, y, rfl, ⟨oe, hn, ha⟩, hf, q⟩ := h
 refine ⟨_, PSs.nox (pss_cons (ps_expr (pe_fini G_CheckError hr rfl (pa_cons (pv 0) (pa_cons pe_str pa_nil))))
 (pss_one (kOst (K := K) rfl (ps_ost (pv 0) (pv 1))))), rd_start (σ0 := [some (.ref a), some y]) rfl ?_⟩
 walk_at "q"
 refine ⟨a, C, _, rfl, ⟨oe, hn, ha⟩, fun d H1 hd hne fr e1 e2 => ?_⟩
 walk_at "q"
 refine ⟨a, C, rfl, oe, hf, .inr ⟨d, _, e1, e2, by decide, ?_⟩⟩
 exact q d _ hd hne (fr.over hd) (by rw [upd_ne (Ne.symm hne)]; exact e1) upd_same
abbrev s_BadKind_ini : Stmt := methS 11 0
theorem sc_BadKind_ini : FnScope ["self"] ["self"] (defScope s_BadKind_ini) := ⟨rfl, rfl, rfl, by decide +kernel, rfl, by decide +kernel, by decide +kernel⟩
theorem ok_BadKind_ini {P : Program} {w : World} {K : PySem.W.Frag} {mg : Str → Option Value} {base : Heap} {f a_CheckError : Addr} {fd : FuncData} (F : FnM K "BadKind.__init__" s_BadKind_ini f fd) (G_CheckError : ClG P w K mg base 1 "CheckError" a_CheckError (spL K)) : FnG P w K mg base CX0 2 f fd ["self"] (spI0 K "badkind") := by
 refine okG F sc_BadKind_ini (fun vs H Q E h => ?_) (fun cdv A outer s H vs Q E hr h => ?_)
 ·obtain ⟨a, C, rfl, _⟩ := h
  rfl
 obtain ⟨a, C, rfl, ⟨oe, hn, ha⟩, q⟩ := h
 refine ⟨_, PSs.nox (pss_one (ps_expr (pe_fini G_CheckError hr rfl (pa_cons (pv 0) (pa_cons pe_str pa_nil))))), rd_start (σ0 := [some (.ref a)]) rfl ?_⟩
 walk_at "q"
 exact ⟨a, C, _, rfl, ⟨oe, hn, ha⟩, fun d H1 hd hne fr e1 e2 => q d H1 hd hne fr e1 e2⟩
abbrev s_Ring_ini : Stmt := methS 12 0
theorem sc_Ring_ini : FnScope ["self", "heads"] ["self", "heads"] (defScope s_Ring_ini) := ⟨rfl, rfl, rfl, by decide +kernel, rfl, by decide +kernel, by decide +kernel⟩
theorem ok_Ring_ini {P : Program} {w : World} {K : PySem.W.Frag} {mg : Str → Option Value} {base : Heap} {f a_CheckError : Addr} {fd : FuncData} (F : FnM K "Ring.__init__" s_Ring_ini f fd) (G_CheckError : ClG P w K mg base 1 "CheckError" a_CheckError (spL K)) : FnG P w K mg base CX0 2 f fd ["self", "heads"] (spI1 K "ring" "heads") := by
 refine okG F sc_Ring_ini (fun vs H Q E h => ?_) (fun cdv A outer s H vs Q E hr h => ?_)
 ·obtain ⟨a, C, y, rfl, _⟩ := h
  rfl
 obtain ⟨a, C, y, rfl, ⟨oe, hn, ha⟩, hf, q⟩ := h
 refine ⟨_, PSs.nox (pss_cons (ps_expr (pe_fini G_CheckError hr rfl (pa_cons (pv 0) (pa_cons pe_str pa_nil))))
 (pss_one (kOst (K := K) rfl (ps_ost (pv 0) (pv 1))))), rd_start (σ0 := [some (.ref a), some y]) rfl ?_⟩
 walk_at "q"
 refine ⟨a, C, _, rfl, ⟨oe, hn, ha⟩, fun d H1 hd hne fr e1 e2 => ?_⟩
 walk_at "q"
 refine ⟨a, C, rfl, oe, hf, .inr ⟨d, _, e1, e2, by decide, ?_⟩⟩
 exact q d _ hd hne (fr.over hd) (by rw [upd_ne (Ne.symm hne)]; exact e1) upd_same
abbrev s_Endless_ini : Stmt := methS 13 0
theorem sc_Endless_ini : FnScope ["self", "heads"] ["self", "heads"] (defScope s_Endless_ini) := ⟨rfl, rfl, rfl, by decide +kernel, rfl, by decide +kernel, by decide +kernel⟩
theorem ok_Endless_ini {P : Program} {w : World} {K : PySem.W.Frag} {mg : Str → Option Value} {base : Heap} {f a_CheckError : Addr} {fd : FuncData} (F : FnM K "Endless.__init__" s_Endless_ini f fd) (G_CheckError : ClG P w K mg base 1 "CheckError" a_CheckError (spL K)) : FnG P w K mg base CX0 2 f fd ["self", "heads"] (spI1 K "endless" "heads") := by
 refine okG F sc_Endless_ini (fun vs H Q E h => ?_) (fun cdv A outer s H vs Q E hr h => ?_)
 ·obtain ⟨a, C, y, rfl, _⟩ := h
  rfl
 obtain ⟨a, C, y, rfl, ⟨oe, hn, ha⟩, hf, q⟩ := h
 refine ⟨_, PSs.nox (pss_cons (ps_expr (pe_fini G_CheckError hr rfl (pa_cons (pv 0) (pa_cons pe_str pa_nil))))
 (pss_one (kOst (K := K) rfl (ps_ost (pv 0) (pv 1))))), rd_start (σ0 := [some (.ref a), some y]) rfl ?_⟩
 walk_at "q"
 refine ⟨a, C, _, rfl, ⟨oe, hn, ha⟩, fun d H1 hd hne fr e1 e2 => ?_⟩
 walk_at "q"
 refine ⟨a, C, rfl, oe, hf, .inr ⟨d, _, e1, e2, by decide, ?_⟩⟩
 exact q d _ hd hne (fr.over hd) (by rw [upd_ne (Ne.symm hne)]; exact e1) upd_same
abbrev s_TooGreat_ini : Stmt := methS 14 0
theorem sc_TooGreat_ini : FnScope ["self"] ["self"] (defScope s_TooGreat_ini) := ⟨rfl, rfl, rfl, by decide +kernel, rfl, by decide +kernel, by decide +kernel⟩
theorem ok_TooGreat_ini {P : Program} {w : World} {K : PySem.W.Frag} {mg : Str → Option Value} {base : Heap} {f a_CheckError : Addr} {fd : FuncData} (F : FnM K "TooGreat.__init__" s_TooGreat_ini f fd) (G_CheckError : ClG P w K mg base 1 "CheckError" a_CheckError (spL K)) : FnG P w K mg base CX0 2 f fd ["self"] (spI0 K "toogreat") := by
 refine okG F sc_TooGreat_ini (fun vs H Q E h => ?_) (fun cdv A outer s H vs Q E hr h => ?_)
 ·obtain ⟨a, C, rfl, _⟩ := h
  rfl
 obtain ⟨a, C, rfl, ⟨oe, hn, ha⟩, q⟩ := h
 refine ⟨_, PSs.nox (pss_one (ps_expr (pe_fini G_CheckError hr rfl (pa_cons (pv 0) (pa_cons pe_str pa_nil))))), rd_start (σ0 := [some (.ref a)]) rfl ?_⟩
 walk_at "q"
 exact ⟨a, C, _, rfl, ⟨oe, hn, ha⟩, fun d H1 hd hne fr e1 e2 => q d H1 hd hne fr e1 e2⟩
abbrev s_NotThere_ini : Stmt := methS 15 0
theorem sc_NotThere_ini : FnScope ["self"] ["self"] (defScope s_NotThere_ini) := ⟨rfl, rfl, rfl, by decide +kernel, rfl, by decide +kernel, by decide +kernel⟩
theorem ok_NotThere_ini {P : Program} {w : World} {K : PySem.W.Frag} {mg : Str → Option Value} {base : Heap} {f a_CheckError : Addr} {fd : FuncData} (F : FnM K "NotThere.__init__" s_NotThere_ini f fd) (G_CheckError : ClG P w K mg base 1 "CheckError" a_CheckError (spL K)) : FnG P w K mg base CX0 2 f fd ["self"] (spI0 K "notthere") := by
 refine okG F sc_NotThere_ini (fun vs H Q E h => ?_) (fun cdv A outer s H vs Q E hr h => ?_)
 ·obtain ⟨a, C, rfl, _⟩ := h
  rfl
 obtain ⟨a, C, rfl, ⟨oe, hn, ha⟩, q⟩ := h
 refine ⟨_, PSs.nox (pss_one (ps_expr (pe_fini G_CheckError hr rfl (pa_cons (pv 0) (pa_cons pe_str pa_nil))))), rd_start (σ0 := [some (.ref a)]) rfl ?_⟩
 walk_at "q"
 exact ⟨a, C, _, rfl, ⟨oe, hn, ha⟩, fun d H1 hd hne fr e1 e2 => q d H1 hd hne fr e1 e2⟩
abbrev s_Present_ini : Stmt := methS 16 0
theorem sc_Present_ini : FnScope ["self"] ["self"] (defScope s_Present_ini) := ⟨rfl, rfl, rfl, by decide +kernel, rfl, by decide +kernel, by decide +kernel⟩
theorem ok_Present_ini {P : Program} {w : World} {K : PySem.W.Frag} {mg : Str → Option Value} {base : Heap} {f a_CheckError : Addr} {fd : FuncData} (F : FnM K "Present.__init__" s_Present_ini f fd) (G_CheckError : ClG P w K mg base 1 "CheckError" a_CheckError (spL K)) : FnG P w K mg base CX0 2 f fd ["self"] (spI0 K "present") := by
 refine okG F sc_Present_ini (fun vs H Q E h => ?_) (fun cdv A outer s H vs Q E hr h => ?_)
 ·obtain ⟨a, C, rfl, _⟩ := h
  rfl
 obtain ⟨a, C, rfl, ⟨oe, hn, ha⟩, q⟩ := h
 refine ⟨_, PSs.nox (pss_one (ps_expr (pe_fini G_CheckError hr rfl (pa_cons (pv 0) (pa_cons pe_str pa_nil))))), rd_start (σ0 := [some (.ref a)]) rfl ?_⟩
 walk_at "q"
 exact ⟨a, C, _, rfl, ⟨oe, hn, ha⟩, fun d H1 hd hne fr e1 e2 => q d H1 hd hne fr e1 e2⟩
abbrev s_NotPlain_ini : Stmt := methS 17 0
theorem sc_NotPlain_ini : FnScope ["self"] ["self"] (defScope s_NotPlain_ini) := ⟨rfl, rfl, rfl, by decide +kernel, rfl, by decide +kernel, by decide +kernel⟩
theorem ok_NotPlain_ini {P : Program} {w : World} {K : PySem.W.Frag} {mg : Str → Option Value} {base : Heap} {f a_CheckError : Addr} {fd : FuncData} (F : FnM K "NotPlain.__init__" s_NotPlain_ini f fd) (G_CheckError : ClG P w K mg base 1 "CheckError" a_CheckError (spL K)) : FnG P w K mg base CX0 2 f fd ["self"] (spI0 K "notplain") := by
 refine okG F sc_NotPlain_ini (fun vs H Q E h => ?_) (fun cdv A outer s H vs Q E hr h => ?_)
 ·obtain ⟨a, C, rfl, _⟩ := h
  rfl
 obtain ⟨a, C, rfl, ⟨oe, hn, ha⟩, q⟩ := h
 refine ⟨_, PSs.nox (pss_one (ps_expr (pe_fini G_CheckError hr rfl (pa_cons (pv 0) (pa_cons pe_str pa_nil))))), rd_start (σ0 := [some (.ref a)]) rfl ?_⟩
 walk_at "q"
 exact ⟨a, C, _, rfl, ⟨oe, hn, ha⟩, fun d H1 hd hne fr e1 e2 => q d H1 hd hne fr e1 e2⟩
abbrev s_Taken_ini : Stmt := methS 18 0
theorem sc_Taken_ini : FnScope ["self", "name"] ["self", "name"] (defScope s_Taken_ini) := ⟨rfl, rfl, rfl, by decide +kernel, rfl, by decide +kernel, by decide +kernel⟩
theorem ok_Taken_ini {P : Program} {w : World} {K : PySem.W.Frag} {mg : Str → Option Value} {base : Heap} {f a_DeedError : Addr} {fd : FuncData} (F : FnM K "Taken.__init__" s_Taken_ini f fd) (G_DeedError : ClG P w K mg base 1 "DeedError" a_DeedError (spL K)) : FnG P w K mg base CX0 2 f fd ["self", "name"] (spI1 K "taken" "name") := by
 refine okG F sc_Taken_ini (fun vs H Q E h => ?_) (fun cdv A outer s H vs Q E hr h => ?_)
 ·obtain ⟨a, C, y, rfl, _⟩ := h
  rfl
 obtain ⟨a, C, y, rfl, ⟨oe, hn, ha⟩, hf, q⟩ := h
 refine ⟨_, PSs.nox (pss_cons (ps_expr (pe_fini G_DeedError hr rfl (pa_cons (pv 0) (pa_cons pe_str pa_nil))))
 (pss_one (kOst (K := K) rfl (ps_ost (pv 0) (pv 1))))), rd_start (σ0 := [some (.ref a), some y]) rfl ?_⟩
 walk_at "q"
 refine ⟨a, C, _, rfl, ⟨oe, hn, ha⟩, fun d H1 hd hne fr e1 e2 => ?_⟩
 walk_at "q"
 refine ⟨a, C, rfl, oe, hf, .inr ⟨d, _, e1, e2, by decide, ?_⟩⟩
 exact q d _ hd hne (fr.over hd) (by rw [upd_ne (Ne.symm hne)]; exact e1) upd_same
abbrev s_NoThing_ini : Stmt := methS 19 0
theorem sc_NoThing_ini : FnScope ["self", "name"] ["self", "name"] (defScope s_NoThing_ini) := ⟨rfl, rfl, rfl, by decide +kernel, rfl, by decide +kernel, by decide +kernel⟩
theorem ok_NoThing_ini {P : Program} {w : World} {K : PySem.W.Frag} {mg : Str → Option Value} {base : Heap} {f a_DeedError : Addr} {fd : FuncData} (F : FnM K "NoThing.__init__" s_NoThing_ini f fd) (G_DeedError : ClG P w K mg base 1 "DeedError" a_DeedError (spL K)) : FnG P w K mg base CX0 2 f fd ["self", "name"] (spI1 K "nothing" "name") := by
 refine okG F sc_NoThing_ini (fun vs H Q E h => ?_) (fun cdv A outer s H vs Q E hr h => ?_)
 ·obtain ⟨a, C, y, rfl, _⟩ := h
  rfl
 obtain ⟨a, C, y, rfl, ⟨oe, hn, ha⟩, hf, q⟩ := h
 refine ⟨_, PSs.nox (pss_cons (ps_expr (pe_fini G_DeedError hr rfl (pa_cons (pv 0) (pa_cons pe_str pa_nil))))
 (pss_one (kOst (K := K) rfl (ps_ost (pv 0) (pv 1))))), rd_start (σ0 := [some (.ref a), some y]) rfl ?_⟩
 walk_at "q"
 refine ⟨a, C, _, rfl, ⟨oe, hn, ha⟩, fun d H1 hd hne fr e1 e2 => ?_⟩
 walk_at "q"
 refine ⟨a, C, rfl, oe, hf, .inr ⟨d, _, e1, e2, by decide, ?_⟩⟩
 exact q d _ hd hne (fr.over hd) (by rw [upd_ne (Ne.symm hne)]; exact e1) upd_same
abbrev s_BadColumns_ini : Stmt := methS 20 0
theorem sc_BadColumns_ini : FnScope ["self"] ["self"] (defScope s_BadColumns_ini) := ⟨rfl, rfl, rfl, by decide +kernel, rfl, by decide +kernel, by decide +kernel⟩
theorem ok_BadColumns_ini {P : Program} {w : World} {K : PySem.W.Frag} {mg : Str → Option Value} {base : Heap} {f a_DeedError : Addr} {fd : FuncData} (F : FnM K "BadColumns.__init__" s_BadColumns_ini f fd) (G_DeedError : ClG P w K mg base 1 "DeedError" a_DeedError (spL K)) : FnG P w K mg base CX0 2 f fd ["self"] (spI0 K "badcolumns") := by
 refine okG F sc_BadColumns_ini (fun vs H Q E h => ?_) (fun cdv A outer s H vs Q E hr h => ?_)
 ·obtain ⟨a, C, rfl, _⟩ := h
  rfl
 obtain ⟨a, C, rfl, ⟨oe, hn, ha⟩, q⟩ := h
 refine ⟨_, PSs.nox (pss_one (ps_expr (pe_fini G_DeedError hr rfl (pa_cons (pv 0) (pa_cons pe_str pa_nil))))), rd_start (σ0 := [some (.ref a)]) rfl ?_⟩
 walk_at "q"
 exact ⟨a, C, _, rfl, ⟨oe, hn, ha⟩, fun d H1 hd hne fr e1 e2 => q d H1 hd hne fr e1 e2⟩
abbrev s_BadRow_ini : Stmt := methS 21 0
theorem sc_BadRow_ini : FnScope ["self"] ["self"] (defScope s_BadRow_ini) := ⟨rfl, rfl, rfl, by decide +kernel, rfl, by decide +kernel, by decide +kernel⟩
theorem ok_BadRow_ini {P : Program} {w : World} {K : PySem.W.Frag} {mg : Str → Option Value} {base : Heap} {f a_DeedError : Addr} {fd : FuncData} (F : FnM K "BadRow.__init__" s_BadRow_ini f fd) (G_DeedError : ClG P w K mg base 1 "DeedError" a_DeedError (spL K)) : FnG P w K mg base CX0 2 f fd ["self"] (spI0 K "badrow") := by
 refine okG F sc_BadRow_ini (fun vs H Q E h => ?_) (fun cdv A outer s H vs Q E hr h => ?_)
 ·obtain ⟨a, C, rfl, _⟩ := h
  rfl
 obtain ⟨a, C, rfl, ⟨oe, hn, ha⟩, q⟩ := h
 refine ⟨_, PSs.nox (pss_one (ps_expr (pe_fini G_DeedError hr rfl (pa_cons (pv 0) (pa_cons pe_str pa_nil))))), rd_start (σ0 := [some (.ref a)]) rfl ?_⟩
 walk_at "q"
 exact ⟨a, C, _, rfl, ⟨oe, hn, ha⟩, fun d H1 hd hne fr e1 e2 => q d H1 hd hne fr e1 e2⟩
abbrev s_Full_ini : Stmt := methS 22 0
theorem sc_Full_ini : FnScope ["self", "most"] ["self", "most"] (defScope s_Full_ini) := ⟨rfl, rfl, rfl, by decide +kernel, rfl, by decide +kernel, by decide +kernel⟩
theorem ok_Full_ini {P : Program} {w : World} {K : PySem.W.Frag} {mg : Str → Option Value} {base : Heap} {f a_DeedError : Addr} {fd : FuncData} (F : FnM K "Full.__init__" s_Full_ini f fd) (G_DeedError : ClG P w K mg base 1 "DeedError" a_DeedError (spL K)) : FnG P w K mg base CX0 2 f fd ["self", "most"] (spI1 K "full" "most") := by
 refine okG F sc_Full_ini (fun vs H Q E h => ?_) (fun cdv A outer s H vs Q E hr h => ?_)
 ·obtain ⟨a, C, y, rfl, _⟩ := h
  rfl
 obtain ⟨a, C, y, rfl, ⟨oe, hn, ha⟩, hf, q⟩ := h
 refine ⟨_, PSs.nox (pss_cons (ps_expr (pe_fini G_DeedError hr rfl (pa_cons (pv 0) (pa_cons pe_str pa_nil))))
 (pss_one (kOst (K := K) rfl (ps_ost (pv 0) (pv 1))))), rd_start (σ0 := [some (.ref a), some y]) rfl ?_⟩
 walk_at "q"
 refine ⟨a, C, _, rfl, ⟨oe, hn, ha⟩, fun d H1 hd hne fr e1 e2 => ?_⟩
 walk_at "q"
 refine ⟨a, C, rfl, oe, hf, .inr ⟨d, _, e1, e2, by decide, ?_⟩⟩
 exact q d _ hd hne (fr.over hd) (by rw [upd_ne (Ne.symm hne)]; exact e1) upd_same
abbrev s_Uneven_ini : Stmt := methS 23 0
theorem sc_Uneven_ini : FnScope ["self", "number"] ["self", "number"] (defScope s_Uneven_ini) := ⟨rfl, rfl, rfl, by decide +kernel, rfl, by decide +kernel, by decide +kernel⟩
theorem ok_Uneven_ini {P : Program} {w : World} {K : PySem.W.Frag} {mg : Str → Option Value} {base : Heap} {f a_DeedError : Addr} {fd : FuncData} (F : FnM K "Uneven.__init__" s_Uneven_ini f fd) (G_DeedError : ClG P w K mg base 1 "DeedError" a_DeedError (spL K)) : FnG P w K mg base CX0 2 f fd ["self", "number"] (spI1 K "uneven" "number") := by
 refine okG F sc_Uneven_ini (fun vs H Q E h => ?_) (fun cdv A outer s H vs Q E hr h => ?_)
 ·obtain ⟨a, C, y, rfl, _⟩ := h
  rfl
 obtain ⟨a, C, y, rfl, ⟨oe, hn, ha⟩, hf, q⟩ := h
 refine ⟨_, PSs.nox (pss_cons (ps_expr (pe_fini G_DeedError hr rfl (pa_cons (pv 0) (pa_cons pe_str pa_nil))))
 (pss_one (kOst (K := K) rfl (ps_ost (pv 0) (pv 1))))), rd_start (σ0 := [some (.ref a), some y]) rfl ?_⟩
 walk_at "q"
 refine ⟨a, C, _, rfl, ⟨oe, hn, ha⟩, fun d H1 hd hne fr e1 e2 => ?_⟩
 walk_at "q"
 refine ⟨a, C, rfl, oe, hf, .inr ⟨d, _, e1, e2, by decide, ?_⟩⟩
 exact q d _ hd hne (fr.over hd) (by rw [upd_ne (Ne.symm hne)]; exact e1) upd_same
abbrev s_NothingLeft_ini : Stmt := methS 24 0
theorem sc_NothingLeft_ini : FnScope ["self", "way"] ["self", "way"] (defScope s_NothingLeft_ini) := ⟨rfl, rfl, rfl, by decide +kernel, rfl, by decide +kernel, by decide +kernel⟩
theorem ok_NothingLeft_ini {P : Program} {w : World} {K : PySem.W.Frag} {mg : Str → Option Value} {base : Heap} {f a_DeedError : Addr} {fd : FuncData} (F : FnM K "NothingLeft.__init__" s_NothingLeft_ini f fd) (G_DeedError : ClG P w K mg base 1 "DeedError" a_DeedError (spL K)) : FnG P w K mg base CX0 2 f fd ["self", "way"] (spI1 K "nothingleft" "way") := by
 refine okG F sc_NothingLeft_ini (fun vs H Q E h => ?_) (fun cdv A outer s H vs Q E hr h => ?_)
 ·obtain ⟨a, C, y, rfl, _⟩ := h
  rfl
 obtain ⟨a, C, y, rfl, ⟨oe, hn, ha⟩, hf, q⟩ := h
 refine ⟨_, PSs.nox (pss_cons (ps_expr (pe_fini G_DeedError hr rfl (pa_cons (pv 0) (pa_cons pe_str pa_nil))))
 (pss_one (kOst (K := K) rfl (ps_ost (pv 0) (pv 1))))), rd_start (σ0 := [some (.ref a), some y]) rfl ?_⟩
 walk_at "q"
 refine ⟨a, C, _, rfl, ⟨oe, hn, ha⟩, fun d H1 hd hne fr e1 e2 => ?_⟩
 walk_at "q"
 refine ⟨a, C, rfl, oe, hf, .inr ⟨d, _, e1, e2, by decide, ?_⟩⟩
 exact q d _ hd hne (fr.over hd) (by rw [upd_ne (Ne.symm hne)]; exact e1) upd_same
abbrev s_NoHand_ini : Stmt := methS 25 0
theorem sc_NoHand_ini : FnScope ["self", "name"] ["self", "name"] (defScope s_NoHand_ini) := ⟨rfl, rfl, rfl, by decide +kernel, rfl, by decide +kernel, by decide +kernel⟩
theorem ok_NoHand_ini {P : Program} {w : World} {K : PySem.W.Frag} {mg : Str → Option Value} {base : Heap} {f a_SeatError : Addr} {fd : FuncData} (F : FnM K "NoHand.__init__" s_NoHand_ini f fd) (G_SeatError : ClG P w K mg base 1 "SeatError" a_SeatError (spL K)) : FnG P w K mg base CX0 2 f fd ["self", "name"] (spI1 K "nohand" "name") := by
 refine okG F sc_NoHand_ini (fun vs H Q E h => ?_) (fun cdv A outer s H vs Q E hr h => ?_)
 ·obtain ⟨a, C, y, rfl, _⟩ := h
  rfl
 obtain ⟨a, C, y, rfl, ⟨oe, hn, ha⟩, hf, q⟩ := h
 refine ⟨_, PSs.nox (pss_cons (ps_expr (pe_fini G_SeatError hr rfl (pa_cons (pv 0) (pa_cons pe_str pa_nil))))
 (pss_one (kOst (K := K) rfl (ps_ost (pv 0) (pv 1))))), rd_start (σ0 := [some (.ref a), some y]) rfl ?_⟩
 walk_at "q"
 refine ⟨a, C, _, rfl, ⟨oe, hn, ha⟩, fun d H1 hd hne fr e1 e2 => ?_⟩
 walk_at "q"
 refine ⟨a, C, rfl, oe, hf, .inr ⟨d, _, e1, e2, by decide, ?_⟩⟩
 exact q d _ hd hne (fr.over hd) (by rw [upd_ne (Ne.symm hne)]; exact e1) upd_same
abbrev s_NoMoment_ini : Stmt := methS 26 0
theorem sc_NoMoment_ini : FnScope ["self", "at"] ["self", "at"] (defScope s_NoMoment_ini) := ⟨rfl, rfl, rfl, by decide +kernel, rfl, by decide +kernel, by decide +kernel⟩
theorem ok_NoMoment_ini {P : Program} {w : World} {K : PySem.W.Frag} {mg : Str → Option Value} {base : Heap} {f a_SeatError : Addr} {fd : FuncData} (F : FnM K "NoMoment.__init__" s_NoMoment_ini f fd) (G_SeatError : ClG P w K mg base 1 "SeatError" a_SeatError (spL K)) : FnG P w K mg base CX0 2 f fd ["self", "at"] (spI1 K "nomoment" "at") := by
 refine okG F sc_NoMoment_ini (fun vs H Q E h => ?_) (fun cdv A outer s H vs Q E hr h => ?_)
 ·obtain ⟨a, C, y, rfl, _⟩ := h
  rfl
 obtain ⟨a, C, y, rfl, ⟨oe, hn, ha⟩, hf, q⟩ := h
 refine ⟨_, PSs.nox (pss_cons (ps_expr (pe_fini G_SeatError hr rfl (pa_cons (pv 0) (pa_cons pe_str pa_nil))))
 (pss_one (kOst (K := K) rfl (ps_ost (pv 0) (pv 1))))), rd_start (σ0 := [some (.ref a), some y]) rfl ?_⟩
 walk_at "q"
 refine ⟨a, C, _, rfl, ⟨oe, hn, ha⟩, fun d H1 hd hne fr e1 e2 => ?_⟩
 walk_at "q"
 refine ⟨a, C, rfl, oe, hf, .inr ⟨d, _, e1, e2, by decide, ?_⟩⟩
 exact q d _ hd hne (fr.over hd) (by rw [upd_ne (Ne.symm hne)]; exact e1) upd_same
abbrev s_Busy_ini : Stmt := methS 27 0
theorem sc_Busy_ini : FnScope ["self"] ["self"] (defScope s_Busy_ini) := ⟨rfl, rfl, rfl, by decide +kernel, rfl, by decide +kernel, by decide +kernel⟩
theorem ok_Busy_ini {P : Program} {w : World} {K : PySem.W.Frag} {mg : Str → Option Value} {base : Heap} {f a_SeatError : Addr} {fd : FuncData} (F : FnM K "Busy.__init__" s_Busy_ini f fd) (G_SeatError : ClG P w K mg base 1 "SeatError" a_SeatError (spL K)) : FnG P w K mg base CX0 2 f fd ["self"] (spI0 K "busy") := by
 refine okG F sc_Busy_ini (fun vs H Q E h => ?_) (fun cdv A outer s H vs Q E hr h => ?_)
 ·obtain ⟨a, C, rfl, _⟩ := h
  rfl
 obtain ⟨a, C, rfl, ⟨oe, hn, ha⟩, q⟩ := h
 refine ⟨_, PSs.nox (pss_one (ps_expr (pe_fini G_SeatError hr rfl (pa_cons (pv 0) (pa_cons pe_str pa_nil))))), rd_start (σ0 := [some (.ref a)]) rfl ?_⟩
 walk_at "q"
 exact ⟨a, C, _, rfl, ⟨oe, hn, ha⟩, fun d H1 hd hne fr e1 e2 => q d H1 hd hne fr e1 e2⟩
structure RowS where
 w : Str
 C : Addr
 fam : Int
 fs : List (Str × V)
def RowAt (K : PySem.W.Frag) (H : Hp) (v : V) (r : RowS) : Prop := ∃ p e d : Addr, v = .ref p ∧ SqT K H p [.str r.w, .ref e, .int r.fam] ∧ H e = some (exo e r.C (some d)) ∧ H d = some (exd d r.fs)
theorem RowAt.fr {K : PySem.W.Frag} {H H' : Hp} {v : V} {r : RowS} (h : RowAt K H v r) (e : Fr [] H H') : RowAt K H' v r := by
 obtain ⟨p, x, d, h1, h2, h3, h4⟩ := h
 exact ⟨p, x, d, h1, e.tup h2, e.at h3 (fun z => nomatch z), e.at h4 (fun z => nomatch z)⟩
inductive RowsAt (K : PySem.W.Frag) (H : Hp) : List V → List RowS → Prop
 | nil : RowsAt K H [] []
 | cons {v : V} {vs : List V} {r : RowS} {rs : List RowS} : RowAt K H v r → RowsAt K H vs rs → RowsAt K H (v :: vs) (r :: rs)
theorem RowsAt.fr {K : PySem.W.Frag} {H H' : Hp} {vs : List V} {rs : List RowS} (h : RowsAt K H vs rs) (e : Fr [] H H') : RowsAt K H' vs rs := by
 induction h with
 | nil => exact .nil
 | cons h _ ih => exact .cons (h.fr e) ih
theorem RowsAt.app {K : PySem.W.Frag} {H : Hp} {vs ws : List V} {rs ss : List RowS} (h : RowsAt K H vs rs) (k : RowsAt K H ws ss) : RowsAt K H (vs ++ ws) (rs ++ ss) := by
 induction h with
 | nil => exact k
 | cons h _ ih => exact .cons h ih
theorem RowsAt.len {K : PySem.W.Frag} {H : Hp} {vs : List V} {rs : List RowS} (h : RowsAt K H vs rs) : vs.length = rs.length := by
 induction h with
 | nil => rfl
 | cons _ _ ih => exact congrArg Nat.succ ih
theorem RowsAt.get {K : PySem.W.Frag} {H : Hp} {vs : List V} {rs : List RowS} (h : RowsAt K H vs rs) : ∀ (i : Nat) (r : RowS), rs[i]? = some r → ∃ v, vs[i]? = some v ∧ RowAt K H v r := by
 induction h with
 | nil => exact fun i r e => by simp at e
 | cons h _ ih =>
  intro i r e
  cases i with
  | zero =>
   simp only [List.getElem?_cons_zero, Option.some.injEq] at e
   subst e
   exact ⟨_, rfl, h⟩
  | succ i => exact ih i r (by simpa using e)
def MkR (K : PySem.W.Frag) (σ : L2.St) (tl : TA) (ss : List RowS) : Prop := ∀ (H : Hp) (A : List V → Hp → Prop), (∀ ws H', Fr [] H H' → RowsAt K H' ws ss → A ws H') → tl σ H A
section
variable {K : PySem.W.Frag} {σ : L2.St} {H : Hp} {Q : VK} {tl : TA} {ss rs : List RowS} {w f : Str} {fam : Int} {C : Addr} {i : Nat} {y : V}
theorem mkr_nil : MkR K σ tNil [] := fun H A k => k [] H Fr.refl .nil
theorem mkr_1 (T : EcC K C) (h1 : PySem.W.findIn K (.ref C) "word" = some none) (h2 : PySem.W.findIn K (.ref C) f = some none) (hy : σ[i]? = some (some y)) (h : MkR K σ tl ss) :
  MkR K σ (tCons (tTup (tCons (tC (.str w)) (tCons (tMkE C (spI1 K w f) (tCons (tVar i) tNil)) (tCons (tC (.int fam)) tNil)))) tl) (⟨w, C, fam, [(f, y), ("word", .str w)]⟩ :: ss) := fun H A k => by
 refine g_cons (g_tup (g_cons (g_c (g_cons (g_mkE (g_cons (g_var hy (g_nil (spMk_I1 T h1 h2 fun a d H1 ha e1 h3 h4 => ?_)))))))))
 refine g_cons (g_c (g_nil ⟨le_of (by simp), fun p hp => ?_⟩))
 have e2 : Fr [] H1 (upd H1 p (.tup [.str w, .ref a, .int fam])) := Fr.new hp
 refine h _ _ fun ws H' e hw => k _ H' ((e1.trans e2).trans e) (.cons (RowAt.fr ⟨p, a, d, rfl, SqT.of upd_same, e2.at h3 (fun z => nomatch z), e2.at h4 (fun z => nomatch z)⟩ e) hw)
theorem mkr_0 (T : EcC K C) (h1 : PySem.W.findIn K (.ref C) "word" = some none) (h : MkR K σ tl ss) :
  MkR K σ (tCons (tTup (tCons (tC (.str w)) (tCons (tMkE C (spI0 K w) tNil) (tCons (tC (.int fam)) tNil)))) tl) (⟨w, C, fam, [("word", .str w)]⟩ :: ss) := fun H A k => by
 refine g_cons (g_tup (g_cons (g_c (g_cons (g_mkE (g_nil (spMk_I0 T h1 fun a d H1 ha e1 h3 h4 => ?_)))))))
 refine g_cons (g_c (g_nil ⟨le_of (by simp), fun p hp => ?_⟩))
 have e2 : Fr [] H1 (upd H1 p (.tup [.str w, .ref a, .int fam])) := Fr.new hp
 refine h _ _ fun ws H' e hw => k _ H' ((e1.trans e2).trans e) (.cons (RowAt.fr ⟨p, a, d, rfl, SqT.of upd_same, e2.at h3 (fun z => nomatch z), e2.at h4 (fun z => nomatch z)⟩ e) hw)
theorem g_rows (m : MkR K σ tl ss) (hl : ss.length ≤ 100) (k : ∀ q H' ws, Fr [] H H' → H' q = some (.lst ws) → RowsAt K H' ws ss → Q (.ref q) H') : tLst tl σ H Q := by
 refine g_lst (m _ _ fun ws H1 e1 hw => ⟨le_of (by rw [hw.len]; omega), fun q hq => ?_⟩)
 have e2 : Fr [] H1 (upd H1 q (.lst ws)) := Fr.new hq
 exact k q _ ws (e1.trans e2) upd_same (hw.fr e2)
theorem g_more {p : Addr} {vs : List V} (hp : σ[i]? = some (some (.ref p))) (hl0 : H p = some (.lst vs)) (hr : RowsAt K H vs rs) (m : MkR K σ tl ss) (hl : rs.length + ss.length ≤ 100)
  (k : ∀ q H' ws, Fr [] H H' → H' q = some (.lst ws) → RowsAt K H' ws (rs ++ ss) → Q (.ref q) H') : tOp (uAdd K) (tVar i) (tLst tl) σ H Q := by
 refine g_op (g_var hp (g_rows m (by omega) fun q H1 ws e1 h1 hw => ?_))
 refine g_addL (e1.at hl0 (fun z => nomatch z)) h1 (le_of (by rw [hr.len, hw.len]; omega)) fun q2 hq2 => ?_
 have e2 : Fr [] H1 (upd H1 q2 (.lst (vs ++ ws))) := Fr.new hq2
 exact k q2 _ _ (e1.trans e2) upd_same (((hr.fr e1).app hw).fr e2)
end
def clsN : List Str := ["BadText", "BadName", "Loose", "NoName", "BadWide", "BadKind", "Ring", "Endless", "TooGreat", "NotThere", "Present", "NotPlain", "Taken", "NoThing", "BadColumns", "BadRow", "Full", "Uneven", "NothingLeft", "NoHand", "NoMoment", "Busy"]
def rowsK (K : PySem.W.Frag) (n : Str) (m : Int) (hh : Addr) : List RowS := [⟨"badtext", (He.ga K "BadText"), 0, [("at", .int m), ("word", .str "badtext")]⟩,
 ⟨"badname", (He.ga K "BadName"), 0, [("name", .str n), ("word", .str "badname")]⟩,
 ⟨"loose", (He.ga K "Loose"), 1, [("name", .str n), ("word", .str "loose")]⟩,
 ⟨"noname", (He.ga K "NoName"), 1, [("name", .str n), ("word", .str "noname")]⟩,
 ⟨"badwide", (He.ga K "BadWide"), 1, [("name", .str n), ("word", .str "badwide")]⟩,
 ⟨"badkind", (He.ga K "BadKind"), 1, [("word", .str "badkind")]⟩,
 ⟨"ring", (He.ga K "Ring"), 1, [("heads", .ref hh), ("word", .str "ring")]⟩,
 ⟨"endless", (He.ga K "Endless"), 1, [("heads", .ref hh), ("word", .str "endless")]⟩,
 ⟨"toogreat", (He.ga K "TooGreat"), 1, [("word", .str "toogreat")]⟩,
 ⟨"notthere", (He.ga K "NotThere"), 1, [("word", .str "notthere")]⟩,
 ⟨"present", (He.ga K "Present"), 1, [("word", .str "present")]⟩,
 ⟨"notplain", (He.ga K "NotPlain"), 1, [("word", .str "notplain")]⟩,
 ⟨"taken", (He.ga K "Taken"), 2, [("name", .str n), ("word", .str "taken")]⟩,
 ⟨"nothing", (He.ga K "NoThing"), 2, [("name", .str n), ("word", .str "nothing")]⟩,
 ⟨"badcolumns", (He.ga K "BadColumns"), 2, [("word", .str "badcolumns")]⟩,
 ⟨"badrow", (He.ga K "BadRow"), 2, [("word", .str "badrow")]⟩,
 ⟨"full", (He.ga K "Full"), 2, [("most", .int m), ("word", .str "full")]⟩,
 ⟨"uneven", (He.ga K "Uneven"), 2, [("number", .int m), ("word", .str "uneven")]⟩,
 ⟨"nothingleft", (He.ga K "NothingLeft"), 2, [("way", .str n), ("word", .str "nothingleft")]⟩,
 ⟨"nohand", (He.ga K "NoHand"), 3, [("name", .str n), ("word", .str "nohand")]⟩,
 ⟨"nomoment", (He.ga K "NoMoment"), 3, [("at", .int m), ("word", .str "nomoment")]⟩,
 ⟨"busy", (He.ga K "Busy"), 3, [("word", .str "busy")]⟩]
def famK : List Int := [0, 0, 1, 1, 1, 1, 1, 1, 1, 1, 1, 1, 2, 2, 2, 2, 2, 2, 2, 3, 3, 3]
structure XcF (K : PySem.W.Frag) : Prop where
 nw_BadText : PySem.W.findIn K (.ref (He.ga K "BadText")) "word" = some none
 nw_BadName : PySem.W.findIn K (.ref (He.ga K "BadName")) "word" = some none
 nw_Loose : PySem.W.findIn K (.ref (He.ga K "Loose")) "word" = some none
 nw_NoName : PySem.W.findIn K (.ref (He.ga K "NoName")) "word" = some none
 nw_BadWide : PySem.W.findIn K (.ref (He.ga K "BadWide")) "word" = some none
 nw_BadKind : PySem.W.findIn K (.ref (He.ga K "BadKind")) "word" = some none
 nw_Ring : PySem.W.findIn K (.ref (He.ga K "Ring")) "word" = some none
 nw_Endless : PySem.W.findIn K (.ref (He.ga K "Endless")) "word" = some none
 nw_TooGreat : PySem.W.findIn K (.ref (He.ga K "TooGreat")) "word" = some none
 nw_NotThere : PySem.W.findIn K (.ref (He.ga K "NotThere")) "word" = some none
 nw_Present : PySem.W.findIn K (.ref (He.ga K "Present")) "word" = some none
 nw_NotPlain : PySem.W.findIn K (.ref (He.ga K "NotPlain")) "word" = some none
 nw_Taken : PySem.W.findIn K (.ref (He.ga K "Taken")) "word" = some none
 nw_NoThing : PySem.W.findIn K (.ref (He.ga K "NoThing")) "word" = some none
 nw_BadColumns : PySem.W.findIn K (.ref (He.ga K "BadColumns")) "word" = some none
 nw_BadRow : PySem.W.findIn K (.ref (He.ga K "BadRow")) "word" = some none
 nw_Full : PySem.W.findIn K (.ref (He.ga K "Full")) "word" = some none
 nw_Uneven : PySem.W.findIn K (.ref (He.ga K "Uneven")) "word" = some none
 nw_NothingLeft : PySem.W.findIn K (.ref (He.ga K "NothingLeft")) "word" = some none
 nw_NoHand : PySem.W.findIn K (.ref (He.ga K "NoHand")) "word" = some none
 nw_NoMoment : PySem.W.findIn K (.ref (He.ga K "NoMoment")) "word" = some none
 nw_Busy : PySem.W.findIn K (.ref (He.ga K "Busy")) "word" = some none
 nf_BadText : PySem.W.findIn K (.ref (He.ga K "BadText")) "at" = some none
 nf_BadName : PySem.W.findIn K (.ref (He.ga K "BadName")) "name" = some none
 nf_Loose : PySem.W.findIn K (.ref (He.ga K "Loose")) "name" = some none
 nf_NoName : PySem.W.findIn K (.ref (He.ga K "NoName")) "name" = some none
 nf_BadWide : PySem.W.findIn K (.ref (He.ga K "BadWide")) "name" = some none
 nf_Ring : PySem.W.findIn K (.ref (He.ga K "Ring")) "heads" = some none
 nf_Endless : PySem.W.findIn K (.ref (He.ga K "Endless")) "heads" = some none
 nf_Taken : PySem.W.findIn K (.ref (He.ga K "Taken")) "name" = some none
 nf_NoThing : PySem.W.findIn K (.ref (He.ga K "NoThing")) "name" = some none
 nf_Full : PySem.W.findIn K (.ref (He.ga K "Full")) "most" = some none
 nf_Uneven : PySem.W.findIn K (.ref (He.ga K "Uneven")) "number" = some none
 nf_NothingLeft : PySem.W.findIn K (.ref (He.ga K "NothingLeft")) "way" = some none
 nf_NoHand : PySem.W.findIn K (.ref (He.ga K "NoHand")) "name" = some none
 nf_NoMoment : PySem.W.findIn K (.ref (He.ga K "NoMoment")) "at" = some none
 kit : ∀ (i : Nat) (x : Str), clsN[i]? = some x → ∀ (j : Nat) (y : Str), clsN[j]? = some y → PySem.W.kitOne K (.ref (He.ga K x)) (.ref (He.ga K y)) = some (decide (i = j))
 lore : ∀ x ∈ clsN, PySem.W.kitOne K (.ref (He.ga K x)) (.ref (He.ga K "LoreError")) = some true
 verr : ∀ x ∈ clsN, PySem.W.kitOne K (.ref (He.ga K x)) (.type "ValueError") = some true
 fam : ∀ (i : Nat) (x : Str) (f : Int), clsN[i]? = some x → famK[i]? = some f → ∀ (j : Nat) (y : Str), (["TextError", "CheckError", "DeedError", "SeatError"] : List Str)[j]? = some y → PySem.W.kitOne K (.ref (He.ga K x)) (.ref (He.ga K y)) = some (decide ((j : Int) = f))
structure XcG (P : Program) (w : World) (K : PySem.W.Frag) (mg : Str → Option Value) (base : Heap) : Prop where
 g_BadText : ClG P w K mg base 2 "BadText" (He.ga K "BadText") (spI1 K "badtext" "at")
 g_BadName : ClG P w K mg base 2 "BadName" (He.ga K "BadName") (spI1 K "badname" "name")
 g_Loose : ClG P w K mg base 2 "Loose" (He.ga K "Loose") (spI1 K "loose" "name")
 g_NoName : ClG P w K mg base 2 "NoName" (He.ga K "NoName") (spI1 K "noname" "name")
 g_BadWide : ClG P w K mg base 2 "BadWide" (He.ga K "BadWide") (spI1 K "badwide" "name")
 g_BadKind : ClG P w K mg base 2 "BadKind" (He.ga K "BadKind") (spI0 K "badkind")
 g_Ring : ClG P w K mg base 2 "Ring" (He.ga K "Ring") (spI1 K "ring" "heads")
 g_Endless : ClG P w K mg base 2 "Endless" (He.ga K "Endless") (spI1 K "endless" "heads")
 g_TooGreat : ClG P w K mg base 2 "TooGreat" (He.ga K "TooGreat") (spI0 K "toogreat")
 g_NotThere : ClG P w K mg base 2 "NotThere" (He.ga K "NotThere") (spI0 K "notthere")
 g_Present : ClG P w K mg base 2 "Present" (He.ga K "Present") (spI0 K "present")
 g_NotPlain : ClG P w K mg base 2 "NotPlain" (He.ga K "NotPlain") (spI0 K "notplain")
 g_Taken : ClG P w K mg base 2 "Taken" (He.ga K "Taken") (spI1 K "taken" "name")
 g_NoThing : ClG P w K mg base 2 "NoThing" (He.ga K "NoThing") (spI1 K "nothing" "name")
 g_BadColumns : ClG P w K mg base 2 "BadColumns" (He.ga K "BadColumns") (spI0 K "badcolumns")
 g_BadRow : ClG P w K mg base 2 "BadRow" (He.ga K "BadRow") (spI0 K "badrow")
 g_Full : ClG P w K mg base 2 "Full" (He.ga K "Full") (spI1 K "full" "most")
 g_Uneven : ClG P w K mg base 2 "Uneven" (He.ga K "Uneven") (spI1 K "uneven" "number")
 g_NothingLeft : ClG P w K mg base 2 "NothingLeft" (He.ga K "NothingLeft") (spI1 K "nothingleft" "way")
 g_NoHand : ClG P w K mg base 2 "NoHand" (He.ga K "NoHand") (spI1 K "nohand" "name")
 g_NoMoment : ClG P w K mg base 2 "NoMoment" (He.ga K "NoMoment") (spI1 K "nomoment" "at")
 g_Busy : ClG P w K mg base 2 "Busy" (He.ga K "Busy") (spI0 K "busy")
 g_LoreError : ClG P w K mg base 1 "LoreError" (He.ga K "LoreError") (spL K)
 g_TextError : ClG P w K mg base 1 "TextError" (He.ga K "TextError") (spL K)
 g_CheckError : ClG P w K mg base 1 "CheckError" (He.ga K "CheckError") (spL K)
 g_DeedError : ClG P w K mg base 1 "DeedError" (He.ga K "DeedError") (spL K)
 g_SeatError : ClG P w K mg base 1 "SeatError" (He.ga K "SeatError") (spL K)
theorem XcG.ec {P : Program} {w : World} {K : PySem.W.Frag} {mg : Str → Option Value} {base : Heap} (G : XcG P w K mg base) : ∀ x ∈ clsN, EcC K (He.ga K x) := fun x hx => by
 unfold clsN at hx
 simp only [List.mem_cons, List.not_mem_nil, or_false] at hx
 rcases hx with rfl | rfl | rfl | rfl | rfl | rfl | rfl | rfl | rfl | rfl | rfl | rfl | rfl | rfl | rfl | rfl | rfl | rfl | rfl | rfl | rfl | rfl
 ·exact G.g_BadText.ec
 ·exact G.g_BadName.ec
 ·exact G.g_Loose.ec
 ·exact G.g_NoName.ec
 ·exact G.g_BadWide.ec
 ·exact G.g_BadKind.ec
 ·exact G.g_Ring.ec
 ·exact G.g_Endless.ec
 ·exact G.g_TooGreat.ec
 ·exact G.g_NotThere.ec
 ·exact G.g_Present.ec
 ·exact G.g_NotPlain.ec
 ·exact G.g_Taken.ec
 ·exact G.g_NoThing.ec
 ·exact G.g_BadColumns.ec
 ·exact G.g_BadRow.ec
 ·exact G.g_Full.ec
 ·exact G.g_Uneven.ec
 ·exact G.g_NothingLeft.ec
 ·exact G.g_NoHand.ec
 ·exact G.g_NoMoment.ec
 ·exact G.g_Busy.ec
theorem rows_at {K : PySem.W.Frag} {n : Str} {m : Int} {hh : Addr} : ∀ (i : Nat) (r : RowS), (rowsK K n m hh)[i]? = some r → ∃ x f, clsN[i]? = some x ∧ famK[i]? = some f ∧ r.C = He.ga K x ∧ r.fam = f ∧ r.fs.lookup ("word" : Str) = some (.str r.w)
 | 0, r, h => by cases h; exact ⟨_, _, rfl, rfl, rfl, rfl, rfl⟩
 | 1, r, h => by cases h; exact ⟨_, _, rfl, rfl, rfl, rfl, rfl⟩
 | 2, r, h => by cases h; exact ⟨_, _, rfl, rfl, rfl, rfl, rfl⟩
 | 3, r, h => by cases h; exact ⟨_, _, rfl, rfl, rfl, rfl, rfl⟩
 | 4, r, h => by cases h; exact ⟨_, _, rfl, rfl, rfl, rfl, rfl⟩
 | 5, r, h => by cases h; exact ⟨_, _, rfl, rfl, rfl, rfl, rfl⟩
 | 6, r, h => by cases h; exact ⟨_, _, rfl, rfl, rfl, rfl, rfl⟩
 | 7, r, h => by cases h; exact ⟨_, _, rfl, rfl, rfl, rfl, rfl⟩
 | 8, r, h => by cases h; exact ⟨_, _, rfl, rfl, rfl, rfl, rfl⟩
 | 9, r, h => by cases h; exact ⟨_, _, rfl, rfl, rfl, rfl, rfl⟩
 | 10, r, h => by cases h; exact ⟨_, _, rfl, rfl, rfl, rfl, rfl⟩
 | 11, r, h => by cases h; exact ⟨_, _, rfl, rfl, rfl, rfl, rfl⟩
 | 12, r, h => by cases h; exact ⟨_, _, rfl, rfl, rfl, rfl, rfl⟩
 | 13, r, h => by cases h; exact ⟨_, _, rfl, rfl, rfl, rfl, rfl⟩
 | 14, r, h => by cases h; exact ⟨_, _, rfl, rfl, rfl, rfl, rfl⟩
 | 15, r, h => by cases h; exact ⟨_, _, rfl, rfl, rfl, rfl, rfl⟩
 | 16, r, h => by cases h; exact ⟨_, _, rfl, rfl, rfl, rfl, rfl⟩
 | 17, r, h => by cases h; exact ⟨_, _, rfl, rfl, rfl, rfl, rfl⟩
 | 18, r, h => by cases h; exact ⟨_, _, rfl, rfl, rfl, rfl, rfl⟩
 | 19, r, h => by cases h; exact ⟨_, _, rfl, rfl, rfl, rfl, rfl⟩
 | 20, r, h => by cases h; exact ⟨_, _, rfl, rfl, rfl, rfl, rfl⟩
 | 21, r, h => by cases h; exact ⟨_, _, rfl, rfl, rfl, rfl, rfl⟩
 | _ + 22, r, h => by cases h
theorem XcF.nw {K : PySem.W.Frag} (X : XcF K) : ∀ x ∈ clsN, PySem.W.findIn K (.ref (He.ga K x)) "word" = some none := fun x hx => by
 unfold clsN at hx
 simp only [List.mem_cons, List.not_mem_nil, or_false] at hx
 rcases hx with rfl | rfl | rfl | rfl | rfl | rfl | rfl | rfl | rfl | rfl | rfl | rfl | rfl | rfl | rfl | rfl | rfl | rfl | rfl | rfl | rfl | rfl
 ·exact X.nw_BadText
 ·exact X.nw_BadName
 ·exact X.nw_Loose
 ·exact X.nw_NoName
 ·exact X.nw_BadWide
 ·exact X.nw_BadKind
 ·exact X.nw_Ring
 ·exact X.nw_Endless
 ·exact X.nw_TooGreat
 ·exact X.nw_NotThere
 ·exact X.nw_Present
 ·exact X.nw_NotPlain
 ·exact X.nw_Taken
 ·exact X.nw_NoThing
 ·exact X.nw_BadColumns
 ·exact X.nw_BadRow
 ·exact X.nw_Full
 ·exact X.nw_Uneven
 ·exact X.nw_NothingLeft
 ·exact X.nw_NoHand
 ·exact X.nw_NoMoment
 ·exact X.nw_Busy
abbrev s__law_made : Stmt := topS 33
theorem sc__law_made : FnScope ["_law_name", "_law_number", "_law_heads_in", "_law_texts"] ["_law_name", "_law_number", "_law_heads_in"] (defScope s__law_made) := ⟨rfl, rfl, rfl, by decide +kernel, rfl, by decide +kernel, by decide +kernel⟩
abbrev s__law_kinds_of : Stmt := topS 34
theorem sc__law_kinds_of : FnScope ["_law_e", "_law_row"] ["_law_e"] (defScope s__law_kinds_of) := ⟨rfl, rfl, rfl, by decide +kernel, rfl, by decide +kernel, by decide +kernel⟩
def spMade (K : PySem.W.Frag) : Sp := fun vs H Q _ => ∃ (n : Str) (m : Int) (hh : Addr), vs = [.str n, .int m, .ref hh] ∧ ∀ q H' ws, Fr [] H H' → H' q = some (.lst ws) → RowsAt K H' ws (rowsK K n m hh) → Q (.ref q) H'
def spKinds (K : PySem.W.Frag) : Sp := fun vs H Q _ => ∃ (e C d : Addr) (fs : List (Str × V)) (i : Nat) (x : Str), vs = [.ref e] ∧ C = He.ga K x ∧ clsN[i]? = some x ∧ H e = some (exo e C (some d)) ∧ H d = some (exd d fs) ∧
 ∀ q H', Fr [] H H' → H' q = some (.lst ((List.range 22).map fun j => V.bl (decide (i = j)))) → Q (.ref q) H'
structure BiM (mg : Str → Option Value) : Prop where
 b_isinstance : mg "isinstance" = none
 b_ValueError : mg "ValueError" = none
 b_range : mg "range" = none
 b_len : mg "len" = none
section
variable {P : Program} {w : World} {K : PySem.W.Frag} {mg : Str → Option Value} {base : Heap}
theorem ok__law_made {f : Addr} {fd : FuncData} (F : FnP K "_law_made" s__law_made f fd) (X : XcF K) (G : XcG P w K mg base) : FnG P w K mg base CX0 10 f fd ["_law_name", "_law_number", "_law_heads_in"] (spMade K) := by
 refine okG F sc__law_made (fun vs H Q E h => ?_) (fun cdv A outer s H vs Q E hr h => ?_)
 ·obtain ⟨n, m, hh, rfl, _⟩ := h
  rfl
 obtain ⟨n, m, hh, rfl, q⟩ := h
 have G_BadText := G.g_BadText
 have G_BadName := G.g_BadName
 have G_Loose := G.g_Loose
 have G_NoName := G.g_NoName
 have G_BadWide := G.g_BadWide
 have G_BadKind := G.g_BadKind
 have G_Ring := G.g_Ring
 have G_Endless := G.g_Endless
 have G_TooGreat := G.g_TooGreat
 have G_NotThere := G.g_NotThere
 have G_Present := G.g_Present
 have G_NotPlain := G.g_NotPlain
 have G_Taken := G.g_Taken
 have G_NoThing := G.g_NoThing
 have G_BadColumns := G.g_BadColumns
 have G_BadRow := G.g_BadRow
 have G_Full := G.g_Full
 have G_Uneven := G.g_Uneven
 have G_NothingLeft := G.g_NothingLeft
 have G_NoHand := G.g_NoHand
 have G_NoMoment := G.g_NoMoment
 have G_Busy := G.g_Busy
 refine ⟨_, PSs.nox (pss_cons (ps_set (i := 3) sc__law_made.nd rfl (.inl rfl) (pe_lst (pa_cons (pe_tup (pa_cons pe_str (pa_cons (pe_mkE G_BadText hr rfl (pa_cons (pv 1) pa_nil)) (pa_cons pe_int pa_nil)))) (pa_cons (pe_tup (pa_cons pe_str (pa_cons (pe_mkE G_BadName hr rfl (pa_cons (pv 0) pa_nil)) (pa_cons pe_int pa_nil)))) pa_nil))))
 (pss_cons (ps_set (i := 3) sc__law_made.nd rfl (.inl rfl) (pe_op (kOp (K := K) (r := uAdd) rfl opu_add) (pv 3) (pe_lst (pa_cons (pe_tup (pa_cons pe_str (pa_cons (pe_mkE G_Loose hr rfl (pa_cons (pv 0) pa_nil)) (pa_cons pe_int pa_nil)))) (pa_cons (pe_tup (pa_cons pe_str (pa_cons (pe_mkE G_NoName hr rfl (pa_cons (pv 0) pa_nil)) (pa_cons pe_int pa_nil)))) (pa_cons (pe_tup (pa_cons pe_str (pa_cons (pe_mkE G_BadWide hr rfl (pa_cons (pv 0) pa_nil)) (pa_cons pe_int pa_nil)))) pa_nil))))))
 (pss_cons (ps_set (i := 3) sc__law_made.nd rfl (.inl rfl) (pe_op (kOp (K := K) (r := uAdd) rfl opu_add) (pv 3) (pe_lst (pa_cons (pe_tup (pa_cons pe_str (pa_cons (pe_mkE0 G_BadKind hr rfl) (pa_cons pe_int pa_nil)))) (pa_cons (pe_tup (pa_cons pe_str (pa_cons (pe_mkE G_Ring hr rfl (pa_cons (pv 2) pa_nil)) (pa_cons pe_int pa_nil)))) (pa_cons (pe_tup (pa_cons pe_str (pa_cons (pe_mkE G_Endless hr rfl (pa_cons (pv 2) pa_nil)) (pa_cons pe_int pa_nil)))) pa_nil))))))
 (pss_cons (ps_set (i := 3) sc__law_made.nd rfl (.inl rfl) (pe_op (kOp (K := K) (r := uAdd) rfl opu_add) (pv 3) (pe_lst (pa_cons (pe_tup (pa_cons pe_str (pa_cons (pe_mkE0 G_TooGreat hr rfl) (pa_cons pe_int pa_nil)))) (pa_cons (pe_tup (pa_cons pe_str (pa_cons (pe_mkE0 G_NotThere hr rfl) (pa_cons pe_int pa_nil)))) (pa_cons (pe_tup (pa_cons pe_str (pa_cons (pe_mkE0 G_Present hr rfl) (pa_cons pe_int pa_nil)))) pa_nil))))))
 (pss_cons (ps_set (i := 3) sc__law_made.nd rfl (.inl rfl) (pe_op (kOp (K := K) (r := uAdd) rfl opu_add) (pv 3) (pe_lst (pa_cons (pe_tup (pa_cons pe_str (pa_cons (pe_mkE0 G_NotPlain hr rfl) (pa_cons pe_int pa_nil)))) (pa_cons (pe_tup (pa_cons pe_str (pa_cons (pe_mkE G_Taken hr rfl (pa_cons (pv 0) pa_nil)) (pa_cons pe_int pa_nil)))) (pa_cons (pe_tup (pa_cons pe_str (pa_cons (pe_mkE G_NoThing hr rfl (pa_cons (pv 0) pa_nil)) (pa_cons pe_int pa_nil)))) pa_nil))))))
 (pss_cons (ps_set (i := 3) sc__law_made.nd rfl (.inl rfl) (pe_op (kOp (K := K) (r := uAdd) rfl opu_add) (pv 3) (pe_lst (pa_cons (pe_tup (pa_cons pe_str (pa_cons (pe_mkE0 G_BadColumns hr rfl) (pa_cons pe_int pa_nil)))) (pa_cons (pe_tup (pa_cons pe_str (pa_cons (pe_mkE0 G_BadRow hr rfl) (pa_cons pe_int pa_nil)))) (pa_cons (pe_tup (pa_cons pe_str (pa_cons (pe_mkE G_Full hr rfl (pa_cons (pv 1) pa_nil)) (pa_cons pe_int pa_nil)))) pa_nil))))))
 (pss_cons (ps_set (i := 3) sc__law_made.nd rfl (.inl rfl) (pe_op (kOp (K := K) (r := uAdd) rfl opu_add) (pv 3) (pe_lst (pa_cons (pe_tup (pa_cons pe_str (pa_cons (pe_mkE G_Uneven hr rfl (pa_cons (pv 1) pa_nil)) (pa_cons pe_int pa_nil)))) (pa_cons (pe_tup (pa_cons pe_str (pa_cons (pe_mkE G_NothingLeft hr rfl (pa_cons (pv 0) pa_nil)) (pa_cons pe_int pa_nil)))) pa_nil)))))
 (pss_one (ps_ret (pe_op (kOp (K := K) (r := uAdd) rfl opu_add) (pv 3) (pe_lst (pa_cons (pe_tup (pa_cons pe_str (pa_cons (pe_mkE G_NoHand hr rfl (pa_cons (pv 0) pa_nil)) (pa_cons pe_int pa_nil)))) (pa_cons (pe_tup (pa_cons pe_str (pa_cons (pe_mkE G_NoMoment hr rfl (pa_cons (pv 1) pa_nil)) (pa_cons pe_int pa_nil)))) (pa_cons (pe_tup (pa_cons pe_str (pa_cons (pe_mkE0 G_Busy hr rfl) (pa_cons pe_int pa_nil)))) pa_nil)))))))))))))), rd_start (σ0 := [some (.str n), some (.int m), some (.ref hh), none]) rfl ?_⟩
 refine g_seq (g_asg (g_rows (mkr_1 G_BadText.ec X.nw_BadText X.nf_BadText rfl (mkr_1 G_BadName.ec X.nw_BadName X.nf_BadName rfl mkr_nil)) (Nat.le_of_ble_eq_true rfl) fun p0 H0 w0 e0 h0 r0 => g_name ?_))
 dsimp only
 refine g_seq (g_asg (g_more (i := 3) rfl h0 r0 (mkr_1 G_Loose.ec X.nw_Loose X.nf_Loose rfl (mkr_1 G_NoName.ec X.nw_NoName X.nf_NoName rfl (mkr_1 G_BadWide.ec X.nw_BadWide X.nf_BadWide rfl mkr_nil))) (Nat.le_of_ble_eq_true rfl) fun p1 H1 w1 f1 h1 r1 => g_name ?_))
 dsimp only
 have e1 := e0.trans f1
 refine g_seq (g_asg (g_more (i := 3) rfl h1 r1 (mkr_0 G_BadKind.ec X.nw_BadKind (mkr_1 G_Ring.ec X.nw_Ring X.nf_Ring rfl (mkr_1 G_Endless.ec X.nw_Endless X.nf_Endless rfl mkr_nil))) (Nat.le_of_ble_eq_true rfl) fun p2 H2 w2 f2 h2 r2 => g_name ?_))
 dsimp only
 have e2 := e1.trans f2
 refine g_seq (g_asg (g_more (i := 3) rfl h2 r2 (mkr_0 G_TooGreat.ec X.nw_TooGreat (mkr_0 G_NotThere.ec X.nw_NotThere (mkr_0 G_Present.ec X.nw_Present mkr_nil))) (Nat.le_of_ble_eq_true rfl) fun p3 H3 w3 f3 h3 r3 => g_name ?_))
 dsimp only
 have e3 := e2.trans f3
 refine g_seq (g_asg (g_more (i := 3) rfl h3 r3 (mkr_0 G_NotPlain.ec X.nw_NotPlain (mkr_1 G_Taken.ec X.nw_Taken X.nf_Taken rfl (mkr_1 G_NoThing.ec X.nw_NoThing X.nf_NoThing rfl mkr_nil))) (Nat.le_of_ble_eq_true rfl) fun p4 H4 w4 f4 h4 r4 => g_name ?_))
 dsimp only
 have e4 := e3.trans f4
 refine g_seq (g_asg (g_more (i := 3) rfl h4 r4 (mkr_0 G_BadColumns.ec X.nw_BadColumns (mkr_0 G_BadRow.ec X.nw_BadRow (mkr_1 G_Full.ec X.nw_Full X.nf_Full rfl mkr_nil))) (Nat.le_of_ble_eq_true rfl) fun p5 H5 w5 f5 h5 r5 => g_name ?_))
 dsimp only
 have e5 := e4.trans f5
 refine g_seq (g_asg (g_more (i := 3) rfl h5 r5 (mkr_1 G_Uneven.ec X.nw_Uneven X.nf_Uneven rfl (mkr_1 G_NothingLeft.ec X.nw_NothingLeft X.nf_NothingLeft rfl mkr_nil)) (Nat.le_of_ble_eq_true rfl) fun p6 H6 w6 f6 h6 r6 => g_name ?_))
 dsimp only
 have e6 := e5.trans f6
 refine g_ret (g_more (i := 3) rfl h6 r6 (mkr_1 G_NoHand.ec X.nw_NoHand X.nf_NoHand rfl (mkr_1 G_NoMoment.ec X.nw_NoMoment X.nf_NoMoment rfl (mkr_0 G_Busy.ec X.nw_Busy mkr_nil))) (Nat.le_of_ble_eq_true rfl) fun p7 H7 w7 f7 h7 r7 => ?_)
 have e7 := e6.trans f7
 exact q p7 H7 w7 e7 h7 r7
theorem ok__law_kinds_of {f : Addr} {fd : FuncData} (F : FnP K "_law_kinds_of" s__law_kinds_of f fd) (B : BiM mg) (X : XcF K) (G : XcG P w K mg base) : FnG P w K mg base CX0 10 f fd ["_law_e"] (spKinds K) := by
 refine okG F sc__law_kinds_of (fun vs H Q E h => ?_) (fun cdv A outer s H vs Q E hr h => ?_)
 ·obtain ⟨e, C, d, fs, i, x, rfl, _⟩ := h
  rfl
 obtain ⟨e, C, d, fs, i, x, rfl, rfl, hx, he, hd, q⟩ := h
 have T := G.ec x (List.mem_of_getElem? hx)
 have G_BadText := G.g_BadText
 have G_BadName := G.g_BadName
 have G_Loose := G.g_Loose
 have G_NoName := G.g_NoName
 have G_BadWide := G.g_BadWide
 have G_BadKind := G.g_BadKind
 have G_Ring := G.g_Ring
 have G_Endless := G.g_Endless
 have G_TooGreat := G.g_TooGreat
 have G_NotThere := G.g_NotThere
 have G_Present := G.g_Present
 have G_NotPlain := G.g_NotPlain
 have G_Taken := G.g_Taken
 have G_NoThing := G.g_NoThing
 have G_BadColumns := G.g_BadColumns
 have G_BadRow := G.g_BadRow
 have G_Full := G.g_Full
 have G_Uneven := G.g_Uneven
 have G_NothingLeft := G.g_NothingLeft
 have G_NoHand := G.g_NoHand
 have G_NoMoment := G.g_NoMoment
 have G_Busy := G.g_Busy
 refine ⟨_, PSs.nox (pss_cons (ps_set (i := 1) sc__law_kinds_of.nd rfl (.inl rfl) (pe_lst (pa_cons (pe_callB (kCall (K := K) (r := rIsX) rfl call_isX) (by rfl) B.b_isinstance (by decide +kernel) (pa_cons (pv 0) (pa_cons (pe_glob (v := .ref (He.ga K "BadText")) rfl G_BadText.m rfl) pa_nil))) (pa_cons (pe_callB (kCall (K := K) (r := rIsX) rfl call_isX) (by rfl) B.b_isinstance (by decide +kernel) (pa_cons (pv 0) (pa_cons (pe_glob (v := .ref (He.ga K "BadName")) rfl G_BadName.m rfl) pa_nil))) (pa_cons (pe_callB (kCall (K := K) (r := rIsX) rfl call_isX) (by rfl) B.b_isinstance (by decide +kernel) (pa_cons (pv 0) (pa_cons (pe_glob (v := .ref (He.ga K "Loose")) rfl G_Loose.m rfl) pa_nil))) (pa_cons (pe_callB (kCall (K := K) (r := rIsX) rfl call_isX) (by rfl) B.b_isinstance (by decide +kernel) (pa_cons (pv 0) (pa_cons (pe_glob (v := .ref (He.ga K "NoName")) rfl G_NoName.m rfl) pa_nil))) pa_nil))))))
 (pss_cons (ps_set (i := 1) sc__law_kinds_of.nd rfl (.inl rfl) (pe_op (kOp (K := K) (r := uAdd) rfl opu_add) (pv 1) (pe_lst (pa_cons (pe_callB (kCall (K := K) (r := rIsX) rfl call_isX) (by rfl) B.b_isinstance (by decide +kernel) (pa_cons (pv 0) (pa_cons (pe_glob (v := .ref (He.ga K "BadWide")) rfl G_BadWide.m rfl) pa_nil))) (pa_cons (pe_callB (kCall (K := K) (r := rIsX) rfl call_isX) (by rfl) B.b_isinstance (by decide +kernel) (pa_cons (pv 0) (pa_cons (pe_glob (v := .ref (He.ga K "BadKind")) rfl G_BadKind.m rfl) pa_nil))) (pa_cons (pe_callB (kCall (K := K) (r := rIsX) rfl call_isX) (by rfl) B.b_isinstance (by decide +kernel) (pa_cons (pv 0) (pa_cons (pe_glob (v := .ref (He.ga K "Ring")) rfl G_Ring.m rfl) pa_nil))) (pa_cons (pe_callB (kCall (K := K) (r := rIsX) rfl call_isX) (by rfl) B.b_isinstance (by decide +kernel) (pa_cons (pv 0) (pa_cons (pe_glob (v := .ref (He.ga K "Endless")) rfl G_Endless.m rfl) pa_nil))) pa_nil)))))))
 (pss_cons (ps_set (i := 1) sc__law_kinds_of.nd rfl (.inl rfl) (pe_op (kOp (K := K) (r := uAdd) rfl opu_add) (pv 1) (pe_lst (pa_cons (pe_callB (kCall (K := K) (r := rIsX) rfl call_isX) (by rfl) B.b_isinstance (by decide +kernel) (pa_cons (pv 0) (pa_cons (pe_glob (v := .ref (He.ga K "TooGreat")) rfl G_TooGreat.m rfl) pa_nil))) (pa_cons (pe_callB (kCall (K := K) (r := rIsX) rfl call_isX) (by rfl) B.b_isinstance (by decide +kernel) (pa_cons (pv 0) (pa_cons (pe_glob (v := .ref (He.ga K "NotThere")) rfl G_NotThere.m rfl) pa_nil))) (pa_cons (pe_callB (kCall (K := K) (r := rIsX) rfl call_isX) (by rfl) B.b_isinstance (by decide +kernel) (pa_cons (pv 0) (pa_cons (pe_glob (v := .ref (He.ga K "Present")) rfl G_Present.m rfl) pa_nil))) (pa_cons (pe_callB (kCall (K := K) (r := rIsX) rfl call_isX) (by rfl) B.b_isinstance (by decide +kernel) (pa_cons (pv 0) (pa_cons (pe_glob (v := .ref (He.ga K "NotPlain")) rfl G_NotPlain.m rfl) pa_nil))) pa_nil)))))))
 (pss_cons (ps_set (i := 1) sc__law_kinds_of.nd rfl (.inl rfl) (pe_op (kOp (K := K) (r := uAdd) rfl opu_add) (pv 1) (pe_lst (pa_cons (pe_callB (kCall (K := K) (r := rIsX) rfl call_isX) (by rfl) B.b_isinstance (by decide +kernel) (pa_cons (pv 0) (pa_cons (pe_glob (v := .ref (He.ga K "Taken")) rfl G_Taken.m rfl) pa_nil))) (pa_cons (pe_callB (kCall (K := K) (r := rIsX) rfl call_isX) (by rfl) B.b_isinstance (by decide +kernel) (pa_cons (pv 0) (pa_cons (pe_glob (v := .ref (He.ga K "NoThing")) rfl G_NoThing.m rfl) pa_nil))) (pa_cons (pe_callB (kCall (K := K) (r := rIsX) rfl call_isX) (by rfl) B.b_isinstance (by decide +kernel) (pa_cons (pv 0) (pa_cons (pe_glob (v := .ref (He.ga K "BadColumns")) rfl G_BadColumns.m rfl) pa_nil))) (pa_cons (pe_callB (kCall (K := K) (r := rIsX) rfl call_isX) (by rfl) B.b_isinstance (by decide +kernel) (pa_cons (pv 0) (pa_cons (pe_glob (v := .ref (He.ga K "BadRow")) rfl G_BadRow.m rfl) pa_nil))) pa_nil)))))))
 (pss_cons (ps_set (i := 1) sc__law_kinds_of.nd rfl (.inl rfl) (pe_op (kOp (K := K) (r := uAdd) rfl opu_add) (pv 1) (pe_lst (pa_cons (pe_callB (kCall (K := K) (r := rIsX) rfl call_isX) (by rfl) B.b_isinstance (by decide +kernel) (pa_cons (pv 0) (pa_cons (pe_glob (v := .ref (He.ga K "Full")) rfl G_Full.m rfl) pa_nil))) (pa_cons (pe_callB (kCall (K := K) (r := rIsX) rfl call_isX) (by rfl) B.b_isinstance (by decide +kernel) (pa_cons (pv 0) (pa_cons (pe_glob (v := .ref (He.ga K "Uneven")) rfl G_Uneven.m rfl) pa_nil))) (pa_cons (pe_callB (kCall (K := K) (r := rIsX) rfl call_isX) (by rfl) B.b_isinstance (by decide +kernel) (pa_cons (pv 0) (pa_cons (pe_glob (v := .ref (He.ga K "NothingLeft")) rfl G_NothingLeft.m rfl) pa_nil))) pa_nil))))))
 (pss_one (ps_ret (pe_op (kOp (K := K) (r := uAdd) rfl opu_add) (pv 1) (pe_lst (pa_cons (pe_callB (kCall (K := K) (r := rIsX) rfl call_isX) (by rfl) B.b_isinstance (by decide +kernel) (pa_cons (pv 0) (pa_cons (pe_glob (v := .ref (He.ga K "NoHand")) rfl G_NoHand.m rfl) pa_nil))) (pa_cons (pe_callB (kCall (K := K) (r := rIsX) rfl call_isX) (by rfl) B.b_isinstance (by decide +kernel) (pa_cons (pv 0) (pa_cons (pe_glob (v := .ref (He.ga K "NoMoment")) rfl G_NoMoment.m rfl) pa_nil))) (pa_cons (pe_callB (kCall (K := K) (r := rIsX) rfl call_isX) (by rfl) B.b_isinstance (by decide +kernel) (pa_cons (pv 0) (pa_cons (pe_glob (v := .ref (He.ga K "Busy")) rfl G_Busy.m rfl) pa_nil))) pa_nil)))))))))))), rd_start (σ0 := [some (.ref e), none]) rfl ?_⟩
 have stp : ∀ (H1 : Hp) (j : Nat) (y : Str) (A : VK), Fr [] H H1 → clsN[j]? = some y → A (.bl (decide (i = j))) H1 → rIsX K [.ref e, .ref (He.ga K y)] H1 A := fun H1 j y A e1 hy a =>
  ⟨e, _, d, fs, _, _, _, rfl, T, e1.at he (fun z => nomatch z), e1.at hd (fun z => nomatch z), fun u h => h, X.kit i x hx j y hy, a⟩
 walk_at "q"
 refine stp _ 0 _ _ Fr.refl rfl ?_
 walk_at "q"
 refine stp _ 1 _ _ Fr.refl rfl ?_
 walk_at "q"
 refine stp _ 2 _ _ Fr.refl rfl ?_
 walk_at "q"
 refine stp _ 3 _ _ Fr.refl rfl ?_
 walk_at "q"
 refine ⟨le_of (by simp), fun q0 hq0 => ?_⟩
 have e0 : Fr [] H (upd H q0 (.lst [V.bl (decide (i = 0)), V.bl (decide (i = 1)), V.bl (decide (i = 2)), V.bl (decide (i = 3))])) := Fr.new hq0
 have h0 : (upd H q0 (.lst [V.bl (decide (i = 0)), V.bl (decide (i = 1)), V.bl (decide (i = 2)), V.bl (decide (i = 3))])) q0 = some (.lst [V.bl (decide (i = 0)), V.bl (decide (i = 1)), V.bl (decide (i = 2)), V.bl (decide (i = 3))]) := upd_same
 generalize upd H q0 (.lst [V.bl (decide (i = 0)), V.bl (decide (i = 1)), V.bl (decide (i = 2)), V.bl (decide (i = 3))]) = H0 at *
 walk_at "q"
 refine stp _ 4 _ _ e0 rfl ?_
 walk_at "q"
 refine stp _ 5 _ _ e0 rfl ?_
 walk_at "q"
 refine stp _ 6 _ _ e0 rfl ?_
 walk_at "q"
 refine stp _ 7 _ _ e0 rfl ?_
 walk_at "q"
 refine ⟨le_of (by simp), fun q1 hq1 => ?_⟩
 have x1 : Fr [] H0 (upd H0 q1 (.lst [V.bl (decide (i = 4)), V.bl (decide (i = 5)), V.bl (decide (i = 6)), V.bl (decide (i = 7))])) := Fr.new hq1
 have y1 : (upd H0 q1 (.lst [V.bl (decide (i = 4)), V.bl (decide (i = 5)), V.bl (decide (i = 6)), V.bl (decide (i = 7))])) q1 = some (.lst [V.bl (decide (i = 4)), V.bl (decide (i = 5)), V.bl (decide (i = 6)), V.bl (decide (i = 7))]) := upd_same
 have z1 := x1.at h0 (fun z => nomatch z)
 refine g_addL z1 y1 (le_of (by simp)) fun u1 hu1 => ?_
 have e1 := (e0.trans x1).trans (Fr.new (o := .lst [V.bl (decide (i = 0)), V.bl (decide (i = 1)), V.bl (decide (i = 2)), V.bl (decide (i = 3)), V.bl (decide (i = 4)), V.bl (decide (i = 5)), V.bl (decide (i = 6)), V.bl (decide (i = 7))]) hu1)
 have h1 : (upd (upd H0 q1 (.lst [V.bl (decide (i = 4)), V.bl (decide (i = 5)), V.bl (decide (i = 6)), V.bl (decide (i = 7))])) u1 (.lst [V.bl (decide (i = 0)), V.bl (decide (i = 1)), V.bl (decide (i = 2)), V.bl (decide (i = 3)), V.bl (decide (i = 4)), V.bl (decide (i = 5)), V.bl (decide (i = 6)), V.bl (decide (i = 7))])) u1 = some (.lst [V.bl (decide (i = 0)), V.bl (decide (i = 1)), V.bl (decide (i = 2)), V.bl (decide (i = 3)), V.bl (decide (i = 4)), V.bl (decide (i = 5)), V.bl (decide (i = 6)), V.bl (decide (i = 7))]) := upd_same
 have g1 : ∀ A : Hp → Prop, A (upd (upd H0 q1 (.lst [V.bl (decide (i = 4)), V.bl (decide (i = 5)), V.bl (decide (i = 6)), V.bl (decide (i = 7))])) u1 (.lst [V.bl (decide (i = 0)), V.bl (decide (i = 1)), V.bl (decide (i = 2)), V.bl (decide (i = 3)), V.bl (decide (i = 4)), V.bl (decide (i = 5)), V.bl (decide (i = 6)), V.bl (decide (i = 7))])) → A (upd (upd H0 q1 (.lst [V.bl (decide (i = 4)), V.bl (decide (i = 5)), V.bl (decide (i = 6)), V.bl (decide (i = 7))])) u1 (.lst [V.bl (decide (i = 0)), V.bl (decide (i = 1)), V.bl (decide (i = 2)), V.bl (decide (i = 3)), V.bl (decide (i = 4)), V.bl (decide (i = 5)), V.bl (decide (i = 6)), V.bl (decide (i = 7))])) := fun _ h => h
 clear g1
 show _
 generalize hH1 : upd (upd H0 q1 (.lst [V.bl (decide (i = 4)), V.bl (decide (i = 5)), V.bl (decide (i = 6)), V.bl (decide (i = 7))])) u1 (.lst [V.bl (decide (i = 0)), V.bl (decide (i = 1)), V.bl (decide (i = 2)), V.bl (decide (i = 3)), V.bl (decide (i = 4)), V.bl (decide (i = 5)), V.bl (decide (i = 6)), V.bl (decide (i = 7))]) = H1 at e1 h1
 dsimp only [List.cons_append, List.nil_append]
 rw [hH1]
 walk_at "q"
 refine stp _ 8 _ _ e1 rfl ?_
 walk_at "q"
 refine stp _ 9 _ _ e1 rfl ?_
 walk_at "q"
 refine stp _ 10 _ _ e1 rfl ?_
 walk_at "q"
 refine stp _ 11 _ _ e1 rfl ?_
 walk_at "q"
 refine ⟨le_of (by simp), fun q2 hq2 => ?_⟩
 have x2 : Fr [] H1 (upd H1 q2 (.lst [V.bl (decide (i = 8)), V.bl (decide (i = 9)), V.bl (decide (i = 10)), V.bl (decide (i = 11))])) := Fr.new hq2
 have y2 : (upd H1 q2 (.lst [V.bl (decide (i = 8)), V.bl (decide (i = 9)), V.bl (decide (i = 10)), V.bl (decide (i = 11))])) q2 = some (.lst [V.bl (decide (i = 8)), V.bl (decide (i = 9)), V.bl (decide (i = 10)), V.bl (decide (i = 11))]) := upd_same
 have z2 := x2.at h1 (fun z => nomatch z)
 refine g_addL z2 y2 (le_of (by simp)) fun u2 hu2 => ?_
 have e2 := (e1.trans x2).trans (Fr.new (o := .lst [V.bl (decide (i = 0)), V.bl (decide (i = 1)), V.bl (decide (i = 2)), V.bl (decide (i = 3)), V.bl (decide (i = 4)), V.bl (decide (i = 5)), V.bl (decide (i = 6)), V.bl (decide (i = 7)), V.bl (decide (i = 8)), V.bl (decide (i = 9)), V.bl (decide (i = 10)), V.bl (decide (i = 11))]) hu2)
 have h2 : (upd (upd H1 q2 (.lst [V.bl (decide (i = 8)), V.bl (decide (i = 9)), V.bl (decide (i = 10)), V.bl (decide (i = 11))])) u2 (.lst [V.bl (decide (i = 0)), V.bl (decide (i = 1)), V.bl (decide (i = 2)), V.bl (decide (i = 3)), V.bl (decide (i = 4)), V.bl (decide (i = 5)), V.bl (decide (i = 6)), V.bl (decide (i = 7)), V.bl (decide (i = 8)), V.bl (decide (i = 9)), V.bl (decide (i = 10)), V.bl (decide (i = 11))])) u2 = some (.lst [V.bl (decide (i = 0)), V.bl (decide (i = 1)), V.bl (decide (i = 2)), V.bl (decide (i = 3)), V.bl (decide (i = 4)), V.bl (decide (i = 5)), V.bl (decide (i = 6)), V.bl (decide (i = 7)), V.bl (decide (i = 8)), V.bl (decide (i = 9)), V.bl (decide (i = 10)), V.bl (decide (i = 11))]) := upd_same
 have g2 : ∀ A : Hp → Prop, A (upd (upd H1 q2 (.lst [V.bl (decide (i = 8)), V.bl (decide (i = 9)), V.bl (decide (i = 10)), V.bl (decide (i = 11))])) u2 (.lst [V.bl (decide (i = 0)), V.bl (decide (i = 1)), V.bl (decide (i = 2)), V.bl (decide (i = 3)), V.bl (decide (i = 4)), V.bl (decide (i = 5)), V.bl (decide (i = 6)), V.bl (decide (i = 7)), V.bl (decide (i = 8)), V.bl (decide (i = 9)), V.bl (decide (i = 10)), V.bl (decide (i = 11))])) → A (upd (upd H1 q2 (.lst [V.bl (decide (i = 8)), V.bl (decide (i = 9)), V.bl (decide (i = 10)), V.bl (decide (i = 11))])) u2 (.lst [V.bl (decide (i = 0)), V.bl (decide (i = 1)), V.bl (decide (i = 2)), V.bl (decide (i = 3)), V.bl (decide (i = 4)), V.bl (decide (i = 5)), V.bl (decide (i = 6)), V.bl (decide (i = 7)), V.bl (decide (i = 8)), V.bl (decide (i = 9)), V.bl (decide (i = 10)), V.bl (decide (i = 11))])) := fun _ h => h
 clear g2
 show _
 generalize hH2 : upd (upd H1 q2 (.lst [V.bl (decide (i = 8)), V.bl (decide (i = 9)), V.bl (decide (i = 10)), V.bl (decide (i = 11))])) u2 (.lst [V.bl (decide (i = 0)), V.bl (decide (i = 1)), V.bl (decide (i = 2)), V.bl (decide (i = 3)), V.bl (decide (i = 4)), V.bl (decide (i = 5)), V.bl (decide (i = 6)), V.bl (decide (i = 7)), V.bl (decide (i = 8)), V.bl (decide (i = 9)), V.bl (decide (i = 10)), V.bl (decide (i = 11))]) = H2 at e2 h2
 dsimp only [List.cons_append, List.nil_append]
 rw [hH2]
 walk_at "q"
 refine stp _ 12 _ _ e2 rfl ?_
 walk_at "q"
 refine stp _ 13 _ _ e2 rfl ?_
 walk_at "q"
 refine stp _ 14 _ _ e2 rfl ?_
 walk_at "q"
 refine stp _ 15 _ _ e2 rfl ?_
 walk_at "q"
 refine ⟨le_of (by simp), fun q3 hq3 => ?_⟩
 have x3 : Fr [] H2 (upd H2 q3 (.lst [V.bl (decide (i = 12)), V.bl (decide (i = 13)), V.bl (decide (i = 14)), V.bl (decide (i = 15))])) := Fr.new hq3
 have y3 : (upd H2 q3 (.lst [V.bl (decide (i = 12)), V.bl (decide (i = 13)), V.bl (decide (i = 14)), V.bl (decide (i = 15))])) q3 = some (.lst [V.bl (decide (i = 12)), V.bl (decide (i = 13)), V.bl (decide (i = 14)), V.bl (decide (i = 15))]) := upd_same
 have z3 := x3.at h2 (fun z => nomatch z)
 refine g_addL z3 y3 (le_of (by simp)) fun u3 hu3 => ?_
 have e3 := (e2.trans x3).trans (Fr.new (o := .lst [V.bl (decide (i = 0)), V.bl (decide (i = 1)), V.bl (decide (i = 2)), V.bl (decide (i = 3)), V.bl (decide (i = 4)), V.bl (decide (i = 5)), V.bl (decide (i = 6)), V.bl (decide (i = 7)), V.bl (decide (i = 8)), V.bl (decide (i = 9)), V.bl (decide (i = 10)), V.bl (decide (i = 11)), V.bl (decide (i = 12)), V.bl (decide (i = 13)), V.bl (decide (i = 14)), V.bl (decide (i = 15))]) hu3)
 have h3 : (upd (upd H2 q3 (.lst [V.bl (decide (i = 12)), V.bl (decide (i = 13)), V.bl (decide (i = 14)), V.bl (decide (i = 15))])) u3 (.lst [V.bl (decide (i = 0)), V.bl (decide (i = 1)), V.bl (decide (i = 2)), V.bl (decide (i = 3)), V.bl (decide (i = 4)), V.bl (decide (i = 5)), V.bl (decide (i = 6)), V.bl (decide (i = 7)), V.bl (decide (i = 8)), V.bl (decide (i = 9)), V.bl (decide (i = 10)), V.bl (decide (i = 11)), V.bl (decide (i = 12)), V.bl (decide (i = 13)), V.bl (decide (i = 14)), V.bl (decide (i = 15))])) u3 = some (.lst [V.bl (decide (i = 0)), V.bl (decide (i = 1)), V.bl (decide (i = 2)), V.bl (decide (i = 3)), V.bl (decide (i = 4)), V.bl (decide (i = 5)), V.bl (decide (i = 6)), V.bl (decide (i = 7)), V.bl (decide (i = 8)), V.bl (decide (i = 9)), V.bl (decide (i = 10)), V.bl (decide (i = 11)), V.bl (decide (i = 12)), V.bl (decide (i = 13)), V.bl (decide (i = 14)), V.bl (decide (i = 15))]) := upd_same
 have g3 : ∀ A : Hp → Prop, A (upd (upd H2 q3 (.lst [V.bl (decide (i = 12)), V.bl (decide (i = 13)), V.bl (decide (i = 14)), V.bl (decide (i = 15))])) u3 (.lst [V.bl (decide (i = 0)), V.bl (decide (i = 1)), V.bl (decide (i = 2)), V.bl (decide (i = 3)), V.bl (decide (i = 4)), V.bl (decide (i = 5)), V.bl (decide (i = 6)), V.bl (decide (i = 7)), V.bl (decide (i = 8)), V.bl (decide (i = 9)), V.bl (decide (i = 10)), V.bl (decide (i = 11)), V.bl (decide (i = 12)), V.bl (decide (i = 13)), V.bl (decide (i = 14)), V.bl (decide (i = 15))])) → A (upd (upd H2 q3 (.lst [V.bl (decide (i = 12)), V.bl (decide (i = 13)), V.bl (decide (i = 14)), V.bl (decide (i = 15))])) u3 (.lst [V.bl (decide (i = 0)), V.bl (decide (i = 1)), V.bl (decide (i = 2)), V.bl (decide (i = 3)), V.bl (decide (i = 4)), V.bl (decide (i = 5)), V.bl (decide (i = 6)), V.bl (decide (i = 7)), V.bl (decide (i = 8)), V.bl (decide (i = 9)), V.bl (decide (i = 10)), V.bl (decide (i = 11)), V.bl (decide (i = 12)), V.bl (decide (i = 13)), V.bl (decide (i = 14)), V.bl (decide (i = 15))])) := fun _ h => h
 clear g3
 show _
 generalize hH3 : upd (upd H2 q3 (.lst [V.bl (decide (i = 12)), V.bl (decide (i = 13)), V.bl (decide (i = 14)), V.bl (decide (i = 15))])) u3 (.lst [V.bl (decide (i = 0)), V.bl (decide (i = 1)), V.bl (decide (i = 2)), V.bl (decide (i = 3)), V.bl (decide (i = 4)), V.bl (decide (i = 5)), V.bl (decide (i = 6)), V.bl (decide (i = 7)), V.bl (decide (i = 8)), V.bl (decide (i = 9)), V.bl (decide (i = 10)), V.bl (decide (i = 11)), V.bl (decide (i = 12)), V.bl (decide (i = 13)), V.bl (decide (i = 14)), V.bl (decide (i = 15))]) = H3 at e3 h3
 dsimp only [List.cons_append, List.nil_append]
 rw [hH3]
 walk_at "q"
 refine stp _ 16 _ _ e3 rfl ?_
 walk_at "q"
 refine stp _ 17 _ _ e3 rfl ?_
 walk_at "q"
 refine stp _ 18 _ _ e3 rfl ?_
 walk_at "q"
 refine ⟨le_of (by simp), fun q4 hq4 => ?_⟩
 have x4 : Fr [] H3 (upd H3 q4 (.lst [V.bl (decide (i = 16)), V.bl (decide (i = 17)), V.bl (decide (i = 18))])) := Fr.new hq4
 have y4 : (upd H3 q4 (.lst [V.bl (decide (i = 16)), V.bl (decide (i = 17)), V.bl (decide (i = 18))])) q4 = some (.lst [V.bl (decide (i = 16)), V.bl (decide (i = 17)), V.bl (decide (i = 18))]) := upd_same
 have z4 := x4.at h3 (fun z => nomatch z)
 refine g_addL z4 y4 (le_of (by simp)) fun u4 hu4 => ?_
 have e4 := (e3.trans x4).trans (Fr.new (o := .lst [V.bl (decide (i = 0)), V.bl (decide (i = 1)), V.bl (decide (i = 2)), V.bl (decide (i = 3)), V.bl (decide (i = 4)), V.bl (decide (i = 5)), V.bl (decide (i = 6)), V.bl (decide (i = 7)), V.bl (decide (i = 8)), V.bl (decide (i = 9)), V.bl (decide (i = 10)), V.bl (decide (i = 11)), V.bl (decide (i = 12)), V.bl (decide (i = 13)), V.bl (decide (i = 14)), V.bl (decide (i = 15)), V.bl (decide (i = 16)), V.bl (decide (i = 17)), V.bl (decide (i = 18))]) hu4)
 have h4 : (upd (upd H3 q4 (.lst [V.bl (decide (i = 16)), V.bl (decide (i = 17)), V.bl (decide (i = 18))])) u4 (.lst [V.bl (decide (i = 0)), V.bl (decide (i = 1)), V.bl (decide (i = 2)), V.bl (decide (i = 3)), V.bl (decide (i = 4)), V.bl (decide (i = 5)), V.bl (decide (i = 6)), V.bl (decide (i = 7)), V.bl (decide (i = 8)), V.bl (decide (i = 9)), V.bl (decide (i = 10)), V.bl (decide (i = 11)), V.bl (decide (i = 12)), V.bl (decide (i = 13)), V.bl (decide (i = 14)), V.bl (decide (i = 15)), V.bl (decide (i = 16)), V.bl (decide (i = 17)), V.bl (decide (i = 18))])) u4 = some (.lst [V.bl (decide (i = 0)), V.bl (decide (i = 1)), V.bl (decide (i = 2)), V.bl (decide (i = 3)), V.bl (decide (i = 4)), V.bl (decide (i = 5)), V.bl (decide (i = 6)), V.bl (decide (i = 7)), V.bl (decide (i = 8)), V.bl (decide (i = 9)), V.bl (decide (i = 10)), V.bl (decide (i = 11)), V.bl (decide (i = 12)), V.bl (decide (i = 13)), V.bl (decide (i = 14)), V.bl (decide (i = 15)), V.bl (decide (i = 16)), V.bl (decide (i = 17)), V.bl (decide (i = 18))]) := upd_same
 have g4 : ∀ A : Hp → Prop, A (upd (upd H3 q4 (.lst [V.bl (decide (i = 16)), V.bl (decide (i = 17)), V.bl (decide (i = 18))])) u4 (.lst [V.bl (decide (i = 0)), V.bl (decide (i = 1)), V.bl (decide (i = 2)), V.bl (decide (i = 3)), V.bl (decide (i = 4)), V.bl (decide (i = 5)), V.bl (decide (i = 6)), V.bl (decide (i = 7)), V.bl (decide (i = 8)), V.bl (decide (i = 9)), V.bl (decide (i = 10)), V.bl (decide (i = 11)), V.bl (decide (i = 12)), V.bl (decide (i = 13)), V.bl (decide (i = 14)), V.bl (decide (i = 15)), V.bl (decide (i = 16)), V.bl (decide (i = 17)), V.bl (decide (i = 18))])) → A (upd (upd H3 q4 (.lst [V.bl (decide (i = 16)), V.bl (decide (i = 17)), V.bl (decide (i = 18))])) u4 (.lst [V.bl (decide (i = 0)), V.bl (decide (i = 1)), V.bl (decide (i = 2)), V.bl (decide (i = 3)), V.bl (decide (i = 4)), V.bl (decide (i = 5)), V.bl (decide (i = 6)), V.bl (decide (i = 7)), V.bl (decide (i = 8)), V.bl (decide (i = 9)), V.bl (decide (i = 10)), V.bl (decide (i = 11)), V.bl (decide (i = 12)), V.bl (decide (i = 13)), V.bl (decide (i = 14)), V.bl (decide (i = 15)), V.bl (decide (i = 16)), V.bl (decide (i = 17)), V.bl (decide (i = 18))])) := fun _ h => h
 clear g4
 show _
 generalize hH4 : upd (upd H3 q4 (.lst [V.bl (decide (i = 16)), V.bl (decide (i = 17)), V.bl (decide (i = 18))])) u4 (.lst [V.bl (decide (i = 0)), V.bl (decide (i = 1)), V.bl (decide (i = 2)), V.bl (decide (i = 3)), V.bl (decide (i = 4)), V.bl (decide (i = 5)), V.bl (decide (i = 6)), V.bl (decide (i = 7)), V.bl (decide (i = 8)), V.bl (decide (i = 9)), V.bl (decide (i = 10)), V.bl (decide (i = 11)), V.bl (decide (i = 12)), V.bl (decide (i = 13)), V.bl (decide (i = 14)), V.bl (decide (i = 15)), V.bl (decide (i = 16)), V.bl (decide (i = 17)), V.bl (decide (i = 18))]) = H4 at e4 h4
 dsimp only [List.cons_append, List.nil_append]
 rw [hH4]
 walk_at "q"
 refine stp _ 19 _ _ e4 rfl ?_
 walk_at "q"
 refine stp _ 20 _ _ e4 rfl ?_
 walk_at "q"
 refine stp _ 21 _ _ e4 rfl ?_
 walk_at "q"
 refine ⟨le_of (by simp), fun q5 hq5 => ?_⟩
 have x5 : Fr [] H4 (upd H4 q5 (.lst [V.bl (decide (i = 19)), V.bl (decide (i = 20)), V.bl (decide (i = 21))])) := Fr.new hq5
 have y5 : (upd H4 q5 (.lst [V.bl (decide (i = 19)), V.bl (decide (i = 20)), V.bl (decide (i = 21))])) q5 = some (.lst [V.bl (decide (i = 19)), V.bl (decide (i = 20)), V.bl (decide (i = 21))]) := upd_same
 have z5 := x5.at h4 (fun z => nomatch z)
 refine g_addL z5 y5 (le_of (by simp)) fun u5 hu5 => ?_
 have e5 := (e4.trans x5).trans (Fr.new (o := .lst [V.bl (decide (i = 0)), V.bl (decide (i = 1)), V.bl (decide (i = 2)), V.bl (decide (i = 3)), V.bl (decide (i = 4)), V.bl (decide (i = 5)), V.bl (decide (i = 6)), V.bl (decide (i = 7)), V.bl (decide (i = 8)), V.bl (decide (i = 9)), V.bl (decide (i = 10)), V.bl (decide (i = 11)), V.bl (decide (i = 12)), V.bl (decide (i = 13)), V.bl (decide (i = 14)), V.bl (decide (i = 15)), V.bl (decide (i = 16)), V.bl (decide (i = 17)), V.bl (decide (i = 18)), V.bl (decide (i = 19)), V.bl (decide (i = 20)), V.bl (decide (i = 21))]) hu5)
 have h5 : (upd (upd H4 q5 (.lst [V.bl (decide (i = 19)), V.bl (decide (i = 20)), V.bl (decide (i = 21))])) u5 (.lst [V.bl (decide (i = 0)), V.bl (decide (i = 1)), V.bl (decide (i = 2)), V.bl (decide (i = 3)), V.bl (decide (i = 4)), V.bl (decide (i = 5)), V.bl (decide (i = 6)), V.bl (decide (i = 7)), V.bl (decide (i = 8)), V.bl (decide (i = 9)), V.bl (decide (i = 10)), V.bl (decide (i = 11)), V.bl (decide (i = 12)), V.bl (decide (i = 13)), V.bl (decide (i = 14)), V.bl (decide (i = 15)), V.bl (decide (i = 16)), V.bl (decide (i = 17)), V.bl (decide (i = 18)), V.bl (decide (i = 19)), V.bl (decide (i = 20)), V.bl (decide (i = 21))])) u5 = some (.lst [V.bl (decide (i = 0)), V.bl (decide (i = 1)), V.bl (decide (i = 2)), V.bl (decide (i = 3)), V.bl (decide (i = 4)), V.bl (decide (i = 5)), V.bl (decide (i = 6)), V.bl (decide (i = 7)), V.bl (decide (i = 8)), V.bl (decide (i = 9)), V.bl (decide (i = 10)), V.bl (decide (i = 11)), V.bl (decide (i = 12)), V.bl (decide (i = 13)), V.bl (decide (i = 14)), V.bl (decide (i = 15)), V.bl (decide (i = 16)), V.bl (decide (i = 17)), V.bl (decide (i = 18)), V.bl (decide (i = 19)), V.bl (decide (i = 20)), V.bl (decide (i = 21))]) := upd_same
 exact q u5 _ e5 h5
end
abbrev s_law : Stmt := topS 35
theorem sc_law : FnScope ["_law_script", "_law_bag_here", "_law_name", "_law_number", "_law_heads_in", "_law_made_here", "_law_k", "_law_word_here", "_law_e", "_law_family", "_law_families", "_law_told", "_law_named", "_law_j"] ["_law_script"] (defScope s_law) := ⟨rfl, rfl, rfl, by decide +kernel, rfl, by decide +kernel, by decide +kernel⟩
def spLaw (K : PySem.W.Frag) : Sp := fun vs H Q _ => ∃ (a : Addr) (ns : List Int), vs = [.ref a] ∧ SqL K H a (ns.map V.int) ∧ ns.length ≤ 63 ∧ ∀ H', Q (.bl true) H'
theorem lay_all {ds : List PyData} (h : ∀ d ∈ ds, d.canLay0 = true ∧ d.depth ≤ 3) : PyData.canLayAll0 ds = true ∧ PyData.depthAll ds ≤ 3 := by
 induction ds with
 | nil => simp only [PyData.canLayAll0, PyData.depthAll]; exact ⟨trivial, by decide⟩
 | cons d r ih =>
  obtain ⟨h1, h2⟩ := h d List.mem_cons_self
  obtain ⟨h3, h4⟩ := ih fun x hx => h x (List.mem_cons_of_mem _ hx)
  simp only [PyData.canLayAll0, PyData.depthAll, h1, h3, Bool.and_self]
  exact ⟨trivial, Nat.max_le.mpr ⟨h2, h4⟩⟩
theorem shaped_of {ds : List PyData} (h : ∀ d ∈ ds, d.canLay0 = true ∧ d.depth ≤ 3) : SeqAt.shaped (.list ds) = true := by
 obtain ⟨h1, h2⟩ := lay_all h
 refine Bool.and_eq_true_iff.mpr ⟨by simp only [PyData.canLay0]; exact h1, decide_eq_true ?_⟩
 simp only [PyData.depth]
 omega
section
variable {K : PySem.W.Frag} {H : Hp} {Q : VK} {x y : V} {d : PyData}
theorem g_neSame (h1 : Dp K H x d) (h2 : Dp K H y d) (hs : SeqAt.shaped d = true) (q : Q (.bl false) H) : uNe K x y H Q := g_neD h1 h2 hs hs (by rw [SeqAt.eqv_refl d (SeqAt.canLay_of_shaped hs)]; exact q)
theorem g_eqSame (h1 : Dp K H x d) (h2 : Dp K H y d) (hs : SeqAt.shaped d = true) (q : Q (.bl true) H) : uEq K x y H Q := g_eqD h1 h2 hs hs (by rw [SeqAt.eqv_refl d (SeqAt.canLay_of_shaped hs)]; exact q)
end
theorem dp_bls {K : PySem.W.Frag} {H : Hp} {p : Addr} {n : Nat} {f : Nat → Bool} (h : SqL K H p ((List.range n).map fun j => V.bl (f j))) : Dp K H (.ref p) (.list ((List.range n).map fun j => .bool (f j))) := by
 refine .lst h ?_
 induction List.range n with
 | nil => exact .nil
 | cons x r ih => exact .cons (.bl _) ih
theorem shaped_bls {n : Nat} {f : Nat → Bool} : SeqAt.shaped (.list ((List.range n).map fun j => .bool (f j))) = true := shaped_of fun d hd => by
 obtain ⟨j, _, rfl⟩ := List.mem_map.mp hd
 simp only [PyData.canLay0, PyData.depth]
 exact ⟨trivial, by decide⟩
theorem walk_rgA {n : Nat} : Walk (Itr 0 n) n (fun _ => True) (YAt ((List.range n).map fun k : Nat => V.int (k : Int))) := ⟨walk_range.goes, walk_range.stops, fun i H v H' hi q y => by
 obtain ⟨h1, h2⟩ := walk_range.yields i H v H' hi q y
 refine ⟨h1, ?_⟩
 rw [List.getElem?_map, List.getElem?_range hi, h2]
 simp⟩
theorem lc_rg {n : Nat} {f : Nat → V} {g : TG} {te : TE} {vs : List Nat} {σ : L2.St} {H1 : Hp} {D : Addr} {Qd : Hp → Prop} (hz : n ≤ 10000) (hD : H1 D = none)
  (body : ∀ (j : Nat) (H' : Hp) (A : V → Hp → Prop), j < n → Fr [] H1 H' → (∀ H4, Fr [] H' H4 → A (f j) H4) → g (.int (j : Int)) (wipe σ vs) H' fun σ2 H2 => wipe σ2 vs = wipe σ vs ∧ te σ2 H2 A)
  (fin : ∀ H', Fr [] H1 H' → H' D = some (.lst ((List.range n).map f)) → Qd H') :
  ∃ W : Nat → Nat → Hp → Prop, (∃ m, W 0 m (upd H1 D (.lst []))) ∧ ∀ i m H, W i m H →
   ((Itr 0 n).stop i H ∧ Qd H) ∨ ((Itr 0 n).go i H ∧ ∃ Nx : Hp → Prop, (∀ H', Nx H' → ∃ m', m' < m ∧ W (i + 1) m' H') ∧ ∀ x H', (Itr 0 n).yld i H x H' → g x (wipe σ vs) H' fun σ2 H2 => wipe σ2 vs = wipe σ vs ∧ tYes σ2 H2 fun b H3 =>
    if b = true then te σ2 H3 fun y H4 => ∃ acc, H4 D = some (.lst acc) ∧ acc.length < sizeLine ∧ Nx (upd H4 D (.lst (acc ++ [y]))) else Nx H3) := by
 refine lc_map walk_rgA (ys := (List.range n).map f) (fun _ _ => trivial) (by simp) (by simp) hz hD (fun i x y H' A hx hy e k => ?_) fin
 have hi : i < n := by
  have := (List.getElem?_eq_some_iff.mp hx).1
  simpa using this
 rw [List.getElem?_map, List.getElem?_range hi] at hx hy
 cases hx
 cases hy
 exact body i H' A hi e k
theorem word_ok {x : Str} (h : WordP x) : PyData.strOk x = true := by
 obtain ⟨c, r, e, hc, hr, hl⟩ := h
 unfold PyData.strOk
 rw [← Array.all_toList, e, List.all_eq_true]
 intro d hd
 rcases List.mem_cons.mp hd with rfl | hd
 ·unfold isLet at hc
  have := of_decide_eq_true hc
  exact decide_eq_true (by omega)
 ·have z := hr d hd
  unfold isLet isFig at z
  simp only [Bool.or_eq_true, decide_eq_true_eq] at z
  exact decide_eq_true (by omega)
theorem rd_row {K : PySem.W.Frag} {P : Program} {w : World} {mg : Str → Option Value} {base : Heap} (G : XcG P w K mg base) {n : Str} {m : Int} {hh : Addr} {H2 : Hp} {ws : List V} {q : Addr} (hq : H2 q = some (.lst ws)) (hrows : RowsAt K H2 ws (rowsK K n m hh))
  (k : Nat) {y : V} {f : Str} {r : RowS} (hr : (rowsK K n m hh)[k]? = some r) (hl : r.fs.lookup f = some y) (hno : PySem.W.findIn K (.ref r.C) f = some none) {σ : L2.St} {i : Nat} {te : TE} (hσ : σ[i]? = some (some (.ref q))) (ht : ∀ R : VK, R (.int (k : Int)) H2 → te σ H2 R) {A : VK} (a : A y H2) :
  tXat K f (tOp (rIx K) (tOp (rIx K) (tVar i) te) (tC (.int 1))) σ H2 A := by
 obtain ⟨v, hv, p, e, d, rfl, hp, he, hd⟩ := hrows.get k r hr
 obtain ⟨x, fm, hx, _, hC, _, _⟩ := rows_at k r hr
 have T := G.ec x (List.mem_of_getElem? hx)
 rw [← hC] at T
 refine g_xat (g_op (g_op (g_var hσ (ht _ (g_ixL (SqL.of hq) (atI_nat hv) (g_c (g_ixT hp (atI_nat (j := 1) rfl) ?_)))))))
 exact ⟨e, r.C, d, r.fs, y, rfl, T, hno, he, hd, hl, a⟩
section
variable {P : Program} {w : World} {K : PySem.W.Frag} {mg : Str → Option Value} {base : Heap}
theorem ok_law {f : Addr} {fd : FuncData} (F : FnP K "law" s_law f fd) (B : BiM mg) (X : XcF K) (G : XcG P w K mg base) (C__law_bag : CalG P w K mg base 10 "_law_bag" (spBag K)) (C__law_pull : CalG P w K mg base 10 "_law_pull" spPull) (C__law_word : CalG P w K mg base 30 "_law_word" spWord)
  (C__law_made : CalG P w K mg base 10 "_law_made" (spMade K)) (C__law_kinds_of : CalG P w K mg base 10 "_law_kinds_of" (spKinds K)) : FnG P w K mg base CX0 100 f fd ["_law_script"] (spLaw K) := by
 refine okG F sc_law (fun vs H Q E h => ?_) (fun cdv A outer s H vs Q E hr h => ?_)
 ·obtain ⟨a, ns, rfl, _⟩ := h
  rfl
 obtain ⟨a, ns, rfl, hS, hl, q⟩ := h
 have G_LoreError := G.g_LoreError
 have G_TextError := G.g_TextError
 have G_CheckError := G.g_CheckError
 have G_DeedError := G.g_DeedError
 have G_SeatError := G.g_SeatError
 refine ⟨_, PSs.nox (pss_cons (ps_set (i := 1) sc_law.nd rfl (.inl rfl) (pe_calG C__law_bag hr rfl (pa_cons (pv 0) pa_nil)))
 (pss_cons (ps_set (i := 2) sc_law.nd rfl (.inl rfl) (pe_calG C__law_word hr rfl (pa_cons (pv 1) pa_nil)))
 (pss_cons (ps_set (i := 3) sc_law.nd rfl (.inl rfl) (pe_calG C__law_pull hr rfl (pa_cons (pv 1) (pa_cons (pe_op opu_pow pe_int pe_int) pa_nil))))
 (pss_cons (ps_set (i := 4) sc_law.nd rfl (.inl rfl) (pe_tup (pa_cons (pv 2) (pa_cons pe_str pa_nil))))
 (pss_cons (ps_set (i := 5) sc_law.nd rfl (.inr rfl) (pe_calG C__law_made hr rfl (pa_cons (pv 2) (pa_cons (pv 3) (pa_cons (pv 4) pa_nil)))))
 (pss_cons (ps_for PassesOwn.never rfl (pi_range1 rfl B.b_range (pa_cons (pe_callB (kCall (K := K) (r := uLen) rfl callu_len) (by rfl) B.b_len (by decide +kernel) (pa_cons (pv 5) pa_nil)) pa_nil)) (pg_name (i := 6) sc_law.nd rfl (by first | exact Or.inl rfl | exact Or.inr rfl)) (pss_cons (ps_asg (pe_ix (kIx (K := K) (r := rIx) rfl ix_seq) (pv 5) (pv 6) (fun _ _ => rfl)) (pg_tupK (K := K) rfl rfl (pgs_cons (pg_name (i := 7) sc_law.nd rfl (by first | exact Or.inl rfl | exact Or.inr rfl)) (pgs_cons (pg_name (i := 8) sc_law.nd rfl (by first | exact Or.inl rfl | exact Or.inr rfl)) (pgs_cons (pg_name (i := 9) sc_law.nd rfl (by first | exact Or.inl rfl | exact Or.inr rfl)) pgs_nil)))))
 (pss_cons (ps_if (PW.pt (pw_or (pt_cmpR (kOp (K := K) (r := uNe) rfl (opu_ne hr.units)) (kXat (K := K) rfl (pe_xat (pv 8))) (pv 7) (nomark _)) (pw_or (pt_not (pt_val (pe_callB (kCall (K := K) (r := rIsX) rfl call_isX) (by rfl) B.b_isinstance (by decide +kernel) (pa_cons (pv 8) (pa_cons (pe_glob (v := .ref (He.ga K "LoreError")) rfl G_LoreError.m rfl) pa_nil))))) (pw_or1 (pt_not (pt_val (pe_callB (kCall (K := K) (r := rIsX) rfl call_isX) (by rfl) B.b_isinstance (by decide +kernel) (pa_cons (pv 8) (pa_cons (pe_bltn (v := .ty "ValueError") (by rfl) B.b_ValueError (by decide +kernel) rfl) pa_nil))))))))) (pss_one (ps_ret pe_bl)) pss_nil)
 (pss_cons (ps_if (pt_cmpR (kOp (K := K) (r := uNe) rfl (opu_ne hr.units)) (pe_calG C__law_kinds_of hr rfl (pa_cons (pv 8) pa_nil)) (pe_lc (own := [("_law_j", 13)]) (g := gName 13) (tt := tYes) rfl sc_law.nd (pi_range1 rfl B.b_range (pa_cons (pe_callB (kCall (K := K) (r := uLen) rfl callu_len) (by rfl) B.b_len (by decide +kernel) (pa_cons (pv 5) pa_nil)) pa_nil)) (blkOk_by (own := [("_law_j", 13)]) (N := ["_law_script", "_law_bag_here", "_law_name", "_law_number", "_law_heads_in", "_law_made_here", "_law_k", "_law_word_here", "_law_e", "_law_family", "_law_families", "_law_told", "_law_named", "_law_j"]) (sc := defScope s_law) (by decide +kernel)) (fun _ _ _ _ _ => (by exact (pg_name (i := 13) sc_law.nd rfl (by first | exact Or.inl rfl | exact Or.inr rfl)))) (fun _ _ _ _ _ => pts_nil) (fun _ _ _ _ _ => (by exact (pe_cmpR (kOp (K := K) (r := uEq) rfl (opu_eq hr.units)) (pv 13) (pv 6) (nomark _))))) (nomark _)) (pss_one (ps_ret pe_bl)) pss_nil)
 (pss_cons (ps_set (i := 10) sc_law.nd rfl (.inl rfl) (pe_lst (pa_cons (pe_callB (kCall (K := K) (r := rIsX) rfl call_isX) (by rfl) B.b_isinstance (by decide +kernel) (pa_cons (pv 8) (pa_cons (pe_glob (v := .ref (He.ga K "TextError")) rfl G_TextError.m rfl) pa_nil))) (pa_cons (pe_callB (kCall (K := K) (r := rIsX) rfl call_isX) (by rfl) B.b_isinstance (by decide +kernel) (pa_cons (pv 8) (pa_cons (pe_glob (v := .ref (He.ga K "CheckError")) rfl G_CheckError.m rfl) pa_nil))) (pa_cons (pe_callB (kCall (K := K) (r := rIsX) rfl call_isX) (by rfl) B.b_isinstance (by decide +kernel) (pa_cons (pv 8) (pa_cons (pe_glob (v := .ref (He.ga K "DeedError")) rfl G_DeedError.m rfl) pa_nil))) pa_nil)))))
 (pss_one (ps_if (pt_cmpR (kOp (K := K) (r := uNe) rfl (opu_ne hr.units)) (pe_op (kOp (K := K) (r := uAdd) rfl opu_add) (pv 10) (pe_lst (pa_cons (pe_callB (kCall (K := K) (r := rIsX) rfl call_isX) (by rfl) B.b_isinstance (by decide +kernel) (pa_cons (pv 8) (pa_cons (pe_glob (v := .ref (He.ga K "SeatError")) rfl G_SeatError.m rfl) pa_nil))) pa_nil))) (pe_lc (own := [("_law_j", 13)]) (g := gName 13) (tt := tYes) rfl sc_law.nd (pi_range1 rfl B.b_range (pa_cons pe_int pa_nil)) (blkOk_by (own := [("_law_j", 13)]) (N := ["_law_script", "_law_bag_here", "_law_name", "_law_number", "_law_heads_in", "_law_made_here", "_law_k", "_law_word_here", "_law_e", "_law_family", "_law_families", "_law_told", "_law_named", "_law_j"]) (sc := defScope s_law) (by decide +kernel)) (fun _ _ _ _ _ => (by exact (pg_name (i := 13) sc_law.nd rfl (by first | exact Or.inl rfl | exact Or.inr rfl)))) (fun _ _ _ _ _ => pts_nil) (fun _ _ _ _ _ => (by exact (pe_cmpR (kOp (K := K) (r := uEq) rfl (opu_eq hr.units)) (pv 13) (pv 9) (nomark _))))) (nomark _)) (pss_one (ps_ret pe_bl)) pss_nil)))))))
 (pss_cons (ps_set (i := 11) sc_law.nd rfl (.inl rfl) (pe_lst (pa_cons (kXat (K := K) rfl (pe_xat (pe_ix (kIx (K := K) (r := rIx) rfl ix_seq) (pe_ix (kIx (K := K) (r := rIx) rfl ix_seq) (pv 5) pe_int (fun _ _ => rfl)) pe_int (fun _ _ => rfl)))) (pa_cons (kXat (K := K) rfl (pe_xat (pe_ix (kIx (K := K) (r := rIx) rfl ix_seq) (pe_ix (kIx (K := K) (r := rIx) rfl ix_seq) (pv 5) pe_int (fun _ _ => rfl)) pe_int (fun _ _ => rfl)))) (pa_cons (kXat (K := K) rfl (pe_xat (pe_ix (kIx (K := K) (r := rIx) rfl ix_seq) (pe_ix (kIx (K := K) (r := rIx) rfl ix_seq) (pv 5) pe_int (fun _ _ => rfl)) pe_int (fun _ _ => rfl)))) (pa_cons (kXat (K := K) rfl (pe_xat (pe_ix (kIx (K := K) (r := rIx) rfl ix_seq) (pe_ix (kIx (K := K) (r := rIx) rfl ix_seq) (pv 5) pe_int (fun _ _ => rfl)) pe_int (fun _ _ => rfl)))) (pa_cons (kXat (K := K) rfl (pe_xat (pe_ix (kIx (K := K) (r := rIx) rfl ix_seq) (pe_ix (kIx (K := K) (r := rIx) rfl ix_seq) (pv 5) pe_int (fun _ _ => rfl)) pe_int (fun _ _ => rfl)))) pa_nil)))))))
 (pss_cons (ps_setLc (i := 12) (own := [("_law_k", 6)]) (g := gName 6) (tt := tYes) rfl sc_law.nd rfl rfl (sw_true rfl rfl rfl (by decide +kernel)) (pi_tupK (K := K) rfl (pe_tup (pa_cons pe_int (pa_cons pe_int (pa_cons pe_int (pa_cons pe_int (pa_cons pe_int (pa_cons pe_int (pa_cons pe_int pa_nil))))))))) (blkOk_by (own := [("_law_k", 6)]) (N := ["_law_script", "_law_bag_here", "_law_name", "_law_number", "_law_heads_in", "_law_made_here", "_law_k", "_law_word_here", "_law_e", "_law_family", "_law_families", "_law_told", "_law_named", "_law_j"]) (sc := defScope s_law) (by decide +kernel)) (fun _ _ _ _ _ => (by exact (pg_name (i := 6) sc_law.nd rfl (by first | exact Or.inl rfl | exact Or.inr rfl)))) (fun _ _ _ _ _ => pts_nil) (fun _ _ _ _ _ => (by exact (kXat (K := K) rfl (pe_xat (pe_ix (kIx (K := K) (r := rIx) rfl ix_seq) (pe_ix (kIx (K := K) (r := rIx) rfl ix_seq) (pv 5) (pv 6) (fun _ _ => rfl)) pe_int (fun _ _ => rfl)))))))
 (pss_cons (ps_if (PW.pt (pw_or (pt_cmpR (kOp (K := K) (r := uNe) rfl (opu_ne hr.units)) (pv 12) (pe_op opu_mul (pe_lst (pa_cons (pv 2) pa_nil)) pe_int) (nomark _)) (pw_or1 (pt_cmpR (kOp (K := K) (r := uNe) rfl (opu_ne hr.units)) (pe_lc (own := [("_law_k", 6)]) (g := gName 6) (tt := tYes) rfl sc_law.nd (pi_tupK (K := K) rfl (pe_tup (pa_cons pe_int (pa_cons pe_int pa_nil)))) (blkOk_by (own := [("_law_k", 6)]) (N := ["_law_script", "_law_bag_here", "_law_name", "_law_number", "_law_heads_in", "_law_made_here", "_law_k", "_law_word_here", "_law_e", "_law_family", "_law_families", "_law_told", "_law_named", "_law_j"]) (sc := defScope s_law) (by decide +kernel)) (fun _ _ _ _ _ => (by exact (pg_name (i := 6) sc_law.nd rfl (by first | exact Or.inl rfl | exact Or.inr rfl)))) (fun _ _ _ _ _ => pts_nil) (fun _ _ _ _ _ => (by exact (kXat (K := K) rfl (pe_xat (pe_ix (kIx (K := K) (r := rIx) rfl ix_seq) (pe_ix (kIx (K := K) (r := rIx) rfl ix_seq) (pv 5) (pv 6) (fun _ _ => rfl)) pe_int (fun _ _ => rfl))))))) (pe_op opu_mul (pe_lst (pa_cons (pv 4) pa_nil)) pe_int) (nomark _))))) (pss_one (ps_ret pe_bl)) pss_nil)
 (pss_one (ps_ret (pe_cmpR (kOp (K := K) (r := uEq) rfl (opu_eq hr.units)) (pv 11) (pe_op (kOp (K := K) (r := uAdd) rfl opu_add) (pe_op opu_mul (pe_lst (pa_cons (pv 3) pa_nil)) pe_int) (pe_lst (pa_cons (pv 2) pa_nil))) (nomark _))))))))))))), rd_start (σ0 := [some (.ref a), none, none, none, none, none, none, none, none, none, none, none, none, none]) rfl ?_⟩
 walk_at "q"
 refine ⟨a, ns, rfl, hS, hl, fun b cs H1 hF1 hb1 hB1 => ?_⟩
 walk_at "q"
 refine ⟨b, cs, rfl, hB1, fun n H2 hn hB2 e2 => ?_⟩
 walk_at "q"
 refine ⟨b, cs, _, rfl, hB2, by decide, by decide, fun m H3 m0 m1 hB3 e3 => ?_⟩
 walk_at "q"
 refine ⟨le_of (by simp), fun hh hhh => ?_⟩
 have h4 : SqT K (upd H3 hh (.tup [.str n, .str "h.p.q"])) hh [.str n, .str "h.p.q"] := SqT.of upd_same
 generalize upd H3 hh (.tup [V.str n, .str "h.p.q"]) = H4 at *
 walk_at "q"
 refine ⟨n, m, hh, rfl, fun mq H5 ws e5 h5 hw => ?_⟩
 have h4b := e5.tup h4
 have hw22 : ws.length = 22 := hw.len
 walk_at "q"
 rw [hw22]
 refine ⟨22, rfl, by decide, by decide, for_range (lo := 0) (n := 22) (fun i σ H' => Fr [] H5 H' ∧ ∃ z6 z7 z8 z9 z10 z11 z12 z13, σ = [some (.ref a), some (.ref b), some (.str n), some (.int m), some (.ref hh), some (.ref mq), z6, z7, z8, z9, z10, z11, z12, z13]) ⟨Fr.refl, _, _, _, _, _, _, _, _, rfl⟩ (fun i σ H6 hi h => ?_) (fun σ H6 h => ?_)⟩
 ·obtain ⟨e6, z6, z7, z8, z9, z10, z11, z12, z13, rfl⟩ := h
  obtain ⟨r, hrr⟩ : ∃ r, (rowsK K n m hh)[i]? = some r := ⟨_, List.getElem?_eq_getElem (show i < 22 from hi)⟩
  obtain ⟨x, fm, hx, hf, hC, hfam, hlk⟩ := rows_at i r hrr
  obtain ⟨v, hv, p, e, d, rfl, hp, he, hd⟩ := (hw.fr e6).get i r hrr
  have hmem := List.mem_of_getElem? hx
  have T := G.ec x hmem
  have nw := X.nw x hmem
  have lore := X.lore x hmem
  have verr := X.verr x hmem
  have famx := X.fam i x fm hx hf
  rw [← hC] at T nw lore verr famx
  have h5b := e6.at h5 (fun z => nomatch z)
  simp only [Int.zero_add]
  walk_at "q"
  refine g_ixL (SqL.of h5b) (atI_nat hv) ?_
  refine g_gtup hp rfl ?_
  walk_at "q"
  refine ⟨e, r.C, d, r.fs, _, rfl, T, nw, he, hd, hlk, ?_⟩
  walk_at "q"
  refine g_ff (by rw [decide_eq_true rfl]; rfl) ?_
  walk_at "q"
  refine ⟨e, r.C, d, r.fs, _, _, true, rfl, T, he, hd, fun u h => h, lore, ?_⟩
  walk_at "q"
  refine ⟨e, r.C, d, r.fs, .ty "ValueError", .type "ValueError", true, rfl, T, he, hd, fun u h => h, verr, ?_⟩
  walk_at "q"
  refine ⟨e, r.C, d, r.fs, i, x, rfl, hC, hx, he, hd, fun q7 H7 e7 h7 => ?_⟩
  have h5c := e7.at h5b (fun z => nomatch z)
  walk_at "q"
  rw [hw22]
  refine ⟨22, rfl, by decide, by decide, fun D hD => lc_rg (n := 22) (f := fun j => V.bl (decide (i = j))) (by decide) hD (fun j H' A hj e k => ?_) (fun H8 e8 h8 => ?_)⟩
  ·walk_at "q"
   refine ⟨rfl, ?_⟩
   walk_at "q"
   rw [show decide ((j : Int) = (i : Int)) = decide (i = j) from decide_eq_decide.mpr (by omega)]
   exact k _ Fr.refl
  refine g_neSame (dp_bls (SqL.of (e8.at h7 (fun z => nomatch z)))) (dp_bls (SqL.of h8)) shaped_bls ?_
  have e78 := e7.trans e8
  have hd8 := e78.at hd (fun z => nomatch z)
  have he8 := e78.at he (fun z => nomatch z)
  walk_at "q"
  refine ⟨e, r.C, d, r.fs, _, _, _, rfl, T, he8, hd8, fun u h => h, famx 0 _ rfl, ?_⟩
  walk_at "q"
  refine ⟨e, r.C, d, r.fs, _, _, _, rfl, T, he8, hd8, fun u h => h, famx 1 _ rfl, ?_⟩
  walk_at "q"
  refine ⟨e, r.C, d, r.fs, _, _, _, rfl, T, he8, hd8, fun u h => h, famx 2 _ rfl, ?_⟩
  walk_at "q"
  refine ⟨le_of (by simp), fun p9 hp9 => ?_⟩
  rw [← hfam] at famx ⊢
  have e9 : Fr [] H8 (upd H8 p9 (.lst ((List.range 3).map fun j : Nat => V.bl (decide ((j : Int) = r.fam))))) := Fr.new hp9
  have h9 : (upd H8 p9 (.lst ((List.range 3).map fun j : Nat => V.bl (decide ((j : Int) = r.fam))))) p9 = some (.lst ((List.range 3).map fun j : Nat => V.bl (decide ((j : Int) = r.fam)))) := upd_same
  show gName 10 (V.ref p9) _ (upd H8 p9 (.lst ((List.range 3).map fun j : Nat => V.bl (decide ((j : Int) = r.fam))))) _
  generalize upd H8 p9 (.lst ((List.range 3).map fun j : Nat => V.bl (decide ((j : Int) = r.fam)))) = H9 at *
  have hd9 := e9.at hd8 (fun z => nomatch z)
  have he9 := e9.at he8 (fun z => nomatch z)
  walk_at "q"
  refine ⟨e, r.C, d, r.fs, _, _, _, rfl, T, he9, hd9, fun u h => h, famx 3 _ rfl, ?_⟩
  walk_at "q"
  refine ⟨le_of (by simp), fun p10 hp10 => ?_⟩
  have e10 : Fr [] H9 (upd H9 p10 (.lst [V.bl (decide (((3 : Nat) : Int) = r.fam))])) := Fr.new hp10
  refine g_addL (e10.at h9 (fun z => nomatch z)) upd_same (le_of (by simp)) fun p11 hp11 => ?_
  have e11 := e10.trans (Fr.new (o := .lst (((List.range 3).map fun j : Nat => V.bl (decide ((j : Int) = r.fam))) ++ [V.bl (decide (((3 : Nat) : Int) = r.fam))])) hp11)
  have h11 : (upd (upd H9 p10 (.lst [V.bl (decide (((3 : Nat) : Int) = r.fam))])) p11 (.lst (((List.range 3).map fun j : Nat => V.bl (decide ((j : Int) = r.fam))) ++ [V.bl (decide (((3 : Nat) : Int) = r.fam))]))) p11 = some (.lst ((List.range 4).map fun j : Nat => V.bl (decide ((j : Int) = r.fam)))) := upd_same
  generalize upd (upd H9 p10 (.lst [V.bl (decide (((3 : Nat) : Int) = r.fam))])) p11 (.lst (((List.range 3).map fun j : Nat => V.bl (decide ((j : Int) = r.fam))) ++ [V.bl (decide (((3 : Nat) : Int) = r.fam))])) = H11 at *
  walk_at "q"
  refine ⟨4, rfl, by decide, by decide, fun D hD => lc_rg (n := 4) (f := fun j : Nat => V.bl (decide ((j : Int) = r.fam))) (by decide) hD (fun j H' A hj e k => ?_) (fun H12 e12 h12 => ?_)⟩
  ·walk_at "q"
   refine ⟨rfl, ?_⟩
   walk_at "q"
   exact k _ Fr.refl
  refine g_neSame (dp_bls (f := fun j : Nat => decide ((j : Int) = r.fam)) (SqL.of (e12.at h11 (fun z => nomatch z)))) (dp_bls (SqL.of h12)) shaped_bls ?_
  walk_at "q"
  exact ⟨(((e6.trans e78).trans e9).trans e11).trans e12, _, _, _, _, _, _, _, _, rfl⟩
 ·obtain ⟨e6, z6, z7, z8, z9, z10, z11, z12, z13, rfl⟩ := h
  have h6 := e6.at h5 (fun z => nomatch z)
  have hw6 := hw.fr e6
  have hh6 := e6.tup h4b
  have xat : ∀ (k : Nat) (y : V) (f : Str) (r : RowS), (rowsK K n m hh)[k]? = some r → r.fs.lookup f = some y → PySem.W.findIn K (.ref r.C) f = some none → ∀ H2, Fr [] H6 H2 → ∀ (σ : L2.St) (te : TE) (A : VK), σ[5]? = some (some (.ref mq)) →
    (∀ R : VK, R (.int (k : Int)) H2 → te σ H2 R) → A y H2 → tXat K f (tOp (rIx K) (tOp (rIx K) (tVar 5) te) (tC (.int 1))) σ H2 A := fun k y f r hr hl hno H2 e2 σ te A hσ ht a => rd_row G (e2.at h6 (fun z => nomatch z)) (hw6.fr e2) k hr hl hno hσ ht a
  dsimp only
  refine g_seq (g_asg (g_lst (g_cons ?_)))
  refine xat 0 (.int m) "at" _ rfl rfl X.nf_BadText H6 Fr.refl _ (tC (.int 0)) _ (by rfl) (by exact fun R z => z) ?_
  refine g_cons (xat 20 (.int m) "at" _ rfl rfl X.nf_NoMoment H6 Fr.refl _ (tC (.int 20)) _ (by rfl) (by exact fun R z => z) ?_)
  refine g_cons (xat 16 (.int m) "most" _ rfl rfl X.nf_Full H6 Fr.refl _ (tC (.int 16)) _ (by rfl) (by exact fun R z => z) ?_)
  refine g_cons (xat 17 (.int m) "number" _ rfl rfl X.nf_Uneven H6 Fr.refl _ (tC (.int 17)) _ (by rfl) (by exact fun R z => z) ?_)
  refine g_cons (xat 18 (.str n) "way" _ rfl rfl X.nf_NothingLeft H6 Fr.refl _ (tC (.int 18)) _ (by rfl) (by exact fun R z => z) ?_)
  walk_at "q"
  refine ⟨le_of (by simp), fun p7 hp7 => ?_⟩
  have e7 : Fr [] H6 (upd H6 p7 (.lst [V.int m, .int m, .int m, .int m, .str n])) := Fr.new hp7
  have h7 : (upd H6 p7 (.lst [V.int m, .int m, .int m, .int m, .str n])) p7 = some (.lst [.int m, .int m, .int m, .int m, .str n]) := upd_same
  generalize upd H6 p7 (.lst [V.int m, .int m, .int m, .int m, .str n]) = H7 at *
  walk_at "q"
  refine ⟨le_of (by simp), fun p8 hp8 => ?_⟩
  have ep8 : Fr [] H7 (upd H7 p8 (.tup [V.int 1, .int 2, .int 3, .int 4, .int 12, .int 13, .int 19])) := Fr.new hp8
  have tp8 : SqT K (upd H7 p8 (.tup [V.int 1, .int 2, .int 3, .int 4, .int 12, .int 13, .int 19])) p8 [V.int 1, .int 2, .int 3, .int 4, .int 12, .int 13, .int 19] := SqT.of upd_same
  generalize upd H7 p8 (.tup [V.int 1, .int 2, .int 3, .int 4, .int 12, .int 13, .int 19]) = Gp8 at *
  refine ⟨p8, rfl, ⟨_, tp8⟩, fun D hD => lc_map (walk_tup (xs := [V.int 1, .int 2, .int 3, .int 4, .int 12, .int 13, .int 19])) (ys := [.str n, .str n, .str n, .str n, .str n, .str n, .str n]) (fun H' e => e.tup tp8) rfl rfl (by decide) hD (fun i x y H' A hx hy e k => ?_) (fun Jp8 fp8 jp8 => ?_)⟩
  ·have hm := List.mem_of_getElem? hx
   have hym := List.mem_of_getElem? hy
   have e67 : Fr [] H6 H' := (e7.trans ep8).trans e
   simp only [List.mem_cons, List.not_mem_nil, or_false] at hm
   simp only [List.mem_cons, List.not_mem_nil, or_false, or_self] at hym
   subst hym
   rcases hm with rfl | rfl | rfl | rfl | rfl | rfl | rfl
   all_goals refine g_name ⟨rfl, ?_⟩
   ·exact xat 1 (.str n) "name" _ rfl rfl X.nf_BadName H' e67 _ (tVar 6) _ (by rfl) (by exact fun R z => g_var rfl z) (k _ Fr.refl)
   ·exact xat 2 (.str n) "name" _ rfl rfl X.nf_Loose H' e67 _ (tVar 6) _ (by rfl) (by exact fun R z => g_var rfl z) (k _ Fr.refl)
   ·exact xat 3 (.str n) "name" _ rfl rfl X.nf_NoName H' e67 _ (tVar 6) _ (by rfl) (by exact fun R z => g_var rfl z) (k _ Fr.refl)
   ·exact xat 4 (.str n) "name" _ rfl rfl X.nf_BadWide H' e67 _ (tVar 6) _ (by rfl) (by exact fun R z => g_var rfl z) (k _ Fr.refl)
   ·exact xat 12 (.str n) "name" _ rfl rfl X.nf_Taken H' e67 _ (tVar 6) _ (by rfl) (by exact fun R z => g_var rfl z) (k _ Fr.refl)
   ·exact xat 13 (.str n) "name" _ rfl rfl X.nf_NoThing H' e67 _ (tVar 6) _ (by rfl) (by exact fun R z => g_var rfl z) (k _ Fr.refl)
   ·exact xat 19 (.str n) "name" _ rfl rfl X.nf_NoHand H' e67 _ (tVar 6) _ (by rfl) (by exact fun R z => g_var rfl z) (k _ Fr.refl)
  have f6 : Fr [] H6 Jp8 := (e7.trans ep8).trans fp8
  have g7 := (ep8.trans fp8).at h7 (fun z => nomatch z)
  have lay : ∀ d ∈ ([.int m, .str n, .tuple [.str n, .str "h.p.q"]] : List PyData), d.canLay0 = true ∧ d.depth ≤ 3 := by
   have hs : PyData.strOk n = true := word_ok hn
   intro d hd
   simp only [List.mem_cons, List.not_mem_nil, or_false] at hd
   rcases hd with rfl | rfl | rfl
   ·simp only [PyData.canLay0, PyData.depth]; exact ⟨trivial, by decide⟩
   ·simp only [PyData.canLay0, PyData.depth, hs]; exact ⟨trivial, by decide⟩
   ·simp only [PyData.canLay0, PyData.canLayAll0, PyData.depth, PyData.depthAll, hs, Bool.true_and, Bool.and_true]; exact ⟨by decide +kernel, by decide⟩
  walk_at "q"
  refine ⟨le_of (by simp), fun p9 hp9 => ?_⟩
  have e9 : Fr [] Jp8 (upd Jp8 p9 (.lst [V.str n])) := Fr.new hp9
  have h9 : (upd Jp8 p9 (.lst [V.str n])) p9 = some (.lst [.str n]) := upd_same
  generalize upd Jp8 p9 (.lst [V.str n]) = H9 at *
  walk_at "q"
  refine g_repL h9 (by decide) (by decide) (show 1 * 7 ≤ sizeLine by decide) fun p10 hp10 => ?_
  have e10 : Fr [] H9 (upd H9 p10 (.lst (List.replicate (7 : Int).toNat [V.str n]).flatten)) := Fr.new hp10
  have h10 : (upd H9 p10 (.lst (List.replicate (7 : Int).toNat [V.str n]).flatten)) p10 = some (.lst [.str n, .str n, .str n, .str n, .str n, .str n, .str n]) := upd_same
  generalize upd H9 p10 (.lst (List.replicate (7 : Int).toNat [V.str n]).flatten) = H10 at *
  have j10 := (e9.trans e10).at jp8 (fun z => nomatch z)
  have f10 : Fr [] H6 H10 := (f6.trans e9).trans e10
  have g10 := (e9.trans e10).at g7 (fun z => nomatch z)
  have d7 : ∀ H, DpAll K H [.str n, .str n, .str n, .str n, .str n, .str n, .str n] [.str n, .str n, .str n, .str n, .str n, .str n, .str n] := fun H => .cons (.str _) (.cons (.str _) (.cons (.str _) (.cons (.str _) (.cons (.str _) (.cons (.str _) (.cons (.str _) .nil))))))
  refine g_neSame (d := .list [.str n, .str n, .str n, .str n, .str n, .str n, .str n]) (.lst (SqL.of j10) (d7 _)) (.lst (SqL.of h10) (d7 _)) (shaped_of fun d hd => lay d (by simp only [List.mem_cons, List.not_mem_nil, or_false, or_self] at hd; subst hd; simp)) ?_
  walk_at "q"
  refine ⟨le_of (by simp), fun p11 hp11 => ?_⟩
  have ep11 : Fr [] H10 (upd H10 p11 (.tup [V.int 6, .int 7])) := Fr.new hp11
  have tp11 : SqT K (upd H10 p11 (.tup [V.int 6, .int 7])) p11 [V.int 6, .int 7] := SqT.of upd_same
  generalize upd H10 p11 (.tup [V.int 6, .int 7]) = Gp11 at *
  refine ⟨p11, rfl, ⟨_, tp11⟩, fun D hD => lc_map (walk_tup (xs := [V.int 6, .int 7])) (ys := [.ref hh, .ref hh]) (fun H' e => e.tup tp11) rfl rfl (by decide) hD (fun i x y H' A hx hy e k => ?_) (fun Jp11 fp11 jp11 => ?_)⟩
  ·have hm := List.mem_of_getElem? hx
   have hym := List.mem_of_getElem? hy
   have e67 : Fr [] H6 H' := (f10.trans ep11).trans e
   simp only [List.mem_cons, List.not_mem_nil, or_false] at hm
   simp only [List.mem_cons, List.not_mem_nil, or_false, or_self] at hym
   subst hym
   rcases hm with rfl | rfl
   all_goals refine g_name ⟨rfl, ?_⟩
   ·exact xat 6 (.ref hh) "heads" _ rfl rfl X.nf_Ring H' e67 _ (tVar 6) _ (by rfl) (by exact fun R z => g_var rfl z) (k _ Fr.refl)
   ·exact xat 7 (.ref hh) "heads" _ rfl rfl X.nf_Endless H' e67 _ (tVar 6) _ (by rfl) (by exact fun R z => g_var rfl z) (k _ Fr.refl)
  have f11 : Fr [] H6 Jp11 := (f10.trans ep11).trans fp11
  have g11 := (ep11.trans fp11).at g10 (fun z => nomatch z)
  walk_at "q"
  refine ⟨le_of (by simp), fun p12 hp12 => ?_⟩
  have e12 : Fr [] Jp11 (upd Jp11 p12 (.lst [V.ref hh])) := Fr.new hp12
  have h12 : (upd Jp11 p12 (.lst [V.ref hh])) p12 = some (.lst [.ref hh]) := upd_same
  generalize upd Jp11 p12 (.lst [V.ref hh]) = H12 at *
  walk_at "q"
  refine g_repL h12 (by decide) (by decide) (show 1 * 2 ≤ sizeLine by decide) fun p13 hp13 => ?_
  have e13 : Fr [] H12 (upd H12 p13 (.lst (List.replicate (2 : Int).toNat [V.ref hh]).flatten)) := Fr.new hp13
  have h13 : (upd H12 p13 (.lst (List.replicate (2 : Int).toNat [V.ref hh]).flatten)) p13 = some (.lst [.ref hh, .ref hh]) := upd_same
  generalize upd H12 p13 (.lst (List.replicate (2 : Int).toNat [V.ref hh]).flatten) = H13 at *
  have j13 := (e12.trans e13).at jp11 (fun z => nomatch z)
  have g13 := (e12.trans e13).at g11 (fun z => nomatch z)
  have f13 : Fr [] H6 H13 := (f11.trans e12).trans e13
  have hh13 : Dp K H13 (.ref hh) (.tuple [.str n, .str "h.p.q"]) := .tup (f13.tup hh6) (.cons (.str _) (.cons (.str _) .nil))
  refine g_neSame (d := .list [.tuple [.str n, .str "h.p.q"], .tuple [.str n, .str "h.p.q"]]) (.lst (SqL.of j13) (.cons hh13 (.cons hh13 .nil))) (.lst (SqL.of h13) (.cons hh13 (.cons hh13 .nil))) (shaped_of fun d hd => lay d (by simp only [List.mem_cons, List.not_mem_nil, or_false, or_self] at hd; subst hd; simp)) ?_
  walk_at "q"
  refine ⟨le_of (by simp), fun p14 hp14 => ?_⟩
  have e14 : Fr [] H13 (upd H13 p14 (.lst [V.int m])) := Fr.new hp14
  have h14 : (upd H13 p14 (.lst [V.int m])) p14 = some (.lst [.int m]) := upd_same
  generalize upd H13 p14 (.lst [V.int m]) = H14 at *
  walk_at "q"
  refine g_repL h14 (by decide) (by decide) (show 1 * 4 ≤ sizeLine by decide) fun p15 hp15 => ?_
  have e15 : Fr [] H14 (upd H14 p15 (.lst (List.replicate (4 : Int).toNat [V.int m]).flatten)) := Fr.new hp15
  have h15 : (upd H14 p15 (.lst (List.replicate (4 : Int).toNat [V.int m]).flatten)) p15 = some (.lst [.int m, .int m, .int m, .int m]) := upd_same
  generalize upd H14 p15 (.lst (List.replicate (4 : Int).toNat [V.int m]).flatten) = H15 at *
  walk_at "q"
  refine ⟨le_of (by simp), fun p16 hp16 => ?_⟩
  have e16 : Fr [] H15 (upd H15 p16 (.lst [V.str n])) := Fr.new hp16
  refine g_addL (e16.at h15 (fun z => nomatch z)) upd_same (le_of (by simp)) fun p17 hp17 => ?_
  have e17 := e16.trans (Fr.new (o := .lst ([V.int m, .int m, .int m, .int m] ++ [V.str n])) hp17)
  have h17 : (upd (upd H15 p16 (.lst [V.str n])) p17 (.lst ([V.int m, .int m, .int m, .int m] ++ [V.str n]))) p17 = some (.lst [.int m, .int m, .int m, .int m, .str n]) := upd_same
  generalize upd (upd H15 p16 (.lst [V.str n])) p17 (.lst ([V.int m, .int m, .int m, .int m] ++ [V.str n])) = H17 at *
  have g17 := ((e14.trans e15).trans e17).at g13 (fun z => nomatch z)
  have d5 : ∀ H, DpAll K H [.int m, .int m, .int m, .int m, .str n] [.int m, .int m, .int m, .int m, .str n] := fun H => .cons (.int _) (.cons (.int _) (.cons (.int _) (.cons (.int _) (.cons (.str _) .nil))))
  refine g_eqSame (d := .list [.int m, .int m, .int m, .int m, .str n]) (.lst (SqL.of g17) (d5 _)) (.lst (SqL.of h17) (d5 _)) (shaped_of fun d hd => lay d (by simp only [List.mem_cons, List.not_mem_nil, or_false] at hd; rcases hd with rfl | rfl | rfl | rfl | rfl <;> simp)) ?_
  exact q _
end
def famN : List Str := ["TextError", "CheckError", "DeedError", "SeatError"]
theorem getD_at {l : List Str} {i : Nat} {x : Str} (h : l[i]? = some x) : l.getD i "" = x := by
 rw [List.getD_eq_getElem?_getD, h]
 rfl
theorem kit_of {K : PySem.W.Frag} (h : ((List.range 22).all fun i => (List.range 22).all fun j => decide (PySem.W.kitOne K (.ref (He.ga K (clsN.getD i ""))) (.ref (He.ga K (clsN.getD j ""))) = some (decide (i = j)))) = true) :
  ∀ (i : Nat) (x : Str), clsN[i]? = some x → ∀ (j : Nat) (y : Str), clsN[j]? = some y → PySem.W.kitOne K (.ref (He.ga K x)) (.ref (He.ga K y)) = some (decide (i = j)) := fun i x hx j y hy => by
 have li : i < 22 := (List.getElem?_eq_some_iff.mp hx).1
 have lj : j < 22 := (List.getElem?_eq_some_iff.mp hy).1
 have z := of_decide_eq_true (List.all_eq_true.mp (List.all_eq_true.mp h i (List.mem_range.mpr li)) j (List.mem_range.mpr lj))
 rw [getD_at hx, getD_at hy] at z
 exact z
theorem fam_of {K : PySem.W.Frag} (h : ((List.range 22).all fun i => (List.range 4).all fun j => decide (PySem.W.kitOne K (.ref (He.ga K (clsN.getD i ""))) (.ref (He.ga K (famN.getD j ""))) = some (decide ((j : Int) = famK.getD i 0)))) = true) :
  ∀ (i : Nat) (x : Str) (f : Int), clsN[i]? = some x → famK[i]? = some f → ∀ (j : Nat) (y : Str), (["TextError", "CheckError", "DeedError", "SeatError"] : List Str)[j]? = some y → PySem.W.kitOne K (.ref (He.ga K x)) (.ref (He.ga K y)) = some (decide ((j : Int) = f)) := fun i x f hx hf j y hy => by
 have li : i < 22 := (List.getElem?_eq_some_iff.mp hx).1
 have lj : j < 4 := (List.getElem?_eq_some_iff.mp hy).1
 have z := of_decide_eq_true (List.all_eq_true.mp (List.all_eq_true.mp h i (List.mem_range.mpr li)) j (List.mem_range.mpr lj))
 have e2 : famN.getD j "" = y := getD_at hy
 have e3 : famK.getD i 0 = f := by rw [List.getD_eq_getElem?_getD, hf]; rfl
 rw [getD_at hx, e2, e3] at z
 exact z
def d_LoreError_ini : He.DefD := ⟨("LoreError", some "__init__"), "__init__", "LoreError.__init__", defArgs s_LoreError_ini, defBody s_LoreError_ini, defScope s_LoreError_ini, [], []⟩
def d_BadText_ini : He.DefD := ⟨("BadText", some "__init__"), "__init__", "BadText.__init__", defArgs s_BadText_ini, defBody s_BadText_ini, defScope s_BadText_ini, [], []⟩
def d_BadName_ini : He.DefD := ⟨("BadName", some "__init__"), "__init__", "BadName.__init__", defArgs s_BadName_ini, defBody s_BadName_ini, defScope s_BadName_ini, [], []⟩
def d_Loose_ini : He.DefD := ⟨("Loose", some "__init__"), "__init__", "Loose.__init__", defArgs s_Loose_ini, defBody s_Loose_ini, defScope s_Loose_ini, [], []⟩
def d_NoName_ini : He.DefD := ⟨("NoName", some "__init__"), "__init__", "NoName.__init__", defArgs s_NoName_ini, defBody s_NoName_ini, defScope s_NoName_ini, [], []⟩
def d_BadWide_ini : He.DefD := ⟨("BadWide", some "__init__"), "__init__", "BadWide.__init__", defArgs s_BadWide_ini, defBody s_BadWide_ini, defScope s_BadWide_ini, [], []⟩
def d_BadKind_ini : He.DefD := ⟨("BadKind", some "__init__"), "__init__", "BadKind.__init__", defArgs s_BadKind_ini, defBody s_BadKind_ini, defScope s_BadKind_ini, [], []⟩
def d_Ring_ini : He.DefD := ⟨("Ring", some "__init__"), "__init__", "Ring.__init__", defArgs s_Ring_ini, defBody s_Ring_ini, defScope s_Ring_ini, [], []⟩
def d_Endless_ini : He.DefD := ⟨("Endless", some "__init__"), "__init__", "Endless.__init__", defArgs s_Endless_ini, defBody s_Endless_ini, defScope s_Endless_ini, [], []⟩
def d_TooGreat_ini : He.DefD := ⟨("TooGreat", some "__init__"), "__init__", "TooGreat.__init__", defArgs s_TooGreat_ini, defBody s_TooGreat_ini, defScope s_TooGreat_ini, [], []⟩
def d_NotThere_ini : He.DefD := ⟨("NotThere", some "__init__"), "__init__", "NotThere.__init__", defArgs s_NotThere_ini, defBody s_NotThere_ini, defScope s_NotThere_ini, [], []⟩
def d_Present_ini : He.DefD := ⟨("Present", some "__init__"), "__init__", "Present.__init__", defArgs s_Present_ini, defBody s_Present_ini, defScope s_Present_ini, [], []⟩
def d_NotPlain_ini : He.DefD := ⟨("NotPlain", some "__init__"), "__init__", "NotPlain.__init__", defArgs s_NotPlain_ini, defBody s_NotPlain_ini, defScope s_NotPlain_ini, [], []⟩
def d_Taken_ini : He.DefD := ⟨("Taken", some "__init__"), "__init__", "Taken.__init__", defArgs s_Taken_ini, defBody s_Taken_ini, defScope s_Taken_ini, [], []⟩
def d_NoThing_ini : He.DefD := ⟨("NoThing", some "__init__"), "__init__", "NoThing.__init__", defArgs s_NoThing_ini, defBody s_NoThing_ini, defScope s_NoThing_ini, [], []⟩
def d_BadColumns_ini : He.DefD := ⟨("BadColumns", some "__init__"), "__init__", "BadColumns.__init__", defArgs s_BadColumns_ini, defBody s_BadColumns_ini, defScope s_BadColumns_ini, [], []⟩
def d_BadRow_ini : He.DefD := ⟨("BadRow", some "__init__"), "__init__", "BadRow.__init__", defArgs s_BadRow_ini, defBody s_BadRow_ini, defScope s_BadRow_ini, [], []⟩
def d_Full_ini : He.DefD := ⟨("Full", some "__init__"), "__init__", "Full.__init__", defArgs s_Full_ini, defBody s_Full_ini, defScope s_Full_ini, [], []⟩
def d_Uneven_ini : He.DefD := ⟨("Uneven", some "__init__"), "__init__", "Uneven.__init__", defArgs s_Uneven_ini, defBody s_Uneven_ini, defScope s_Uneven_ini, [], []⟩
def d_NothingLeft_ini : He.DefD := ⟨("NothingLeft", some "__init__"), "__init__", "NothingLeft.__init__", defArgs s_NothingLeft_ini, defBody s_NothingLeft_ini, defScope s_NothingLeft_ini, [], []⟩
def d_NoHand_ini : He.DefD := ⟨("NoHand", some "__init__"), "__init__", "NoHand.__init__", defArgs s_NoHand_ini, defBody s_NoHand_ini, defScope s_NoHand_ini, [], []⟩
def d_NoMoment_ini : He.DefD := ⟨("NoMoment", some "__init__"), "__init__", "NoMoment.__init__", defArgs s_NoMoment_ini, defBody s_NoMoment_ini, defScope s_NoMoment_ini, [], []⟩
def d_Busy_ini : He.DefD := ⟨("Busy", some "__init__"), "__init__", "Busy.__init__", defArgs s_Busy_ini, defBody s_Busy_ini, defScope s_Busy_ini, [], []⟩
def d__law_bag : He.DefD := ⟨("_law_bag", none), "_law_bag", "_law_bag", defArgs s__law_bag, defBody s__law_bag, defScope s__law_bag, [], []⟩
def d__law_pull : He.DefD := ⟨("_law_pull", none), "_law_pull", "_law_pull", defArgs s__law_pull, defBody s__law_pull, defScope s__law_pull, [], []⟩
def d__law_one : He.DefD := ⟨("_law_one", none), "_law_one", "_law_one", defArgs s__law_one, defBody s__law_one, defScope s__law_one, [], []⟩
def d__law_word : He.DefD := ⟨("_law_word", none), "_law_word", "_law_word", defArgs s__law_word, defBody s__law_word, defScope s__law_word, [], []⟩
def d__law_made : He.DefD := ⟨("_law_made", none), "_law_made", "_law_made", defArgs s__law_made, defBody s__law_made, defScope s__law_made, [], []⟩
def d__law_kinds_of : He.DefD := ⟨("_law_kinds_of", none), "_law_kinds_of", "_law_kinds_of", defArgs s__law_kinds_of, defBody s__law_kinds_of, defScope s__law_kinds_of, [], []⟩
def d_law : He.DefD := ⟨("law", none), "law", "law", defArgs s_law, defBody s_law, defScope s_law, [], []⟩
def fnAll : List He.DefD := [d_LoreError_ini, d_BadText_ini, d_BadName_ini, d_Loose_ini, d_NoName_ini, d_BadWide_ini, d_BadKind_ini, d_Ring_ini, d_Endless_ini, d_TooGreat_ini, d_NotThere_ini, d_Present_ini, d_NotPlain_ini, d_Taken_ini, d_NoThing_ini, d_BadColumns_ini, d_BadRow_ini, d_Full_ini, d_Uneven_ini, d_NothingLeft_ini, d_NoHand_ini, d_NoMoment_ini, d_Busy_ini, d__law_bag, d__law_pull, d__law_one, d__law_word, d__law_made, d__law_kinds_of, d_law]
def faAll : List He.Fa := [.glo "_law_bag", .glo "_law_pull", .glo "_law_one", .glo "_law_word", .glo "_law_made", .glo "_law_kinds_of", .glo "law", .free "len", .free "list", .free "range", .free "isinstance", .free "ValueError", .glo "LoreError", .glo "TextError", .glo "CheckError", .glo "DeedError", .glo "SeatError", .glo "BadText", .glo "BadName", .glo "Loose", .glo "NoName", .glo "BadWide", .glo "BadKind", .glo "Ring", .glo "Endless", .glo "TooGreat", .glo "NotThere", .glo "Present", .glo "NotPlain", .glo "Taken", .glo "NoThing", .glo "BadColumns", .glo "BadRow", .glo "Full", .glo "Uneven", .glo "NothingLeft", .glo "NoHand", .glo "NoMoment", .glo "Busy"]
def looseAll : List PySem.Str := (["LoreError", "TextError", "CheckError", "DeedError", "SeatError", "BadText", "BadName", "Loose", "NoName", "BadWide", "BadKind", "Ring", "Endless", "TooGreat", "NotThere", "Present", "NotPlain", "Taken", "NoThing", "BadColumns"] : List PySem.Str) ++ (["BadRow", "Full", "Uneven", "NothingLeft", "NoHand", "NoMoment", "Busy", "_law_bag", "_law_pull", "_law_one", "_law_word", "_law_made", "_law_kinds_of"] : List PySem.Str)
def tsAll : List He.Tab := []
def exL (K : PySem.W.Frag) : List Bool := [SL.ecB K (He.ga K "LoreError"),
 SL.eciB K (He.ga K "LoreError") (He.fAd K ("LoreError", some "__init__")),
 SL.ecB K (He.ga K "TextError"),
 SL.eciB K (He.ga K "TextError") (He.fAd K ("LoreError", some "__init__")),
 SL.ecB K (He.ga K "CheckError"),
 SL.eciB K (He.ga K "CheckError") (He.fAd K ("LoreError", some "__init__")),
 SL.ecB K (He.ga K "DeedError"),
 SL.eciB K (He.ga K "DeedError") (He.fAd K ("LoreError", some "__init__")),
 SL.ecB K (He.ga K "SeatError"),
 SL.eciB K (He.ga K "SeatError") (He.fAd K ("LoreError", some "__init__")),
 SL.ecB K (He.ga K "BadText"),
 SL.eciB K (He.ga K "BadText") (He.fAd K ("BadText", some "__init__")),
 decide (PySem.W.findIn K (.ref (He.ga K "BadText")) "word" = some none),
 decide (PySem.W.findIn K (.ref (He.ga K "BadText")) "at" = some none),
 SL.ecB K (He.ga K "BadName"),
 SL.eciB K (He.ga K "BadName") (He.fAd K ("BadName", some "__init__")),
 decide (PySem.W.findIn K (.ref (He.ga K "BadName")) "word" = some none),
 decide (PySem.W.findIn K (.ref (He.ga K "BadName")) "name" = some none),
 SL.ecB K (He.ga K "Loose"),
 SL.eciB K (He.ga K "Loose") (He.fAd K ("Loose", some "__init__")),
 decide (PySem.W.findIn K (.ref (He.ga K "Loose")) "word" = some none),
 decide (PySem.W.findIn K (.ref (He.ga K "Loose")) "name" = some none),
 SL.ecB K (He.ga K "NoName"),
 SL.eciB K (He.ga K "NoName") (He.fAd K ("NoName", some "__init__")),
 decide (PySem.W.findIn K (.ref (He.ga K "NoName")) "word" = some none),
 decide (PySem.W.findIn K (.ref (He.ga K "NoName")) "name" = some none),
 SL.ecB K (He.ga K "BadWide"),
 SL.eciB K (He.ga K "BadWide") (He.fAd K ("BadWide", some "__init__")),
 decide (PySem.W.findIn K (.ref (He.ga K "BadWide")) "word" = some none),
 decide (PySem.W.findIn K (.ref (He.ga K "BadWide")) "name" = some none),
 SL.ecB K (He.ga K "BadKind"),
 SL.eciB K (He.ga K "BadKind") (He.fAd K ("BadKind", some "__init__")),
 decide (PySem.W.findIn K (.ref (He.ga K "BadKind")) "word" = some none),
 SL.ecB K (He.ga K "Ring"),
 SL.eciB K (He.ga K "Ring") (He.fAd K ("Ring", some "__init__")),
 decide (PySem.W.findIn K (.ref (He.ga K "Ring")) "word" = some none),
 decide (PySem.W.findIn K (.ref (He.ga K "Ring")) "heads" = some none),
 SL.ecB K (He.ga K "Endless"),
 SL.eciB K (He.ga K "Endless") (He.fAd K ("Endless", some "__init__")),
 decide (PySem.W.findIn K (.ref (He.ga K "Endless")) "word" = some none),
 decide (PySem.W.findIn K (.ref (He.ga K "Endless")) "heads" = some none),
 SL.ecB K (He.ga K "TooGreat"),
 SL.eciB K (He.ga K "TooGreat") (He.fAd K ("TooGreat", some "__init__")),
 decide (PySem.W.findIn K (.ref (He.ga K "TooGreat")) "word" = some none),
 SL.ecB K (He.ga K "NotThere"),
 SL.eciB K (He.ga K "NotThere") (He.fAd K ("NotThere", some "__init__")),
 decide (PySem.W.findIn K (.ref (He.ga K "NotThere")) "word" = some none),
 SL.ecB K (He.ga K "Present"),
 SL.eciB K (He.ga K "Present") (He.fAd K ("Present", some "__init__")),
 decide (PySem.W.findIn K (.ref (He.ga K "Present")) "word" = some none),
 SL.ecB K (He.ga K "NotPlain"),
 SL.eciB K (He.ga K "NotPlain") (He.fAd K ("NotPlain", some "__init__")),
 decide (PySem.W.findIn K (.ref (He.ga K "NotPlain")) "word" = some none),
 SL.ecB K (He.ga K "Taken"),
 SL.eciB K (He.ga K "Taken") (He.fAd K ("Taken", some "__init__")),
 decide (PySem.W.findIn K (.ref (He.ga K "Taken")) "word" = some none),
 decide (PySem.W.findIn K (.ref (He.ga K "Taken")) "name" = some none),
 SL.ecB K (He.ga K "NoThing"),
 SL.eciB K (He.ga K "NoThing") (He.fAd K ("NoThing", some "__init__")),
 decide (PySem.W.findIn K (.ref (He.ga K "NoThing")) "word" = some none),
 decide (PySem.W.findIn K (.ref (He.ga K "NoThing")) "name" = some none),
 SL.ecB K (He.ga K "BadColumns"),
 SL.eciB K (He.ga K "BadColumns") (He.fAd K ("BadColumns", some "__init__")),
 decide (PySem.W.findIn K (.ref (He.ga K "BadColumns")) "word" = some none),
 SL.ecB K (He.ga K "BadRow"),
 SL.eciB K (He.ga K "BadRow") (He.fAd K ("BadRow", some "__init__")),
 decide (PySem.W.findIn K (.ref (He.ga K "BadRow")) "word" = some none),
 SL.ecB K (He.ga K "Full"),
 SL.eciB K (He.ga K "Full") (He.fAd K ("Full", some "__init__")),
 decide (PySem.W.findIn K (.ref (He.ga K "Full")) "word" = some none),
 decide (PySem.W.findIn K (.ref (He.ga K "Full")) "most" = some none),
 SL.ecB K (He.ga K "Uneven"),
 SL.eciB K (He.ga K "Uneven") (He.fAd K ("Uneven", some "__init__")),
 decide (PySem.W.findIn K (.ref (He.ga K "Uneven")) "word" = some none),
 decide (PySem.W.findIn K (.ref (He.ga K "Uneven")) "number" = some none),
 SL.ecB K (He.ga K "NothingLeft"),
 SL.eciB K (He.ga K "NothingLeft") (He.fAd K ("NothingLeft", some "__init__")),
 decide (PySem.W.findIn K (.ref (He.ga K "NothingLeft")) "word" = some none),
 decide (PySem.W.findIn K (.ref (He.ga K "NothingLeft")) "way" = some none),
 SL.ecB K (He.ga K "NoHand"),
 SL.eciB K (He.ga K "NoHand") (He.fAd K ("NoHand", some "__init__")),
 decide (PySem.W.findIn K (.ref (He.ga K "NoHand")) "word" = some none),
 decide (PySem.W.findIn K (.ref (He.ga K "NoHand")) "name" = some none),
 SL.ecB K (He.ga K "NoMoment"),
 SL.eciB K (He.ga K "NoMoment") (He.fAd K ("NoMoment", some "__init__")),
 decide (PySem.W.findIn K (.ref (He.ga K "NoMoment")) "word" = some none),
 decide (PySem.W.findIn K (.ref (He.ga K "NoMoment")) "at" = some none),
 SL.ecB K (He.ga K "Busy"),
 SL.eciB K (He.ga K "Busy") (He.fAd K ("Busy", some "__init__")),
 decide (PySem.W.findIn K (.ref (He.ga K "Busy")) "word" = some none),
 ((List.range 22).all fun i => (List.range 22).all fun j => decide (PySem.W.kitOne K (.ref (He.ga K (clsN.getD i ""))) (.ref (He.ga K (clsN.getD j ""))) = some (decide (i = j)))),
 (clsN.all fun x => decide (PySem.W.kitOne K (.ref (He.ga K x)) (.ref (He.ga K "LoreError")) = some true)),
 (clsN.all fun x => decide (PySem.W.kitOne K (.ref (He.ga K x)) (.type "ValueError") = some true)),
 ((List.range 22).all fun i => (List.range 4).all fun j => decide (PySem.W.kitOne K (.ref (He.ga K (clsN.getD i ""))) (.ref (He.ga K (famN.getD j ""))) = some (decide ((j : Int) = famK.getD i 0))))]
def exAll (K : PySem.W.Frag) : Bool := (exL K).all id
theorem exL_at {K : PySem.W.Frag} {b : Bool} (h : exAll K = true) (i : Nat) (e : (exL K)[i]? = some b) : b = true := List.all_eq_true.mp h b (List.mem_of_getElem? e)
abbrev RR : PySem.W.OpenRow := PySem.W.OpenLaw.row PySem.Challenge.rw_sightlore_k10_refusals_by_themselves
abbrev hk : PySem.W.Hook := SL.hookY 4 faAll fnAll tsAll exAll
def obAll (s : PySem.W.SharedT) : He.AlX := SL.obsY 4 faAll fnAll tsAll exAll (HandSHeadRun.getT s)
theorem ob_eq (s : PySem.W.SharedT) : obAll s = hk.obs s.abs := SL.obsY_eq (HandSHeadRun.getT_eq s)
theorem run (w : World) : HandSHeadRun.RunEq RR (PySem.W.view RR.prog [35]) hk obAll 9000 looseAll w := by
 refine PySem.W.byRow2 "special-get-raises" (P := fun w => HandSHeadRun.RunEq RR (PySem.W.view RR.prog [35]) hk obAll 9000 looseAll w) (fun w os => ?_) (fun w os => ?_) w
 ·kernel_rfl
 ·kernel_rfl
theorem facts {P : Program} {w : World} {K : PySem.W.Frag} {h : Heap} {mg : Str → Option Value} {f : Addr} (X : K.In h) (G : h.Ns mainGlobals mg) (hfa : mg ("law" : Str) = some (.ref f)) (c : SL.SaysY faAll fnAll tsAll exAll w K) :
  ∃ fd : FuncData, (∀ (s : Shared) (v : Value), BindsTo s fd ⟨[v], []⟩ [("_law_script", v)]) ∧ ∀ base : Heap, K.In base → base.Ns mainGlobals mg → FnG P w K mg base CX0 100 f fd ["_law_script"] (spLaw K) := by
 obtain ⟨fd_LoreError_ini, F_LoreError_ini⟩ := c.t.d.def_ 0 (d := d_LoreError_ini) rfl
 have b_LoreError_ini : Binds K fd_LoreError_ini ["self", "word"] [] := F_LoreError_ini.bindsN fun _ _ _ _ _ _ us hl => match us, hl with | [_, _], _ => rfl
 obtain ⟨fd_BadText_ini, F_BadText_ini⟩ := c.t.d.def_ 1 (d := d_BadText_ini) rfl
 have b_BadText_ini : Binds K fd_BadText_ini ["self", "at"] [] := F_BadText_ini.bindsN fun _ _ _ _ _ _ us hl => match us, hl with | [_, _], _ => rfl
 obtain ⟨fd_BadName_ini, F_BadName_ini⟩ := c.t.d.def_ 2 (d := d_BadName_ini) rfl
 have b_BadName_ini : Binds K fd_BadName_ini ["self", "name"] [] := F_BadName_ini.bindsN fun _ _ _ _ _ _ us hl => match us, hl with | [_, _], _ => rfl
 obtain ⟨fd_Loose_ini, F_Loose_ini⟩ := c.t.d.def_ 3 (d := d_Loose_ini) rfl
 have b_Loose_ini : Binds K fd_Loose_ini ["self", "name"] [] := F_Loose_ini.bindsN fun _ _ _ _ _ _ us hl => match us, hl with | [_, _], _ => rfl
 obtain ⟨fd_NoName_ini, F_NoName_ini⟩ := c.t.d.def_ 4 (d := d_NoName_ini) rfl
 have b_NoName_ini : Binds K fd_NoName_ini ["self", "name"] [] := F_NoName_ini.bindsN fun _ _ _ _ _ _ us hl => match us, hl with | [_, _], _ => rfl
 obtain ⟨fd_BadWide_ini, F_BadWide_ini⟩ := c.t.d.def_ 5 (d := d_BadWide_ini) rfl
 have b_BadWide_ini : Binds K fd_BadWide_ini ["self", "name"] [] := F_BadWide_ini.bindsN fun _ _ _ _ _ _ us hl => match us, hl with | [_, _], _ => rfl
 obtain ⟨fd_BadKind_ini, F_BadKind_ini⟩ := c.t.d.def_ 6 (d := d_BadKind_ini) rfl
 have b_BadKind_ini : Binds K fd_BadKind_ini ["self"] [] := F_BadKind_ini.bindsN fun _ _ _ _ _ _ us hl => match us, hl with | [_], _ => rfl
 obtain ⟨fd_Ring_ini, F_Ring_ini⟩ := c.t.d.def_ 7 (d := d_Ring_ini) rfl
 have b_Ring_ini : Binds K fd_Ring_ini ["self", "heads"] [] := F_Ring_ini.bindsN fun _ _ _ _ _ _ us hl => match us, hl with | [_, _], _ => rfl
 obtain ⟨fd_Endless_ini, F_Endless_ini⟩ := c.t.d.def_ 8 (d := d_Endless_ini) rfl
 have b_Endless_ini : Binds K fd_Endless_ini ["self", "heads"] [] := F_Endless_ini.bindsN fun _ _ _ _ _ _ us hl => match us, hl with | [_, _], _ => rfl
 obtain ⟨fd_TooGreat_ini, F_TooGreat_ini⟩ := c.t.d.def_ 9 (d := d_TooGreat_ini) rfl
 have b_TooGreat_ini : Binds K fd_TooGreat_ini ["self"] [] := F_TooGreat_ini.bindsN fun _ _ _ _ _ _ us hl => match us, hl with | [_], _ => rfl
 obtain ⟨fd_NotThere_ini, F_NotThere_ini⟩ := c.t.d.def_ 10 (d := d_NotThere_ini) rfl
 have b_NotThere_ini : Binds K fd_NotThere_ini ["self"] [] := F_NotThere_ini.bindsN fun _ _ _ _ _ _ us hl => match us, hl with | [_], _ => rfl
 obtain ⟨fd_Present_ini, F_Present_ini⟩ := c.t.d.def_ 11 (d := d_Present_ini) rfl
 have b_Present_ini : Binds K fd_Present_ini ["self"] [] := F_Present_ini.bindsN fun _ _ _ _ _ _ us hl => match us, hl with | [_], _ => rfl
 obtain ⟨fd_NotPlain_ini, F_NotPlain_ini⟩ := c.t.d.def_ 12 (d := d_NotPlain_ini) rfl
 have b_NotPlain_ini : Binds K fd_NotPlain_ini ["self"] [] := F_NotPlain_ini.bindsN fun _ _ _ _ _ _ us hl => match us, hl with | [_], _ => rfl
 obtain ⟨fd_Taken_ini, F_Taken_ini⟩ := c.t.d.def_ 13 (d := d_Taken_ini) rfl
 have b_Taken_ini : Binds K fd_Taken_ini ["self", "name"] [] := F_Taken_ini.bindsN fun _ _ _ _ _ _ us hl => match us, hl with | [_, _], _ => rfl
 obtain ⟨fd_NoThing_ini, F_NoThing_ini⟩ := c.t.d.def_ 14 (d := d_NoThing_ini) rfl
 have b_NoThing_ini : Binds K fd_NoThing_ini ["self", "name"] [] := F_NoThing_ini.bindsN fun _ _ _ _ _ _ us hl => match us, hl with | [_, _], _ => rfl
 obtain ⟨fd_BadColumns_ini, F_BadColumns_ini⟩ := c.t.d.def_ 15 (d := d_BadColumns_ini) rfl
 have b_BadColumns_ini : Binds K fd_BadColumns_ini ["self"] [] := F_BadColumns_ini.bindsN fun _ _ _ _ _ _ us hl => match us, hl with | [_], _ => rfl
 obtain ⟨fd_BadRow_ini, F_BadRow_ini⟩ := c.t.d.def_ 16 (d := d_BadRow_ini) rfl
 have b_BadRow_ini : Binds K fd_BadRow_ini ["self"] [] := F_BadRow_ini.bindsN fun _ _ _ _ _ _ us hl => match us, hl with | [_], _ => rfl
 obtain ⟨fd_Full_ini, F_Full_ini⟩ := c.t.d.def_ 17 (d := d_Full_ini) rfl
 have b_Full_ini : Binds K fd_Full_ini ["self", "most"] [] := F_Full_ini.bindsN fun _ _ _ _ _ _ us hl => match us, hl with | [_, _], _ => rfl
 obtain ⟨fd_Uneven_ini, F_Uneven_ini⟩ := c.t.d.def_ 18 (d := d_Uneven_ini) rfl
 have b_Uneven_ini : Binds K fd_Uneven_ini ["self", "number"] [] := F_Uneven_ini.bindsN fun _ _ _ _ _ _ us hl => match us, hl with | [_, _], _ => rfl
 obtain ⟨fd_NothingLeft_ini, F_NothingLeft_ini⟩ := c.t.d.def_ 19 (d := d_NothingLeft_ini) rfl
 have b_NothingLeft_ini : Binds K fd_NothingLeft_ini ["self", "way"] [] := F_NothingLeft_ini.bindsN fun _ _ _ _ _ _ us hl => match us, hl with | [_, _], _ => rfl
 obtain ⟨fd_NoHand_ini, F_NoHand_ini⟩ := c.t.d.def_ 20 (d := d_NoHand_ini) rfl
 have b_NoHand_ini : Binds K fd_NoHand_ini ["self", "name"] [] := F_NoHand_ini.bindsN fun _ _ _ _ _ _ us hl => match us, hl with | [_, _], _ => rfl
 obtain ⟨fd_NoMoment_ini, F_NoMoment_ini⟩ := c.t.d.def_ 21 (d := d_NoMoment_ini) rfl
 have b_NoMoment_ini : Binds K fd_NoMoment_ini ["self", "at"] [] := F_NoMoment_ini.bindsN fun _ _ _ _ _ _ us hl => match us, hl with | [_, _], _ => rfl
 obtain ⟨fd_Busy_ini, F_Busy_ini⟩ := c.t.d.def_ 22 (d := d_Busy_ini) rfl
 have b_Busy_ini : Binds K fd_Busy_ini ["self"] [] := F_Busy_ini.bindsN fun _ _ _ _ _ _ us hl => match us, hl with | [_], _ => rfl
 obtain ⟨fd__law_bag, F__law_bag⟩ := c.t.d.def_ 23 (d := d__law_bag) rfl
 have M__law_bag := He.glo_ok X G (c.t.d.fact 0 (f := .glo "_law_bag") rfl)
 have b__law_bag : Binds K fd__law_bag ["_law_script"] [] := F__law_bag.bindsN fun _ _ _ _ _ _ us hl => match us, hl with | [_], _ => rfl
 obtain ⟨fd__law_pull, F__law_pull⟩ := c.t.d.def_ 24 (d := d__law_pull) rfl
 have M__law_pull := He.glo_ok X G (c.t.d.fact 1 (f := .glo "_law_pull") rfl)
 have b__law_pull : Binds K fd__law_pull ["_law_bag_here", "_law_upto"] [] := F__law_pull.bindsN fun _ _ _ _ _ _ us hl => match us, hl with | [_, _], _ => rfl
 obtain ⟨fd__law_one, F__law_one⟩ := c.t.d.def_ 25 (d := d__law_one) rfl
 have M__law_one := He.glo_ok X G (c.t.d.fact 2 (f := .glo "_law_one") rfl)
 have b__law_one : Binds K fd__law_one ["_law_bag_here", "_law_row"] [] := F__law_one.bindsN fun _ _ _ _ _ _ us hl => match us, hl with | [_, _], _ => rfl
 obtain ⟨fd__law_word, F__law_word⟩ := c.t.d.def_ 26 (d := d__law_word) rfl
 have M__law_word := He.glo_ok X G (c.t.d.fact 3 (f := .glo "_law_word") rfl)
 have b__law_word : Binds K fd__law_word ["_law_bag_here"] [] := F__law_word.bindsN fun _ _ _ _ _ _ us hl => match us, hl with | [_], _ => rfl
 obtain ⟨fd__law_made, F__law_made⟩ := c.t.d.def_ 27 (d := d__law_made) rfl
 have M__law_made := He.glo_ok X G (c.t.d.fact 4 (f := .glo "_law_made") rfl)
 have b__law_made : Binds K fd__law_made ["_law_name", "_law_number", "_law_heads_in"] [] := F__law_made.bindsN fun _ _ _ _ _ _ us hl => match us, hl with | [_, _, _], _ => rfl
 obtain ⟨fd__law_kinds_of, F__law_kinds_of⟩ := c.t.d.def_ 28 (d := d__law_kinds_of) rfl
 have M__law_kinds_of := He.glo_ok X G (c.t.d.fact 5 (f := .glo "_law_kinds_of") rfl)
 have b__law_kinds_of : Binds K fd__law_kinds_of ["_law_e"] [] := F__law_kinds_of.bindsN fun _ _ _ _ _ _ us hl => match us, hl with | [_], _ => rfl
 obtain ⟨fd_law, F_law⟩ := c.t.d.def_ 29 (d := d_law) rfl
 have Z_len := He.free_ok X G (c.t.d.fact 7 (f := .free "len") rfl)
 have Z_list := He.free_ok X G (c.t.d.fact 8 (f := .free "list") rfl)
 have Z_range := He.free_ok X G (c.t.d.fact 9 (f := .free "range") rfl)
 have Z_isinstance := He.free_ok X G (c.t.d.fact 10 (f := .free "isinstance") rfl)
 have Z_ValueError := He.free_ok X G (c.t.d.fact 11 (f := .free "ValueError") rfl)
 have m_LoreError := He.glo_ok X G (c.t.d.fact 12 (f := .glo "LoreError") rfl)
 have m_TextError := He.glo_ok X G (c.t.d.fact 13 (f := .glo "TextError") rfl)
 have m_CheckError := He.glo_ok X G (c.t.d.fact 14 (f := .glo "CheckError") rfl)
 have m_DeedError := He.glo_ok X G (c.t.d.fact 15 (f := .glo "DeedError") rfl)
 have m_SeatError := He.glo_ok X G (c.t.d.fact 16 (f := .glo "SeatError") rfl)
 have m_BadText := He.glo_ok X G (c.t.d.fact 17 (f := .glo "BadText") rfl)
 have m_BadName := He.glo_ok X G (c.t.d.fact 18 (f := .glo "BadName") rfl)
 have m_Loose := He.glo_ok X G (c.t.d.fact 19 (f := .glo "Loose") rfl)
 have m_NoName := He.glo_ok X G (c.t.d.fact 20 (f := .glo "NoName") rfl)
 have m_BadWide := He.glo_ok X G (c.t.d.fact 21 (f := .glo "BadWide") rfl)
 have m_BadKind := He.glo_ok X G (c.t.d.fact 22 (f := .glo "BadKind") rfl)
 have m_Ring := He.glo_ok X G (c.t.d.fact 23 (f := .glo "Ring") rfl)
 have m_Endless := He.glo_ok X G (c.t.d.fact 24 (f := .glo "Endless") rfl)
 have m_TooGreat := He.glo_ok X G (c.t.d.fact 25 (f := .glo "TooGreat") rfl)
 have m_NotThere := He.glo_ok X G (c.t.d.fact 26 (f := .glo "NotThere") rfl)
 have m_Present := He.glo_ok X G (c.t.d.fact 27 (f := .glo "Present") rfl)
 have m_NotPlain := He.glo_ok X G (c.t.d.fact 28 (f := .glo "NotPlain") rfl)
 have m_Taken := He.glo_ok X G (c.t.d.fact 29 (f := .glo "Taken") rfl)
 have m_NoThing := He.glo_ok X G (c.t.d.fact 30 (f := .glo "NoThing") rfl)
 have m_BadColumns := He.glo_ok X G (c.t.d.fact 31 (f := .glo "BadColumns") rfl)
 have m_BadRow := He.glo_ok X G (c.t.d.fact 32 (f := .glo "BadRow") rfl)
 have m_Full := He.glo_ok X G (c.t.d.fact 33 (f := .glo "Full") rfl)
 have m_Uneven := He.glo_ok X G (c.t.d.fact 34 (f := .glo "Uneven") rfl)
 have m_NothingLeft := He.glo_ok X G (c.t.d.fact 35 (f := .glo "NothingLeft") rfl)
 have m_NoHand := He.glo_ok X G (c.t.d.fact 36 (f := .glo "NoHand") rfl)
 have m_NoMoment := He.glo_ok X G (c.t.d.fact 37 (f := .glo "NoMoment") rfl)
 have m_Busy := He.glo_ok X G (c.t.d.fact 38 (f := .glo "Busy") rfl)
 have x_ec_LoreError : (SL.ecB K (He.ga K "LoreError")) = true := exL_at c.more 0 rfl
 have x_ei_LoreError : (SL.eciB K (He.ga K "LoreError") (He.fAd K ("LoreError", some "__init__"))) = true := exL_at c.more 1 rfl
 have x_ec_TextError : (SL.ecB K (He.ga K "TextError")) = true := exL_at c.more 2 rfl
 have x_ei_TextError : (SL.eciB K (He.ga K "TextError") (He.fAd K ("LoreError", some "__init__"))) = true := exL_at c.more 3 rfl
 have x_ec_CheckError : (SL.ecB K (He.ga K "CheckError")) = true := exL_at c.more 4 rfl
 have x_ei_CheckError : (SL.eciB K (He.ga K "CheckError") (He.fAd K ("LoreError", some "__init__"))) = true := exL_at c.more 5 rfl
 have x_ec_DeedError : (SL.ecB K (He.ga K "DeedError")) = true := exL_at c.more 6 rfl
 have x_ei_DeedError : (SL.eciB K (He.ga K "DeedError") (He.fAd K ("LoreError", some "__init__"))) = true := exL_at c.more 7 rfl
 have x_ec_SeatError : (SL.ecB K (He.ga K "SeatError")) = true := exL_at c.more 8 rfl
 have x_ei_SeatError : (SL.eciB K (He.ga K "SeatError") (He.fAd K ("LoreError", some "__init__"))) = true := exL_at c.more 9 rfl
 have x_ec_BadText : (SL.ecB K (He.ga K "BadText")) = true := exL_at c.more 10 rfl
 have x_ei_BadText : (SL.eciB K (He.ga K "BadText") (He.fAd K ("BadText", some "__init__"))) = true := exL_at c.more 11 rfl
 have x_nw_BadText : (decide (PySem.W.findIn K (.ref (He.ga K "BadText")) "word" = some none)) = true := exL_at c.more 12 rfl
 have x_nf_BadText : (decide (PySem.W.findIn K (.ref (He.ga K "BadText")) "at" = some none)) = true := exL_at c.more 13 rfl
 have x_ec_BadName : (SL.ecB K (He.ga K "BadName")) = true := exL_at c.more 14 rfl
 have x_ei_BadName : (SL.eciB K (He.ga K "BadName") (He.fAd K ("BadName", some "__init__"))) = true := exL_at c.more 15 rfl
 have x_nw_BadName : (decide (PySem.W.findIn K (.ref (He.ga K "BadName")) "word" = some none)) = true := exL_at c.more 16 rfl
 have x_nf_BadName : (decide (PySem.W.findIn K (.ref (He.ga K "BadName")) "name" = some none)) = true := exL_at c.more 17 rfl
 have x_ec_Loose : (SL.ecB K (He.ga K "Loose")) = true := exL_at c.more 18 rfl
 have x_ei_Loose : (SL.eciB K (He.ga K "Loose") (He.fAd K ("Loose", some "__init__"))) = true := exL_at c.more 19 rfl
 have x_nw_Loose : (decide (PySem.W.findIn K (.ref (He.ga K "Loose")) "word" = some none)) = true := exL_at c.more 20 rfl
 have x_nf_Loose : (decide (PySem.W.findIn K (.ref (He.ga K "Loose")) "name" = some none)) = true := exL_at c.more 21 rfl
 have x_ec_NoName : (SL.ecB K (He.ga K "NoName")) = true := exL_at c.more 22 rfl
 have x_ei_NoName : (SL.eciB K (He.ga K "NoName") (He.fAd K ("NoName", some "__init__"))) = true := exL_at c.more 23 rfl
 have x_nw_NoName : (decide (PySem.W.findIn K (.ref (He.ga K "NoName")) "word" = some none)) = true := exL_at c.more 24 rfl
 have x_nf_NoName : (decide (PySem.W.findIn K (.ref (He.ga K "NoName")) "name" = some none)) = true := exL_at c.more 25 rfl
 have x_ec_BadWide : (SL.ecB K (He.ga K "BadWide")) = true := exL_at c.more 26 rfl
 have x_ei_BadWide : (SL.eciB K (He.ga K "BadWide") (He.fAd K ("BadWide", some "__init__"))) = true := exL_at c.more 27 rfl
 have x_nw_BadWide : (decide (PySem.W.findIn K (.ref (He.ga K "BadWide")) "word" = some none)) = true := exL_at c.more 28 rfl
 have x_nf_BadWide : (decide (PySem.W.findIn K (.ref (He.ga K "BadWide")) "name" = some none)) = true := exL_at c.more 29 rfl
 have x_ec_BadKind : (SL.ecB K (He.ga K "BadKind")) = true := exL_at c.more 30 rfl
 have x_ei_BadKind : (SL.eciB K (He.ga K "BadKind") (He.fAd K ("BadKind", some "__init__"))) = true := exL_at c.more 31 rfl
 have x_nw_BadKind : (decide (PySem.W.findIn K (.ref (He.ga K "BadKind")) "word" = some none)) = true := exL_at c.more 32 rfl
 have x_ec_Ring : (SL.ecB K (He.ga K "Ring")) = true := exL_at c.more 33 rfl
 have x_ei_Ring : (SL.eciB K (He.ga K "Ring") (He.fAd K ("Ring", some "__init__"))) = true := exL_at c.more 34 rfl
 have x_nw_Ring : (decide (PySem.W.findIn K (.ref (He.ga K "Ring")) "word" = some none)) = true := exL_at c.more 35 rfl
 have x_nf_Ring : (decide (PySem.W.findIn K (.ref (He.ga K "Ring")) "heads" = some none)) = true := exL_at c.more 36 rfl
 have x_ec_Endless : (SL.ecB K (He.ga K "Endless")) = true := exL_at c.more 37 rfl
 have x_ei_Endless : (SL.eciB K (He.ga K "Endless") (He.fAd K ("Endless", some "__init__"))) = true := exL_at c.more 38 rfl
 have x_nw_Endless : (decide (PySem.W.findIn K (.ref (He.ga K "Endless")) "word" = some none)) = true := exL_at c.more 39 rfl
 have x_nf_Endless : (decide (PySem.W.findIn K (.ref (He.ga K "Endless")) "heads" = some none)) = true := exL_at c.more 40 rfl
 have x_ec_TooGreat : (SL.ecB K (He.ga K "TooGreat")) = true := exL_at c.more 41 rfl
 have x_ei_TooGreat : (SL.eciB K (He.ga K "TooGreat") (He.fAd K ("TooGreat", some "__init__"))) = true := exL_at c.more 42 rfl
 have x_nw_TooGreat : (decide (PySem.W.findIn K (.ref (He.ga K "TooGreat")) "word" = some none)) = true := exL_at c.more 43 rfl
 have x_ec_NotThere : (SL.ecB K (He.ga K "NotThere")) = true := exL_at c.more 44 rfl
 have x_ei_NotThere : (SL.eciB K (He.ga K "NotThere") (He.fAd K ("NotThere", some "__init__"))) = true := exL_at c.more 45 rfl
 have x_nw_NotThere : (decide (PySem.W.findIn K (.ref (He.ga K "NotThere")) "word" = some none)) = true := exL_at c.more 46 rfl
 have x_ec_Present : (SL.ecB K (He.ga K "Present")) = true := exL_at c.more 47 rfl
 have x_ei_Present : (SL.eciB K (He.ga K "Present") (He.fAd K ("Present", some "__init__"))) = true := exL_at c.more 48 rfl
 have x_nw_Present : (decide (PySem.W.findIn K (.ref (He.ga K "Present")) "word" = some none)) = true := exL_at c.more 49 rfl
 have x_ec_NotPlain : (SL.ecB K (He.ga K "NotPlain")) = true := exL_at c.more 50 rfl
 have x_ei_NotPlain : (SL.eciB K (He.ga K "NotPlain") (He.fAd K ("NotPlain", some "__init__"))) = true := exL_at c.more 51 rfl
 have x_nw_NotPlain : (decide (PySem.W.findIn K (.ref (He.ga K "NotPlain")) "word" = some none)) = true := exL_at c.more 52 rfl
 have x_ec_Taken : (SL.ecB K (He.ga K "Taken")) = true := exL_at c.more 53 rfl
 have x_ei_Taken : (SL.eciB K (He.ga K "Taken") (He.fAd K ("Taken", some "__init__"))) = true := exL_at c.more 54 rfl
 have x_nw_Taken : (decide (PySem.W.findIn K (.ref (He.ga K "Taken")) "word" = some none)) = true := exL_at c.more 55 rfl
 have x_nf_Taken : (decide (PySem.W.findIn K (.ref (He.ga K "Taken")) "name" = some none)) = true := exL_at c.more 56 rfl
 have x_ec_NoThing : (SL.ecB K (He.ga K "NoThing")) = true := exL_at c.more 57 rfl
 have x_ei_NoThing : (SL.eciB K (He.ga K "NoThing") (He.fAd K ("NoThing", some "__init__"))) = true := exL_at c.more 58 rfl
 have x_nw_NoThing : (decide (PySem.W.findIn K (.ref (He.ga K "NoThing")) "word" = some none)) = true := exL_at c.more 59 rfl
 have x_nf_NoThing : (decide (PySem.W.findIn K (.ref (He.ga K "NoThing")) "name" = some none)) = true := exL_at c.more 60 rfl
 have x_ec_BadColumns : (SL.ecB K (He.ga K "BadColumns")) = true := exL_at c.more 61 rfl
 have x_ei_BadColumns : (SL.eciB K (He.ga K "BadColumns") (He.fAd K ("BadColumns", some "__init__"))) = true := exL_at c.more 62 rfl
 have x_nw_BadColumns : (decide (PySem.W.findIn K (.ref (He.ga K "BadColumns")) "word" = some none)) = true := exL_at c.more 63 rfl
 have x_ec_BadRow : (SL.ecB K (He.ga K "BadRow")) = true := exL_at c.more 64 rfl
 have x_ei_BadRow : (SL.eciB K (He.ga K "BadRow") (He.fAd K ("BadRow", some "__init__"))) = true := exL_at c.more 65 rfl
 have x_nw_BadRow : (decide (PySem.W.findIn K (.ref (He.ga K "BadRow")) "word" = some none)) = true := exL_at c.more 66 rfl
 have x_ec_Full : (SL.ecB K (He.ga K "Full")) = true := exL_at c.more 67 rfl
 have x_ei_Full : (SL.eciB K (He.ga K "Full") (He.fAd K ("Full", some "__init__"))) = true := exL_at c.more 68 rfl
 have x_nw_Full : (decide (PySem.W.findIn K (.ref (He.ga K "Full")) "word" = some none)) = true := exL_at c.more 69 rfl
 have x_nf_Full : (decide (PySem.W.findIn K (.ref (He.ga K "Full")) "most" = some none)) = true := exL_at c.more 70 rfl
 have x_ec_Uneven : (SL.ecB K (He.ga K "Uneven")) = true := exL_at c.more 71 rfl
 have x_ei_Uneven : (SL.eciB K (He.ga K "Uneven") (He.fAd K ("Uneven", some "__init__"))) = true := exL_at c.more 72 rfl
 have x_nw_Uneven : (decide (PySem.W.findIn K (.ref (He.ga K "Uneven")) "word" = some none)) = true := exL_at c.more 73 rfl
 have x_nf_Uneven : (decide (PySem.W.findIn K (.ref (He.ga K "Uneven")) "number" = some none)) = true := exL_at c.more 74 rfl
 have x_ec_NothingLeft : (SL.ecB K (He.ga K "NothingLeft")) = true := exL_at c.more 75 rfl
 have x_ei_NothingLeft : (SL.eciB K (He.ga K "NothingLeft") (He.fAd K ("NothingLeft", some "__init__"))) = true := exL_at c.more 76 rfl
 have x_nw_NothingLeft : (decide (PySem.W.findIn K (.ref (He.ga K "NothingLeft")) "word" = some none)) = true := exL_at c.more 77 rfl
 have x_nf_NothingLeft : (decide (PySem.W.findIn K (.ref (He.ga K "NothingLeft")) "way" = some none)) = true := exL_at c.more 78 rfl
 have x_ec_NoHand : (SL.ecB K (He.ga K "NoHand")) = true := exL_at c.more 79 rfl
 have x_ei_NoHand : (SL.eciB K (He.ga K "NoHand") (He.fAd K ("NoHand", some "__init__"))) = true := exL_at c.more 80 rfl
 have x_nw_NoHand : (decide (PySem.W.findIn K (.ref (He.ga K "NoHand")) "word" = some none)) = true := exL_at c.more 81 rfl
 have x_nf_NoHand : (decide (PySem.W.findIn K (.ref (He.ga K "NoHand")) "name" = some none)) = true := exL_at c.more 82 rfl
 have x_ec_NoMoment : (SL.ecB K (He.ga K "NoMoment")) = true := exL_at c.more 83 rfl
 have x_ei_NoMoment : (SL.eciB K (He.ga K "NoMoment") (He.fAd K ("NoMoment", some "__init__"))) = true := exL_at c.more 84 rfl
 have x_nw_NoMoment : (decide (PySem.W.findIn K (.ref (He.ga K "NoMoment")) "word" = some none)) = true := exL_at c.more 85 rfl
 have x_nf_NoMoment : (decide (PySem.W.findIn K (.ref (He.ga K "NoMoment")) "at" = some none)) = true := exL_at c.more 86 rfl
 have x_ec_Busy : (SL.ecB K (He.ga K "Busy")) = true := exL_at c.more 87 rfl
 have x_ei_Busy : (SL.eciB K (He.ga K "Busy") (He.fAd K ("Busy", some "__init__"))) = true := exL_at c.more 88 rfl
 have x_nw_Busy : (decide (PySem.W.findIn K (.ref (He.ga K "Busy")) "word" = some none)) = true := exL_at c.more 89 rfl
 have x_kit : (((List.range 22).all fun i => (List.range 22).all fun j => decide (PySem.W.kitOne K (.ref (He.ga K (clsN.getD i ""))) (.ref (He.ga K (clsN.getD j ""))) = some (decide (i = j))))) = true := exL_at c.more 90 rfl
 have x_lore : ((clsN.all fun x => decide (PySem.W.kitOne K (.ref (He.ga K x)) (.ref (He.ga K "LoreError")) = some true))) = true := exL_at c.more 91 rfl
 have x_verr : ((clsN.all fun x => decide (PySem.W.kitOne K (.ref (He.ga K x)) (.type "ValueError") = some true))) = true := exL_at c.more 92 rfl
 have x_fam : (((List.range 22).all fun i => (List.range 4).all fun j => decide (PySem.W.kitOne K (.ref (He.ga K (clsN.getD i ""))) (.ref (He.ga K (famN.getD j ""))) = some (decide ((j : Int) = famK.getD i 0))))) = true := exL_at c.more 93 rfl
 have eL := hfa.symm.trans (He.glo_ok X G (c.t.d.fact 6 (f := .glo "law") rfl))
 cases eL
 have bL := FunD.bindsA (ps := ["_law_script"]) F_law fun _ _ _ _ _ _ us hl => match us, hl with | [_], _ => rfl
 refine ⟨fd_law, fun s v => bL s [v] rfl, fun base _ _ => ?_⟩
 have B : Bi mg := ⟨Z_len, Z_list, Z_range⟩
 have BX : BiX mg := ⟨Z_ValueError⟩
 have BM : BiM mg := ⟨Z_isinstance, Z_ValueError, Z_range, Z_len⟩
 have G_LoreError : ClG P w K mg base 1 "LoreError" (He.ga K "LoreError") (spL K) := ⟨m_LoreError, ecB_ok x_ec_LoreError, _, fd_LoreError_ini, ["self", "word"], ok_LoreError_ini F_LoreError_ini BX, eciB_ok x_ei_LoreError, b_LoreError_ini⟩
 have G_TextError : ClG P w K mg base 1 "TextError" (He.ga K "TextError") (spL K) := ⟨m_TextError, ecB_ok x_ec_TextError, _, fd_LoreError_ini, ["self", "word"], ok_LoreError_ini F_LoreError_ini BX, eciB_ok x_ei_TextError, b_LoreError_ini⟩
 have G_CheckError : ClG P w K mg base 1 "CheckError" (He.ga K "CheckError") (spL K) := ⟨m_CheckError, ecB_ok x_ec_CheckError, _, fd_LoreError_ini, ["self", "word"], ok_LoreError_ini F_LoreError_ini BX, eciB_ok x_ei_CheckError, b_LoreError_ini⟩
 have G_DeedError : ClG P w K mg base 1 "DeedError" (He.ga K "DeedError") (spL K) := ⟨m_DeedError, ecB_ok x_ec_DeedError, _, fd_LoreError_ini, ["self", "word"], ok_LoreError_ini F_LoreError_ini BX, eciB_ok x_ei_DeedError, b_LoreError_ini⟩
 have G_SeatError : ClG P w K mg base 1 "SeatError" (He.ga K "SeatError") (spL K) := ⟨m_SeatError, ecB_ok x_ec_SeatError, _, fd_LoreError_ini, ["self", "word"], ok_LoreError_ini F_LoreError_ini BX, eciB_ok x_ei_SeatError, b_LoreError_ini⟩
 have G_BadText : ClG P w K mg base 2 "BadText" (He.ga K "BadText") (spI1 K "badtext" "at") := ⟨m_BadText, ecB_ok x_ec_BadText, _, fd_BadText_ini, ["self", "at"], ok_BadText_ini F_BadText_ini G_TextError, eciB_ok x_ei_BadText, b_BadText_ini⟩
 have G_BadName : ClG P w K mg base 2 "BadName" (He.ga K "BadName") (spI1 K "badname" "name") := ⟨m_BadName, ecB_ok x_ec_BadName, _, fd_BadName_ini, ["self", "name"], ok_BadName_ini F_BadName_ini G_TextError, eciB_ok x_ei_BadName, b_BadName_ini⟩
 have G_Loose : ClG P w K mg base 2 "Loose" (He.ga K "Loose") (spI1 K "loose" "name") := ⟨m_Loose, ecB_ok x_ec_Loose, _, fd_Loose_ini, ["self", "name"], ok_Loose_ini F_Loose_ini G_CheckError, eciB_ok x_ei_Loose, b_Loose_ini⟩
 have G_NoName : ClG P w K mg base 2 "NoName" (He.ga K "NoName") (spI1 K "noname" "name") := ⟨m_NoName, ecB_ok x_ec_NoName, _, fd_NoName_ini, ["self", "name"], ok_NoName_ini F_NoName_ini G_CheckError, eciB_ok x_ei_NoName, b_NoName_ini⟩
 have G_BadWide : ClG P w K mg base 2 "BadWide" (He.ga K "BadWide") (spI1 K "badwide" "name") := ⟨m_BadWide, ecB_ok x_ec_BadWide, _, fd_BadWide_ini, ["self", "name"], ok_BadWide_ini F_BadWide_ini G_CheckError, eciB_ok x_ei_BadWide, b_BadWide_ini⟩
 have G_BadKind : ClG P w K mg base 2 "BadKind" (He.ga K "BadKind") (spI0 K "badkind") := ⟨m_BadKind, ecB_ok x_ec_BadKind, _, fd_BadKind_ini, ["self"], ok_BadKind_ini F_BadKind_ini G_CheckError, eciB_ok x_ei_BadKind, b_BadKind_ini⟩
 have G_Ring : ClG P w K mg base 2 "Ring" (He.ga K "Ring") (spI1 K "ring" "heads") := ⟨m_Ring, ecB_ok x_ec_Ring, _, fd_Ring_ini, ["self", "heads"], ok_Ring_ini F_Ring_ini G_CheckError, eciB_ok x_ei_Ring, b_Ring_ini⟩
 have G_Endless : ClG P w K mg base 2 "Endless" (He.ga K "Endless") (spI1 K "endless" "heads") := ⟨m_Endless, ecB_ok x_ec_Endless, _, fd_Endless_ini, ["self", "heads"], ok_Endless_ini F_Endless_ini G_CheckError, eciB_ok x_ei_Endless, b_Endless_ini⟩
 have G_TooGreat : ClG P w K mg base 2 "TooGreat" (He.ga K "TooGreat") (spI0 K "toogreat") := ⟨m_TooGreat, ecB_ok x_ec_TooGreat, _, fd_TooGreat_ini, ["self"], ok_TooGreat_ini F_TooGreat_ini G_CheckError, eciB_ok x_ei_TooGreat, b_TooGreat_ini⟩
 have G_NotThere : ClG P w K mg base 2 "NotThere" (He.ga K "NotThere") (spI0 K "notthere") := ⟨m_NotThere, ecB_ok x_ec_NotThere, _, fd_NotThere_ini, ["self"], ok_NotThere_ini F_NotThere_ini G_CheckError, eciB_ok x_ei_NotThere, b_NotThere_ini⟩
 have G_Present : ClG P w K mg base 2 "Present" (He.ga K "Present") (spI0 K "present") := ⟨m_Present, ecB_ok x_ec_Present, _, fd_Present_ini, ["self"], ok_Present_ini F_Present_ini G_CheckError, eciB_ok x_ei_Present, b_Present_ini⟩
 have G_NotPlain : ClG P w K mg base 2 "NotPlain" (He.ga K "NotPlain") (spI0 K "notplain") := ⟨m_NotPlain, ecB_ok x_ec_NotPlain, _, fd_NotPlain_ini, ["self"], ok_NotPlain_ini F_NotPlain_ini G_CheckError, eciB_ok x_ei_NotPlain, b_NotPlain_ini⟩
 have G_Taken : ClG P w K mg base 2 "Taken" (He.ga K "Taken") (spI1 K "taken" "name") := ⟨m_Taken, ecB_ok x_ec_Taken, _, fd_Taken_ini, ["self", "name"], ok_Taken_ini F_Taken_ini G_DeedError, eciB_ok x_ei_Taken, b_Taken_ini⟩
 have G_NoThing : ClG P w K mg base 2 "NoThing" (He.ga K "NoThing") (spI1 K "nothing" "name") := ⟨m_NoThing, ecB_ok x_ec_NoThing, _, fd_NoThing_ini, ["self", "name"], ok_NoThing_ini F_NoThing_ini G_DeedError, eciB_ok x_ei_NoThing, b_NoThing_ini⟩
 have G_BadColumns : ClG P w K mg base 2 "BadColumns" (He.ga K "BadColumns") (spI0 K "badcolumns") := ⟨m_BadColumns, ecB_ok x_ec_BadColumns, _, fd_BadColumns_ini, ["self"], ok_BadColumns_ini F_BadColumns_ini G_DeedError, eciB_ok x_ei_BadColumns, b_BadColumns_ini⟩
 have G_BadRow : ClG P w K mg base 2 "BadRow" (He.ga K "BadRow") (spI0 K "badrow") := ⟨m_BadRow, ecB_ok x_ec_BadRow, _, fd_BadRow_ini, ["self"], ok_BadRow_ini F_BadRow_ini G_DeedError, eciB_ok x_ei_BadRow, b_BadRow_ini⟩
 have G_Full : ClG P w K mg base 2 "Full" (He.ga K "Full") (spI1 K "full" "most") := ⟨m_Full, ecB_ok x_ec_Full, _, fd_Full_ini, ["self", "most"], ok_Full_ini F_Full_ini G_DeedError, eciB_ok x_ei_Full, b_Full_ini⟩
 have G_Uneven : ClG P w K mg base 2 "Uneven" (He.ga K "Uneven") (spI1 K "uneven" "number") := ⟨m_Uneven, ecB_ok x_ec_Uneven, _, fd_Uneven_ini, ["self", "number"], ok_Uneven_ini F_Uneven_ini G_DeedError, eciB_ok x_ei_Uneven, b_Uneven_ini⟩
 have G_NothingLeft : ClG P w K mg base 2 "NothingLeft" (He.ga K "NothingLeft") (spI1 K "nothingleft" "way") := ⟨m_NothingLeft, ecB_ok x_ec_NothingLeft, _, fd_NothingLeft_ini, ["self", "way"], ok_NothingLeft_ini F_NothingLeft_ini G_DeedError, eciB_ok x_ei_NothingLeft, b_NothingLeft_ini⟩
 have G_NoHand : ClG P w K mg base 2 "NoHand" (He.ga K "NoHand") (spI1 K "nohand" "name") := ⟨m_NoHand, ecB_ok x_ec_NoHand, _, fd_NoHand_ini, ["self", "name"], ok_NoHand_ini F_NoHand_ini G_SeatError, eciB_ok x_ei_NoHand, b_NoHand_ini⟩
 have G_NoMoment : ClG P w K mg base 2 "NoMoment" (He.ga K "NoMoment") (spI1 K "nomoment" "at") := ⟨m_NoMoment, ecB_ok x_ec_NoMoment, _, fd_NoMoment_ini, ["self", "at"], ok_NoMoment_ini F_NoMoment_ini G_SeatError, eciB_ok x_ei_NoMoment, b_NoMoment_ini⟩
 have G_Busy : ClG P w K mg base 2 "Busy" (He.ga K "Busy") (spI0 K "busy") := ⟨m_Busy, ecB_ok x_ec_Busy, _, fd_Busy_ini, ["self"], ok_Busy_ini F_Busy_ini G_SeatError, eciB_ok x_ei_Busy, b_Busy_ini⟩
 have XF : XcF K := ⟨of_decide_eq_true x_nw_BadText, of_decide_eq_true x_nw_BadName, of_decide_eq_true x_nw_Loose, of_decide_eq_true x_nw_NoName, of_decide_eq_true x_nw_BadWide, of_decide_eq_true x_nw_BadKind, of_decide_eq_true x_nw_Ring, of_decide_eq_true x_nw_Endless, of_decide_eq_true x_nw_TooGreat, of_decide_eq_true x_nw_NotThere, of_decide_eq_true x_nw_Present, of_decide_eq_true x_nw_NotPlain, of_decide_eq_true x_nw_Taken, of_decide_eq_true x_nw_NoThing, of_decide_eq_true x_nw_BadColumns, of_decide_eq_true x_nw_BadRow, of_decide_eq_true x_nw_Full, of_decide_eq_true x_nw_Uneven, of_decide_eq_true x_nw_NothingLeft, of_decide_eq_true x_nw_NoHand, of_decide_eq_true x_nw_NoMoment, of_decide_eq_true x_nw_Busy, of_decide_eq_true x_nf_BadText, of_decide_eq_true x_nf_BadName, of_decide_eq_true x_nf_Loose, of_decide_eq_true x_nf_NoName, of_decide_eq_true x_nf_BadWide, of_decide_eq_true x_nf_Ring, of_decide_eq_true x_nf_Endless, of_decide_eq_true x_nf_Taken, of_decide_eq_true x_nf_NoThing, of_decide_eq_true x_nf_Full, of_decide_eq_true x_nf_Uneven, of_decide_eq_true x_nf_NothingLeft, of_decide_eq_true x_nf_NoHand, of_decide_eq_true x_nf_NoMoment, kit_of x_kit, fun x hx => of_decide_eq_true (List.all_eq_true.mp x_lore x hx), fun x hx => of_decide_eq_true (List.all_eq_true.mp x_verr x hx), fam_of x_fam⟩
 have XG : XcG P w K mg base := ⟨G_BadText, G_BadName, G_Loose, G_NoName, G_BadWide, G_BadKind, G_Ring, G_Endless, G_TooGreat, G_NotThere, G_Present, G_NotPlain, G_Taken, G_NoThing, G_BadColumns, G_BadRow, G_Full, G_Uneven, G_NothingLeft, G_NoHand, G_NoMoment, G_Busy, G_LoreError, G_TextError, G_CheckError, G_DeedError, G_SeatError⟩
 have C__law_bag := calG_of (P := P) (w := w) (base := base) (ok__law_bag F__law_bag B) M__law_bag F__law_bag.kp b__law_bag
 have C__law_pull := calG_of (P := P) (w := w) (base := base) (ok__law_pull F__law_pull B) M__law_pull F__law_pull.kp b__law_pull
 have C__law_one := calG_of (P := P) (w := w) (base := base) (ok__law_one F__law_one B C__law_pull) M__law_one F__law_one.kp b__law_one
 have C__law_word := calG_of (P := P) (w := w) (base := base) (ok__law_word F__law_word B C__law_pull C__law_one) M__law_word F__law_word.kp b__law_word
 have C__law_made := calG_of (P := P) (w := w) (base := base) (ok__law_made F__law_made XF XG) M__law_made F__law_made.kp b__law_made
 have C__law_kinds_of := calG_of (P := P) (w := w) (base := base) (ok__law_kinds_of F__law_kinds_of BM XF XG) M__law_kinds_of F__law_kinds_of.kp b__law_kinds_of
 exact ok_law F_law BM XF XG C__law_bag C__law_pull C__law_word C__law_made C__law_kinds_of
end LW
open PySem PySem.W PySem.Calls PyProof.Rows
set_option maxHeartbeats 0 in
theorem PySem.Challenge.cw_sightlore_k10_refusals_by_themselves_holds : PySem.Challenge.rw_sightlore_k10_refusals_by_themselves.Holds := by
 w_on; o_law
 refine HandSHeadRun.head_any (r := OpenLaw.row PySem.Challenge.rw_sightlore_k10_refusals_by_themselves) (q := view (OpenLaw.row PySem.Challenge.rw_sightlore_k10_refusals_by_themselves).prog [35]) (H := LW.hk) (ob := LW.obAll) (M := 9000) (loose := LW.looseAll) (d := HandSHeadRun.topDef (OpenLaw.row PySem.Challenge.rw_sightlore_k10_refusals_by_themselves).prog 35) (kwd := []) LW.ob_eq
  (by kernel_rfl) (fun s => by kernel_rfl) LW.run (by kernel_rfl) (by kernel_rfl) (by kernel_rfl) (by rfl) (by first | assumption | decide +kernel) (by decide +kernel) ⟨rfl, rfl, rfl, rfl, rfl, by decide +kernel⟩ ?hw ?hc
 case hw => w_witness2
 case hc =>
  refine SL.walkG (l := PySem.Challenge.rw_sightlore_k10_refusals_by_themselves) (n := 63) (k := 100) (x := "_law_script") rfl (by decide) (by kernel_rfl) ⟨rfl, by decide, by decide⟩ ?F
  intro w mg fa h Y G hmg0
  obtain ⟨K, KX, c⟩ := Y
  have hmg : mg ("law" : PySem.Str) = some (.ref fa) := by
   have e : (HandSHeadRun.topDef (OpenLaw.row PySem.Challenge.rw_sightlore_k10_refusals_by_themselves).prog 35).name = ("law" : PySem.Str) := by kernel_rfl
   rw [← e]
   exact hmg0
  obtain ⟨fd, hb, hF⟩ := LW.facts (P := (PySem.Challenge.rw_sightlore_k10_refusals_by_themselves).prog) (w := w) KX G hmg c
  exact ⟨K, fd, LW.spLaw K, KX, hb, fun H a ns hl hS => ⟨a, ns, rfl, hS, hl, fun _ => rfl⟩, hF⟩
