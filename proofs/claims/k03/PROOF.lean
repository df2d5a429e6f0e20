import PyProof.Rows.All
import Wide.All
import OpenK.AllK
import Wide.FinOn
import HandS.ForMost
import HandS.Zip
import HandS.Flow
import HandS.Conv
import HandS.IsInst
import HandS.Codes
import HandS.Wide
import HandS.StrMore
import HandS.Defaults
import HandS.Exc
import HandS.HeadEnd
import HandS.HeadHook2
import HandS.Head2
import HandS.RaiseMore
import HandS.Walk
import HandS.FStr
import HandS.HeadHook3
import HandS.HeadHook4
import HandS.TupAny
import HandS.SetFor
import HandS.DictComp
import HandS.ExcInit
import HandS.ExcIs
import KE.KExcIs
import HandS.ExcField
import HandS.ExcOwn
import HandS.WordsExc
import HandS.SetBool
import HandS.SetKeys
import KE.GoesEnum
import KE.GoesMore
import KE.DataMinMax
import KE.SortKeyHeap
import HandS.SortKw
import HandS.Keys
import HandS.MakeKwOnly
import HandS.ReplaceLit
import PyProof.StrReplace2
import PyProof.StrOps2
import PyProof.MeetsStr3
import PySem.Challenge.RW_sightlore_k03_rules_written
set_option Elab.async false
set_option linter.all false
set_option maxRecDepth 100000
set_option maxHeartbeats 2000000
namespace SL
open PySem PySem.Spec PyProof.Rows L2
def Fix : HO → Prop
 | .tup _ => True
 | .frz _ (.tup _) => True
 | _ => False
def Fr (M : List Addr) (H H' : Hp) : Prop := ∀ a o, H a = some o → (a ∉ M ∨ Fix o) → H' a = some o
theorem Fr.refl {M : List Addr} {H : Hp} : Fr M H H := fun _ _ h _ => h
theorem Fr.trans {M : List Addr} {H H1 H2 : Hp} (a : Fr M H H1) (b : Fr M H1 H2) : Fr M H H2 := fun x o h z => b x o (a x o h z) z
theorem Fr.mono {M N : List Addr} {H H' : Hp} (h : Fr M H H') (s : ∀ a ∈ M, a ∈ N) : Fr N H H' := fun a o e z => h a o e (z.imp (fun n m => n (s a m)) id)
theorem Fr.nil {N : List Addr} {H H' : Hp} (h : Fr [] H H') : Fr N H H' := h.mono fun _ z => nomatch z
theorem Fr.new {M : List Addr} {H : Hp} {p : Addr} {o : HO} (h : H p = none) : Fr M H (upd H p o) := fun a u e _ => by
 rw [upd_ne (ne_of_none e h)]
 exact e
theorem Fr.mut {M : List Addr} {H : Hp} {p : Addr} {o u : HO} (hm : p ∈ M) (h : H p = some u) (hu : ¬ Fix u) : Fr M H (upd H p o) := fun a v e z => by
 by_cases c : a = p
 ·subst c
  rw [h] at e
  cases e
  rcases z with z | z
  ·exact absurd hm z
  ·exact absurd z hu
 ·rw [upd_ne c]
  exact e
theorem Fr.over {M : List Addr} {H H' : Hp} {p : Addr} {o : HO} (e : Fr M H H') (h : H p = none) : Fr M H (upd H' p o) := fun a u ha z => by
 rw [upd_ne (ne_of_none ha h)]
 exact e a u ha z
theorem Fr.same {H H' : Hp} (h : Fr [] H H') : Same H H' := fun b o e => h b o e (.inl (fun z => nomatch z))
theorem Fr.of_same {M : List Addr} {H H' : Hp} (h : Same H H') : Fr M H H' := fun a o e _ => h a o e
theorem Fr.at {M : List Addr} {H H' : Hp} {a : Addr} {o : HO} (h : Fr M H H') (e : H a = some o) (n : a ∉ M) : H' a = some o := h a o e (.inl n)
theorem Fr.back {M : List Addr} {H H' : Hp} {p : Addr} (e : Fr M H H') (hM : p ∉ M) (h : H' p = none) : H p = none := by
 cases q : H p with
 | none => rfl
 | some o =>
  rw [e p o q (.inl hM)] at h
  cases h
theorem Fr.tup {K : PySem.W.Frag} {M : List Addr} {H H' : Hp} {a : Addr} {xs : List V} (e : Fr M H H') (h : SqT K H a xs) : SqT K H' a xs := by
 rcases h with (h | ⟨o, h⟩) | h
 ·exact .inl (.inl (e a _ h (.inr trivial)))
 ·exact .inl (.inr ⟨o, e a _ h (.inr trivial)⟩)
 ·exact .inr h
theorem Fr.seq {K : PySem.W.Frag} {M : List Addr} {H H' : Hp} {a : Addr} {xs : List V} (e : Fr M H H') (n : a ∉ M) (h : SqL K H a xs) : SqL K H' a xs := by
 rcases h with (h | ⟨o, h⟩) | h
 ·exact .inl (.inl (e a _ h (.inl n)))
 ·exact .inl (.inr ⟨o, e a _ h (.inl n)⟩)
 ·exact .inr h
theorem nofix_lst {xs : List V} : ¬ Fix (.lst xs) := fun z => z
theorem nofix_dK {xs : List (Key × V)} : ¬ Fix (.dK xs) := fun z => z
mutual
inductive Td (K : PySem.W.Frag) (H : Hp) : V → PyData → Prop
 | non : Td K H .non .none
 | bl (b : Bool) : Td K H (.bl b) (.bool b)
 | int (i : Int) : Td K H (.int i) (.int i)
 | str (x : Str) : Td K H (.str x) (.str x)
 | tup {a : Addr} {xs : List V} {ds : List PyData} : SqT K H a xs → TdAll K H xs ds → Td K H (.ref a) (.tuple ds)
inductive TdAll (K : PySem.W.Frag) (H : Hp) : List V → List PyData → Prop
 | nil : TdAll K H [] []
 | cons {v : V} {vs : List V} {d : PyData} {ds : List PyData} : Td K H v d → TdAll K H vs ds → TdAll K H (v :: vs) (d :: ds)
end
section
variable {K : PySem.W.Frag} {H H' : Hp} {M : List Addr}
mutual
theorem Td.fr (e : Fr M H H') : ∀ {v : V} {d : PyData}, Td K H v d → Td K H' v d
 | _, _, .non => .non
 | _, _, .bl b => .bl b
 | _, _, .int i => .int i
 | _, _, .str x => .str x
 | _, _, .tup h hs => .tup (e.tup h) (TdAll.fr e hs)
theorem TdAll.fr (e : Fr M H H') : ∀ {vs : List V} {ds : List PyData}, TdAll K H vs ds → TdAll K H' vs ds
 | _, _, .nil => .nil
 | _, _, .cons h hs => .cons (Td.fr e h) (TdAll.fr e hs)
end
mutual
theorem Td.dp : ∀ {v : V} {d : PyData}, Td K H v d → Dp K H v d
 | _, _, .non => .non
 | _, _, .bl b => .bl b
 | _, _, .int i => .int i
 | _, _, .str x => .str x
 | _, _, .tup h hs => .tup h (TdAll.dp hs)
theorem TdAll.dp : ∀ {vs : List V} {ds : List PyData}, TdAll K H vs ds → DpAll K H vs ds
 | _, _, .nil => .nil
 | _, _, .cons h hs => .cons (Td.dp h) (TdAll.dp hs)
end
theorem Td.tuple_inv {v : V} {ds : List PyData} (h : Td K H v (.tuple ds)) : ∃ a xs, v = .ref a ∧ SqT K H a xs ∧ TdAll K H xs ds := by
 cases h with
 | tup h1 h2 => exact ⟨_, _, rfl, h1, h2⟩
theorem Td.int_inv {v : V} {i : Int} (h : Td K H v (.int i)) : v = .int i := by cases h; rfl
theorem Td.str_inv {v : V} {i : Str} (h : Td K H v (.str i)) : v = .str i := by cases h; rfl
theorem Td.bl_inv {v : V} {i : Bool} (h : Td K H v (.bool i)) : v = .bl i := by cases h; rfl
theorem Td.non_inv {v : V} (h : Td K H v .none) : v = .non := by cases h; rfl
theorem TdAll.nil_inv {vs : List V} (h : TdAll K H vs []) : vs = [] := by cases h; rfl
theorem TdAll.cons_inv {vs : List V} {d : PyData} {ds : List PyData} (h : TdAll K H vs (d :: ds)) : ∃ v ws, vs = v :: ws ∧ Td K H v d ∧ TdAll K H ws ds := by
 cases h with
 | cons h1 h2 => exact ⟨_, _, rfl, h1, h2⟩
theorem Td.t1 {v : V} {a : PyData} (h : Td K H v (.tuple [a])) : ∃ p x, v = .ref p ∧ SqT K H p [x] ∧ Td K H x a := by
 obtain ⟨p, xs, rfl, hp, h⟩ := h.tuple_inv
 obtain ⟨x, xs, rfl, hx, h⟩ := h.cons_inv
 cases h.nil_inv
 exact ⟨p, x, rfl, hp, hx⟩
theorem Td.t2 {v : V} {a b : PyData} (h : Td K H v (.tuple [a, b])) : ∃ p x y, v = .ref p ∧ SqT K H p [x, y] ∧ Td K H x a ∧ Td K H y b := by
 obtain ⟨p, xs, rfl, hp, h⟩ := h.tuple_inv
 obtain ⟨x, xs, rfl, hx, h⟩ := h.cons_inv
 obtain ⟨y, xs, rfl, hy, h⟩ := h.cons_inv
 cases h.nil_inv
 exact ⟨p, x, y, rfl, hp, hx, hy⟩
theorem Td.t3 {v : V} {a b c : PyData} (h : Td K H v (.tuple [a, b, c])) : ∃ p x y z, v = .ref p ∧ SqT K H p [x, y, z] ∧ Td K H x a ∧ Td K H y b ∧ Td K H z c := by
 obtain ⟨p, xs, rfl, hp, h⟩ := h.tuple_inv
 obtain ⟨x, xs, rfl, hx, h⟩ := h.cons_inv
 obtain ⟨y, xs, rfl, hy, h⟩ := h.cons_inv
 obtain ⟨z, xs, rfl, hz, h⟩ := h.cons_inv
 cases h.nil_inv
 exact ⟨p, x, y, z, rfl, hp, hx, hy, hz⟩
theorem Td.t4 {v : V} {a b c d : PyData} (h : Td K H v (.tuple [a, b, c, d])) : ∃ p x y z u, v = .ref p ∧ SqT K H p [x, y, z, u] ∧ Td K H x a ∧ Td K H y b ∧ Td K H z c ∧ Td K H u d := by
 obtain ⟨p, xs, rfl, hp, h⟩ := h.tuple_inv
 obtain ⟨x, xs, rfl, hx, h⟩ := h.cons_inv
 obtain ⟨y, xs, rfl, hy, h⟩ := h.cons_inv
 obtain ⟨z, xs, rfl, hz, h⟩ := h.cons_inv
 obtain ⟨u, xs, rfl, hu, h⟩ := h.cons_inv
 cases h.nil_inv
 exact ⟨p, x, y, z, u, rfl, hp, hx, hy, hz, hu⟩
end
def uAdd (K : PySem.W.Frag) : R2 := fun x y H Q => match x, y with
 | .int i, .int j => Q (.int (i + j)) H
 | .str a, .str b => a.length + b.length ≤ sizeLine ∧ Q (.str (a ++ b)) H
 | .ref a, .ref b => rCat (.ref a) (.ref b) H Q ∨ rCatT K (.ref a) (.ref b) H Q
 | _, _ => False
def uSub : R2 := fun x y H Q => match x, y with
 | .int i, .int j => Q (.int (i - j)) H
 | _, _ => False
def uMul : R2 := fun x y H Q => match x, y with
 | .int i, .int j => IntMulOk i j ∧ Q (.int (i * j)) H
 | .ref a, .int k => rRep (.ref a) (.int k) H Q
 | .str a, .int k => 2 ≤ k ∧ k ≤ 1000 ∧ 0 < a.length ∧ a.length ≤ 1000 ∧ Q (.str ⟨(List.replicate k.toNat a.cps).foldl (· ++ ·) #[]⟩) H
 | _, _ => False
def uDiv : R2 := fun x y H Q => match x, y with
 | .int i, .int j => CDivW i j ∧ Q (.int (i / j)) H
 | _, _ => False
def uMod : R2 := fun x y H Q => match x, y with
 | .int i, .int j => 0 < j ∧ Q (.int (i % j)) H
 | _, _ => False
def uPow : R2 := fun x y H Q => match x, y with
 | .int i, .int j => CPow i j ∧ Q (.int (i ^ j.toNat)) H
 | _, _ => False
def rEqE (K : PySem.W.Frag) (x y : V) (H : Hp) (Q : Bool → Prop) : Prop :=
 (∃ a b xs, x = .ref a ∧ y = .ref b ∧ SqT K H a xs ∧ SqT K H b [] ∧ Q (decide (xs = []))) ∨ (∃ a b xs, x = .ref a ∧ y = .ref b ∧ SqL K H a xs ∧ SqL K H b [] ∧ Q (decide (xs = []))) ∨
 ∃ a b kvs, x = .ref a ∧ y = .ref b ∧ H a = some (.dK kvs) ∧ H b = some (.dK []) ∧ Q (decide (kvs = []))
def uEq (K : PySem.W.Frag) : R2 := fun x y H Q => (scal x y = true ∧ Q (.bl (decide (x = y))) H) ∨ rEqD K x y H Q ∨ rEqE K x y H fun b => Q (.bl b) H
def uNe (K : PySem.W.Frag) : R2 := fun x y H Q => (scal x y = true ∧ Q (.bl (!decide (x = y))) H) ∨ rNeD K x y H Q ∨ rEqE K x y H fun b => Q (.bl (!b)) H
def uLt (K : PySem.W.Frag) : R2 := fun x y H Q => match x, y with
 | .int i, .int j => Q (.bl (decide (i < j))) H
 | .str a, .str b => Q (.bl (decide (a.cps.toList < b.cps.toList))) H
 | _, _ => False
def uGt : R2 := fun x y H Q => match x, y with
 | .int i, .int j => Q (.bl (decide (j < i))) H
 | _, _ => False
def uLe : R2 := fun x y H Q => match x, y with
 | .int i, .int j => Q (.bl (decide (i ≤ j))) H
 | .str a, .str b => Q (.bl (!decide (b.cps.toList < a.cps.toList))) H
 | _, _ => False
def uGe : R2 := fun x y H Q => match x, y with
 | .int i, .int j => Q (.bl (decide (j ≤ i))) H
 | _, _ => False
def uIn (K : PySem.W.Frag) : R2 := fun x y H Q => match x, y with
 | .str a, .str b => Q (.bl (!(Builtin.Str.occurrences b a 0 b.length 1).isEmpty)) H
 | x, y => rIn K false x y H Q
def uNotIn (K : PySem.W.Frag) : R2 := fun x y H Q => match x, y with
 | .str a, .str b => Q (.bl (!(!(Builtin.Str.occurrences b a 0 b.length 1).isEmpty))) H
 | x, y => rIn K true x y H Q
section
variable {X : Cx}
theorem opu_add : OpR X (binaryOp .Add) (uAdd X.K) := by
 intro pins s σ H x y v u Q I rx ry h
 cases x <;> cases y <;> first
  | exact absurd h id
  | exact op_add pins s σ H _ _ v u Q I rx ry ⟨_, _, rfl, rfl, h⟩
  | exact op_add_str pins s σ H _ _ v u Q I rx ry ⟨_, _, rfl, rfl, h.1, h.2⟩
  | exact h.elim (fun h => op_cat pins s σ H _ _ v u Q I rx ry h) (fun h => op_catT pins s σ H _ _ v u Q I rx ry h)
theorem opu_sub : OpR X (binaryOp .Sub) uSub := by
 intro pins s σ H x y v u Q I rx ry h
 cases x <;> cases y <;> first
  | exact absurd h id
  | exact op_sub pins s σ H _ _ v u Q I rx ry ⟨_, _, rfl, rfl, h⟩
theorem foldl_size (c : Array Nat) : ∀ (m : Nat) (acc : Array Nat), ((List.replicate m c).foldl (· ++ ·) acc).size = acc.size + m * c.size
 | 0, acc => by simp
 | m + 1, acc => by
  rw [List.replicate_succ, List.foldl_cons, foldl_size c m, Array.size_append, Nat.succ_mul]
  omega
theorem op_repS : OpR X (binaryOp .Mult) (fun x y H Q => ∃ (a : Str) (k : Int), x = .str a ∧ y = .int k ∧ 2 ≤ k ∧ k ≤ 1000 ∧ 0 < a.length ∧ a.length ≤ 1000 ∧ Q (.str ⟨(List.replicate k.toNat a.cps).foldl (· ++ ·) #[]⟩) H) := by
 intro pins s σ H x y v u Q I rx ry h
 obtain ⟨a, k, rfl, rfl, h1, h2, h3, h4, q⟩ := h
 obtain ⟨t, rfl⟩ := rx
 obtain ⟨t', rfl⟩ := ry
 have hm : a.length * k.toNat ≤ 1000000 := Nat.le_trans (Nat.mul_le_mul h4 (show k.toNat ≤ 1000 by omega)) (by decide)
 refine PySem.P.mul_str ?_ (fun _ _ => ?_) (fun _ _ => ?_) ?_
 ·rw [decide_eq_false (show ¬ k < -(2 ^ 63) by omega), decide_eq_false (show ¬ k ≥ 2 ^ 63 by omega)]; rfl
 ·have e : ((2 : Int) ^ 63 - 1) / 1000 ≤ (2 ^ 63 - 1) / k := by
   rw [Int.le_ediv_iff_mul_le (by omega)]
   have : ((2 : Int) ^ 63 - 1) / 1000 * k ≤ (2 ^ 63 - 1) / 1000 * 1000 := Int.mul_le_mul_of_nonneg_left h2 (by decide)
   have e2 : ((2 : Int) ^ 63 - 1) / 1000 * 1000 ≤ 2 ^ 63 - 1 := by decide
   omega
  have e3 : (1000 : Int) ≤ (2 ^ 63 - 1) / 1000 := by decide
  omega
 ·exact decide_eq_false (by have := sizeLine_eq; omega)
 ·rw [if_neg (by omega), if_neg (by simp only [Bool.or_eq_true, beq_iff_eq]; omega)]
  refine ⟨?_, .str _, H, I.tok _, ⟨_, rfl⟩, q⟩
  show ((List.replicate k.toNat a.cps).foldl (· ++ ·) #[]).size ≤ sizeLine
  rw [foldl_size]
  have e : a.cps.size = a.length := rfl
  have e2 : (#[] : Array Nat).size = 0 := rfl
  have := sizeLine_eq
  rw [e, e2, Nat.mul_comm]
  omega
theorem opu_mul : OpR X (binaryOp .Mult) uMul := by
 intro pins s σ H x y v u Q I rx ry h
 cases x <;> cases y <;> first
  | exact absurd h id
  | exact (opI fun _ _ _ _ _ _ _ hc q => mul_int q hc : OpR X (binaryOp .Mult) (rI IntMulOk fun i j => .int (i * j))) pins s σ H _ _ v u Q I rx ry ⟨_, _, rfl, rfl, h.1, h.2⟩
  | exact op_rep pins s σ H _ _ v u Q I rx ry h
  | exact op_repS pins s σ H _ _ v u Q I rx ry ⟨_, _, rfl, rfl, h⟩
theorem opu_div : OpR X (binaryOp .FloorDiv) uDiv := by
 intro pins s σ H x y v u Q I rx ry h
 cases x <;> cases y <;> first
  | exact absurd h id
  | exact op_fdivW pins s σ H _ _ v u Q I rx ry ⟨_, _, rfl, rfl, h.1, h.2⟩
theorem opu_mod : OpR X (binaryOp .Mod) uMod := by
 intro pins s σ H x y v u Q I rx ry h
 cases x <;> cases y <;> first
  | exact absurd h id
  | exact op_mod pins s σ H _ _ v u Q I rx ry ⟨_, _, rfl, rfl, h.1, h.2⟩
theorem opu_pow : OpR X (binaryOp .Pow) uPow := by
 intro pins s σ H x y v u Q I rx ry h
 cases x <;> cases y <;> first
  | exact absurd h id
  | exact op_pow pins s σ H _ _ v u Q I rx ry ⟨_, _, rfl, rfl, h.1, h.2⟩
theorem nil_of {xs : List V} {its : List Value} (r : Vals xs its) : decide (its = []) = decide (xs = []) := by
 cases r <;> rfl
theorem nil_of_kv {xs : List (Key × V)} {vs : List (Key × Value)} (r : KV xs vs) : decide (vs = []) = decide (xs = []) := by
 cases r <;> rfl
theorem size0 {its : List Value} : (its.toArray.size == 0) = decide (its = []) := by cases its <;> rfl
theorem op_eqE (hu : X.A.units + 64 < cLine) : OpR X (compareOp .Eq) (fun x y H Q => rEqE X.K x y H fun b => Q (.bl b) H) := by
 intro pins s σ H x y v u Q I rx ry h
 have hu1 : X.A.units < cLine := by omega
 rcases h with ⟨a, b, xs, rfl, rfl, ha, hb, q⟩ | ⟨a, b, xs, rfl, rfl, ha, hb, q⟩ | ⟨a, b, kvs, rfl, rfl, ha, hb, q⟩
 ·cases rx; cases ry
  obtain ⟨its, r, p, _⟩ := I.tuple ha
  obtain ⟨its2, r2, p2, _⟩ := I.tuple hb
  cases r2
  refine SeqAt.RcAt.tuples (e := fun _ => true) p p2 hu1 (fun j _ h2 => absurd h2 (Nat.not_lt_zero j)) X.prog X.w _ _ ⟨.bl (decide (xs = [])), H, I, ?_, q⟩
  rw [← nil_of r, ← size0]
  simp [L2.RelV]
 ·cases rx; cases ry
  obtain ⟨its, r, p, _⟩ := I.list ha
  obtain ⟨its2, r2, p2, _⟩ := I.list hb
  cases r2
  cases its with
  | nil =>
   refine SeqAt.RcAt.lists (e := fun _ => true) p.isList p2.isList rfl hu1 (fun j _ h2 => absurd h2 (Nat.not_lt_zero j)) X.prog X.w _ _ ⟨.bl (decide (xs = [])), H, I, ?_, q⟩
   rw [← nil_of r]
   rfl
  | cons c cs =>
   refine SeqAt.RcAt.lists_lengths p.isList p2.isList (by simp) hu1 X.prog X.w _ _ ⟨.bl (decide (xs = [])), H, I, ?_, q⟩
   rw [← nil_of r]
   rfl
 ·cases rx; cases ry
  obtain ⟨_, ya, va, ra, da⟩ := dk_of I.hok ha
  obtain ⟨_, yb, vb, rb, db⟩ := dk_of I.hok hb
  cases rb
  refine PySem.W.keq_eq (r := true) ya yb da db hu1 (fun hl => ?_) ⟨.bl (decide (kvs = [])), H, I, ?_, q⟩
  ·cases va with
   | nil => exact .nil
   | cons c cs => cases hl
  ·rw [← nil_of_kv ra]
   cases va <;> rfl
theorem op_neE (hu : X.A.units + 64 < cLine) : OpR X (compareOp .NotEq) (fun x y H Q => rEqE X.K x y H fun b => Q (.bl (!b)) H) := by
 intro pins s σ H x y v u Q I rx ry h
 have hu1 : X.A.units < cLine := by omega
 rcases h with ⟨a, b, xs, rfl, rfl, ha, hb, q⟩ | ⟨a, b, xs, rfl, rfl, ha, hb, q⟩ | ⟨a, b, kvs, rfl, rfl, ha, hb, q⟩
 ·cases rx; cases ry
  obtain ⟨its, r, p, _⟩ := I.tuple ha
  obtain ⟨its2, r2, p2, _⟩ := I.tuple hb
  cases r2
  refine SeqAt.RcNeAt.tuples (e := fun _ => true) p p2 hu1 (fun j _ h2 => absurd h2 (Nat.not_lt_zero j)) X.prog X.w _ _ ⟨.bl (!decide (xs = [])), H, I, ?_, q⟩
  rw [← nil_of r, ← size0]
  simp [L2.RelV]
 ·cases rx; cases ry
  obtain ⟨its, r, p, _⟩ := I.list ha
  obtain ⟨its2, r2, p2, _⟩ := I.list hb
  cases r2
  cases its with
  | nil =>
   refine SeqAt.RcNeAt.lists (e := fun _ => true) p.isList p2.isList rfl hu1 (fun j _ h2 => absurd h2 (Nat.not_lt_zero j)) X.prog X.w _ _ ⟨.bl (!decide (xs = [])), H, I, ?_, q⟩
   rw [← nil_of r]
   rfl
  | cons c cs =>
   refine SeqAt.RcNeAt.lists_lengths p.isList p2.isList (by simp) hu1 X.prog X.w _ _ ⟨.bl (!decide (xs = [])), H, I, ?_, q⟩
   rw [← nil_of r]
   rfl
 ·cases rx; cases ry
  obtain ⟨_, ya, va, ra, da⟩ := dk_of I.hok ha
  obtain ⟨_, yb, vb, rb, db⟩ := dk_of I.hok hb
  cases rb
  refine PySem.W.keq_ne (r := true) ya yb da db hu1 (fun hl => ?_) ⟨.bl (!decide (kvs = [])), H, I, ?_, q⟩
  ·cases va with
   | nil => exact .nil
   | cons c cs => cases hl
  ·rw [← nil_of_kv ra]
   cases va <;> rfl
theorem opu_eq (hu : X.A.units + 64 < cLine) : OpR X (compareOp .Eq) (uEq X.K) := by
 intro pins s σ H x y v u Q I rx ry h
 exact h.elim (fun h => op_eq pins s σ H _ _ v u Q I rx ry h) (fun h => h.elim (fun h => op_eqD hu pins s σ H _ _ v u Q I rx ry h) (fun h => op_eqE hu pins s σ H _ _ v u Q I rx ry h))
theorem opu_ne (hu : X.A.units + 64 < cLine) : OpR X (compareOp .NotEq) (uNe X.K) := by
 intro pins s σ H x y v u Q I rx ry h
 exact h.elim (fun h => op_ne pins s σ H _ _ v u Q I rx ry h) (fun h => h.elim (fun h => op_neD hu pins s σ H _ _ v u Q I rx ry h) (fun h => op_neE hu pins s σ H _ _ v u Q I rx ry h))
theorem opu_lt : OpR X (compareOp .Lt) (uLt X.K) := by
 intro pins s σ H x y v u Q I rx ry h
 cases x <;> cases y <;> first
  | exact absurd h id
  | exact op_lt pins s σ H _ _ v u Q I rx ry ⟨_, _, rfl, rfl, h⟩
  | exact op_lt_str pins s σ H _ _ v u Q I rx ry ⟨_, _, rfl, rfl, h⟩
theorem opu_gt : OpR X (compareOp .Gt) uGt := by
 intro pins s σ H x y v u Q I rx ry h
 cases x <;> cases y <;> first
  | exact absurd h id
  | exact op_gt pins s σ H _ _ v u Q I rx ry ⟨_, _, rfl, rfl, h⟩
theorem opu_le : OpR X (compareOp .LtE) uLe := by
 intro pins s σ H x y v u Q I rx ry h
 cases x <;> cases y <;> first
  | exact absurd h id
  | exact op_le pins s σ H _ _ v u Q I rx ry ⟨_, _, rfl, rfl, h⟩
  | exact op_le_str pins s σ H _ _ v u Q I rx ry ⟨_, _, rfl, rfl, h⟩
theorem opu_in : OpR X (compareOp .In) (uIn X.K) := by
 intro pins s σ H x y v u Q I rx ry h
 cases x <;> cases y <;> first
  | exact op_in_str pins s σ H _ _ v u Q I rx ry ⟨_, _, rfl, rfl, h⟩
  | exact op_in_seq pins s σ H _ _ v u Q I rx ry h
theorem opu_notIn : OpR X (compareOp .NotIn) (uNotIn X.K) := by
 intro pins s σ H x y v u Q I rx ry h
 cases x <;> cases y <;> first
  | exact op_notin_str pins s σ H _ _ v u Q I rx ry ⟨_, _, rfl, rfl, h⟩
  | exact op_notIn_seq pins s σ H _ _ v u Q I rx ry h
end
end SL
set_option Elab.async false
set_option linter.all false
set_option maxRecDepth 100000
set_option maxHeartbeats 2000000
namespace SL
open PySem PySem.Spec PyProof.Rows L2
section
variable {K : PySem.W.Frag} {σ : L2.St} {H : Hp} {Q : VK} {R : Bool → Hp → Prop} {D : Ends} {v x y : V} {i : Nat} {ta tb tc te : TE} {t u : TT} {ts tu : TS} {r : R2} {G : TG}
theorem g_var (h : σ[i]? = some (some v)) (q : Q v H) : tVar i σ H Q := ⟨v, h, q⟩
theorem g_c (q : Q v H) : tC v σ H Q := q
theorem g_op (q : ta σ H fun x H1 => tb σ H1 fun y H2 => r x y H2 Q) : tOp r ta tb σ H Q := q
theorem g_un {ru : V → Hp → VK → Prop} (q : ta σ H fun x H1 => ru x H1 Q) : tUn ru ta σ H Q := q
theorem g_test (q : ta σ H fun x H' => ∃ k, x = .bl k ∧ R k H') : tTest ta σ H R := q
theorem g_B (q : ta σ H fun x H' => ∃ k, x = .bl k ∧ R k H') : tB ta σ H R := q
theorem g_k {A : Bool → Prop} {b : Bool} (q : A b) : ∃ k, V.bl b = V.bl k ∧ A k := ⟨b, rfl, q⟩
theorem g_and (q : t σ H fun c H1 => if c = true then u σ H1 R else R false H1) : tAnd t u σ H R := q
theorem g_or (q : t σ H fun c H1 => if c = true then R true H1 else u σ H1 R) : tOr t u σ H R := q
theorem g_not (q : t σ H fun c H1 => R (!c) H1) : tNot t σ H R := q
theorem g_ifE (q : t σ H fun c H1 => if c = true then ta σ H1 Q else tb σ H1 Q) : tIf t ta tb σ H Q := q
theorem g_seq (q : ts { D with nx := tu D } σ H) : tSeq ts tu D σ H := q
theorem g_asg (q : te σ H fun w H1 => G w σ H1 D.nx) : tAsg te G D σ H := q
theorem g_name {P : L2.St → Hp → Prop} (q : P (σ.set i (some v)) H) : gName i v σ H P := q
theorem g_sub {to ti : TE} {tset : TSet} {P : L2.St → Hp → Prop} (q : to σ H fun o H1 => ti σ H1 fun k H2 => tset o k v H2 fun H3 => P σ H3) : gSub to ti tset v σ H P := q
theorem g_if (q : t σ H fun b H1 => if b = true then ts D σ H1 else tu D σ H1) : tIfS t ts tu D σ H := q
theorem g_ret (q : te σ H D.rt) : tRet te D σ H := q
theorem g_next (q : D.nx σ H) : tNext D σ H := q
theorem g_drop (q : te σ H fun _ H1 => D.nx σ H1) : tDrop te D σ H := q
theorem g_nil {A : List V → Hp → Prop} (q : A [] H) : tNil σ H A := q
theorem g_cons {tr : TA} {A : List V → Hp → Prop} (q : ta σ H fun x H1 => tr σ H1 fun xs H2 => A (x :: xs) H2) : tCons ta tr σ H A := q
theorem g_tup {tl : TA} (q : tl σ H fun xs H1 => xs.length ≤ sizeLine ∧ ∀ p, H1 p = none → Q (.ref p) (upd H1 p (.tup xs))) : tTup tl σ H Q := q
theorem g_lst {tl : TA} (q : tl σ H fun xs H1 => xs.length ≤ sizeLine ∧ ∀ p, H1 p = none → Q (.ref p) (upd H1 p (.lst xs))) : tLst tl σ H Q := q
theorem g_cb {rc : List V → Hp → VK → Prop} {tl : TA} (q : tl σ H fun vs H1 => rc vs H1 Q) : tCB rc tl σ H Q := q
theorem g_call {sp : Sp} {dvs : List V} {E : XK} {tl : TA} (q : tl σ H fun vs H1 => sp (vs ++ dvs) H1 Q E) : tCall sp dvs E tl σ H Q := q
theorem g_sl {rs : V → Option Int → Option Int → Hp → VK → Prop} {tl th : TO} (q : te σ H fun x H1 => tl σ H1 fun l H2 => th σ H2 fun u H3 => rs x l u H3 Q) : tSl rs te tl th σ H Q := q
theorem g_noPart {A : Option Int → Hp → Prop} (q : A none H) : tNoPart σ H A := q
theorem g_part {A : Option Int → Hp → Prop} (q : te σ H fun x H1 => ∃ i, x = .int i ∧ A (some i) H1) : tPart te σ H A := q
theorem g_ki {A : Int → Prop} {i : Int} (q : A i) : ∃ k, V.int i = V.int k ∧ A k := ⟨i, rfl, q⟩
theorem g_for {wi : TI} (q : wi σ H fun J H1 => ∃ W : Nat → Nat → L2.St → Hp → Prop, (∃ m, W 0 m σ H1) ∧ ∀ i m σ H, W i m σ H →
 (J.stop i H ∧ D.nx σ H) ∨ (J.go i H ∧ ∃ N : L2.St → Hp → Prop, (∀ σ' H', N σ' H' → ∃ m', m' < m ∧ W (i + 1) m' σ' H') ∧ ∀ x H', J.yld i H x H' → G x σ H' fun σ2 H2 => ts { D with nx := N, ct := N, bk := D.nx } σ2 H2)) : tFor wi G ts D σ H := q
theorem g_iR1 {tl : TA} {S : It → Hp → Prop} (q : tl σ H fun vs H1 => ∃ j : Int, vs = [.int j] ∧ -(2 ^ 62) ≤ j ∧ j < 2 ^ 62 ∧ S (Itr 0 j.toNat) H1) : iRng1 tl σ H S := q
theorem g_iR2 {tl : TA} {S : It → Hp → Prop} (q : tl σ H fun vs H1 => ∃ i j : Int, vs = [.int i, .int j] ∧ (-(2 ^ 62) ≤ i ∧ i < 2 ^ 62 ∧ -(2 ^ 62) ≤ j ∧ j < 2 ^ 62) ∧ S (Itr i (j - i).toNat) H1) : iRng2 tl σ H S := q
theorem g_iL {S : It → Hp → Prop} (q : te σ H fun x H1 => ∃ a, x = .ref a ∧ (∃ xs, SqL K H1 a xs) ∧ S (Itl K a) H1) : iList K te σ H S := q
theorem g_iT {S : It → Hp → Prop} (q : te σ H fun x H1 => ∃ a, x = .ref a ∧ (∃ xs, SqT K H1 a xs) ∧ S (Itt K a) H1) : iTup K te σ H S := q
theorem g_lc {wi : TI} {vs : List Nat} (q : wi σ H fun J H1 => ∀ D, H1 D = none → ∃ W : Nat → Nat → Hp → Prop, (∃ m, W 0 m (upd H1 D (.lst []))) ∧ ∀ i m H, W i m H →
 (J.stop i H ∧ Q (.ref D) H) ∨ (J.go i H ∧ ∃ Nx : Hp → Prop, (∀ H', Nx H' → ∃ m', m' < m ∧ W (i + 1) m' H') ∧ ∀ x H', J.yld i H x H' → G x (wipe σ vs) H' fun σ2 H2 => wipe σ2 vs = wipe σ vs ∧ t σ2 H2 fun b H3 =>
  if b = true then te σ2 H3 fun y H4 => ∃ acc, H4 D = some (.lst acc) ∧ acc.length < sizeLine ∧ Nx (upd H4 D (.lst (acc ++ [y]))) else Nx H3)) : tLc wi G t te vs σ H Q := q
theorem g_gtup {p : Addr} {xs : List V} {n : Nat} {tt : TGs} {P : L2.St → Hp → Prop} (h : SqT K H p xs) (hl : xs.length = n) (q : tt xs σ H P) : gTup K n tt (.ref p) σ H P := ⟨p, xs, rfl, h, hl, q⟩
theorem g_gcons {xs : List V} {tt : TGs} {P : L2.St → Hp → Prop} (q : G v σ H fun σ' H' => tt xs σ' H' P) : gCons G tt (v :: xs) σ H P := ⟨v, xs, rfl, q⟩
theorem g_gnil {P : L2.St → Hp → Prop} (q : P σ H) : gNil [] σ H P := ⟨rfl, q⟩
theorem g_yes (q : R true H) : tYes σ H R := q
theorem g_andT (q : ta σ H fun x H1 => ∃ k, TruV K x H1 k ∧ if k = true then tb σ H1 Q else Q x H1) : tAndT K ta tb σ H Q := q
theorem g_orT (q : ta σ H fun x H1 => ∃ k, TruV K x H1 k ∧ if k = true then Q x H1 else tb σ H1 Q) : tOrT K ta tb σ H Q := q
theorem g_notT (q : ta σ H fun x H1 => ∃ k, TruV K x H1 k ∧ Q (.bl (!k)) H1) : tNotT K ta σ H Q := q
theorem g_truB {A : Bool → Prop} {b : Bool} (q : A b) : ∃ k, TruV K (.bl b) H k ∧ A k := ⟨b, rfl, q⟩
theorem g_addI {i j : Int} (q : Q (.int (i + j)) H) : uAdd K (.int i) (.int j) H Q := q
theorem g_addS {a b : Str} (h : a.length + b.length ≤ sizeLine) (q : Q (.str (a ++ b)) H) : uAdd K (.str a) (.str b) H Q := ⟨h, q⟩
theorem g_addL {a b : Addr} {xs ys : List V} (h : H a = some (.lst xs)) (h2 : H b = some (.lst ys)) (hs : xs.length + ys.length ≤ sizeLine) (q : ∀ p, H p = none → Q (.ref p) (upd H p (.lst (xs ++ ys)))) : uAdd K (.ref a) (.ref b) H Q :=
 .inl ⟨a, b, xs, ys, rfl, rfl, h, h2, hs, q⟩
theorem g_subI {i j : Int} (q : Q (.int (i - j)) H) : uSub (.int i) (.int j) H Q := q
theorem g_mulI {i j : Int} (h : IntMulOk i j) (q : Q (.int (i * j)) H) : uMul (.int i) (.int j) H Q := ⟨h, q⟩
theorem g_divI {i j : Int} (h : CDivW i j) (q : Q (.int (i / j)) H) : uDiv (.int i) (.int j) H Q := ⟨h, q⟩
theorem g_modI {i j : Int} (h : 0 < j) (q : Q (.int (i % j)) H) : uMod (.int i) (.int j) H Q := ⟨h, q⟩
theorem g_powI {i j : Int} (h : CPow i j) (q : Q (.int (i ^ j.toNat)) H) : uPow (.int i) (.int j) H Q := ⟨h, q⟩
theorem g_ltI {i j : Int} (q : Q (.bl (decide (i < j))) H) : uLt K (.int i) (.int j) H Q := q
theorem g_gtI {i j : Int} (q : Q (.bl (decide (j < i))) H) : uGt (.int i) (.int j) H Q := q
theorem g_leI {i j : Int} (q : Q (.bl (decide (i ≤ j))) H) : uLe (.int i) (.int j) H Q := q
theorem g_geI {i j : Int} (q : Q (.bl (decide (j ≤ i))) H) : uGe (.int i) (.int j) H Q := q
theorem dec_i {i j : Int} : decide (V.int i = V.int j) = decide (i = j) := by
 by_cases h : i = j
 ·rw [decide_eq_true h, h]; exact decide_eq_true rfl
 ·rw [decide_eq_false h]; exact decide_eq_false fun z => h (V.int.inj z)
theorem dec_s {i j : Str} : decide (V.str i = V.str j) = decide (i = j) := by
 by_cases h : i = j
 ·rw [decide_eq_true h, h]; exact decide_eq_true rfl
 ·rw [decide_eq_false h]; exact decide_eq_false fun z => h (V.str.inj z)
theorem dec_b {i j : Bool} : decide (V.bl i = V.bl j) = decide (i = j) := by
 by_cases h : i = j
 ·rw [decide_eq_true h, h]; exact decide_eq_true rfl
 ·rw [decide_eq_false h]; exact decide_eq_false fun z => h (V.bl.inj z)
theorem g_eqI {i j : Int} (q : Q (.bl (decide (i = j))) H) : uEq K (.int i) (.int j) H Q := .inl ⟨rfl, by rw [dec_i]; exact q⟩
theorem g_eqS {i j : Str} (q : Q (.bl (decide (i = j))) H) : uEq K (.str i) (.str j) H Q := .inl ⟨rfl, by rw [dec_s]; exact q⟩
theorem g_eqB {i j : Bool} (q : Q (.bl (decide (i = j))) H) : uEq K (.bl i) (.bl j) H Q := .inl ⟨rfl, by rw [dec_b]; exact q⟩
theorem g_eqD {d e : PyData} (h : Dp K H x d) (h2 : Dp K H y e) (hs : SeqAt.shaped d = true) (hs2 : SeqAt.shaped e = true) (q : Q (.bl (PyData.eqv d e)) H) : uEq K x y H Q := .inr (.inl ⟨d, e, h, h2, hs, hs2, q⟩)
theorem g_neI {i j : Int} (q : Q (.bl (!decide (i = j))) H) : uNe K (.int i) (.int j) H Q := .inl ⟨rfl, by rw [dec_i]; exact q⟩
theorem g_neS {i j : Str} (q : Q (.bl (!decide (i = j))) H) : uNe K (.str i) (.str j) H Q := .inl ⟨rfl, by rw [dec_s]; exact q⟩
theorem g_neB {i j : Bool} (q : Q (.bl (!decide (i = j))) H) : uNe K (.bl i) (.bl j) H Q := .inl ⟨rfl, by rw [dec_b]; exact q⟩
theorem g_eqET {a b : Addr} {xs : List V} (h : SqT K H a xs) (h2 : SqT K H b []) (q : Q (.bl (decide (xs = []))) H) : uEq K (.ref a) (.ref b) H Q := .inr (.inr (.inl ⟨a, b, xs, rfl, rfl, h, h2, q⟩))
theorem g_eqEL {a b : Addr} {xs : List V} (h : SqL K H a xs) (h2 : SqL K H b []) (q : Q (.bl (decide (xs = []))) H) : uEq K (.ref a) (.ref b) H Q := .inr (.inr (.inr (.inl ⟨a, b, xs, rfl, rfl, h, h2, q⟩)))
theorem g_neET {a b : Addr} {xs : List V} (h : SqT K H a xs) (h2 : SqT K H b []) (q : Q (.bl (!decide (xs = []))) H) : uNe K (.ref a) (.ref b) H Q := .inr (.inr (.inl ⟨a, b, xs, rfl, rfl, h, h2, q⟩))
theorem g_neEL {a b : Addr} {xs : List V} (h : SqL K H a xs) (h2 : SqL K H b []) (q : Q (.bl (!decide (xs = []))) H) : uNe K (.ref a) (.ref b) H Q := .inr (.inr (.inr (.inl ⟨a, b, xs, rfl, rfl, h, h2, q⟩)))
theorem g_neEK {a b : Addr} {kvs : List (Key × V)} (h : H a = some (.dK kvs)) (h2 : H b = some (.dK [])) (q : Q (.bl (!decide (kvs = []))) H) : uNe K (.ref a) (.ref b) H Q := .inr (.inr (.inr (.inr ⟨a, b, kvs, rfl, rfl, h, h2, q⟩)))
theorem g_mulS {a : Str} {k : Int} (h1 : 2 ≤ k) (h2 : k ≤ 1000) (h3 : 0 < a.length) (h4 : a.length ≤ 1000) (q : Q (.str ⟨(List.replicate k.toNat a.cps).foldl (· ++ ·) #[]⟩) H) : uMul (.str a) (.int k) H Q := ⟨h1, h2, h3, h4, q⟩
theorem g_ixL {p : Addr} {xs : List V} {i : Int} (h : SqL K H p xs) (e : atI xs i = some v) (q : Q v H) : rIx K (.ref p) (.int i) H Q := .inl ⟨p, xs, i, v, rfl, rfl, h, e, q⟩
theorem g_ixT {p : Addr} {xs : List V} {i : Int} (h : SqT K H p xs) (e : atI xs i = some v) (q : Q v H) : rIx K (.ref p) (.int i) H Q := .inr (.inl ⟨p, xs, i, v, rfl, rfl, h, e, q⟩)
theorem g_ixS {z : Str} {i : Int} {c : Nat} (h : z.length ≤ sizeLine) (e : atI z.cps.toList i = some c) (q : Q (.str ⟨#[c]⟩) H) : rIx K (.str z) (.int i) H Q := .inr (.inr ⟨z, i, c, rfl, rfl, h, e, q⟩)
theorem g_setL {p : Addr} {xs : List V} {k : Int} {j : Nat} {P : Hp → Prop} (h : H p = some (.lst xs)) (e : ixN xs.length k = some j) (q : P (upd H p (.lst (xs.set j v)))) : rSetL (.ref p) (.int k) v H P := ⟨p, xs, k, j, rfl, rfl, h, e, q⟩
theorem g_slL {p : Addr} {xs : List V} {lo hi : Option Int} (h : SqL K H p xs) (q : ∀ p, H p = none → Q (.ref p) (upd H p (.lst (cutV xs lo hi)))) : rSlL K (.ref p) lo hi H Q := ⟨p, xs, rfl, h, q⟩
theorem cut0 (xs : List V) (n : Nat) : cutV xs none (some (n : Int)) = xs.take n := by
 unfold cutV
 rw [HT.sIx_none, HT.sIx_nat, List.drop_zero, Nat.sub_zero]
 by_cases h : n ≤ xs.length
 ·rw [Nat.min_eq_left h]
 ·rw [Nat.min_eq_right (by omega), List.take_length, List.take_of_length_le (by omega)]
theorem cutA (xs : List V) (n : Nat) : cutV xs (some (n : Int)) none = xs.drop n := by
 unfold cutV
 rw [HT.sIx_none, HT.sIx_nat]
 by_cases h : n ≤ xs.length
 ·rw [Nat.min_eq_left h, ← List.length_drop, List.take_length]
 ·rw [Nat.min_eq_right (by omega), Nat.sub_self, List.take_zero, List.drop_eq_nil_of_le (by omega)]
theorem rd_start {tm : TS} {N : List Str} {vs : List V} {σ0 : L2.St} (e : start N vs = σ0) (q : tm D σ0 H) : tm D (start N vs) H := by rw [e]; exact q
theorem lt_of {n : Nat} (h : n ≤ 100000) : n < sizeLine := Nat.lt_of_le_of_lt h (by decide)
theorem le_of {n : Nat} (h : n ≤ 100000) : n ≤ sizeLine := Nat.le_trans h (by decide)
theorem g_tt {c : Bool} {A B : Prop} (h : c = true) (q : A) : if c = true then A else B := by rw [if_pos h]; exact q
theorem g_ff {c : Bool} {A B : Prop} (h : c = false) (q : B) : if c = true then A else B := by rw [if_neg (by rw [h]; exact Bool.false_ne_true)]; exact q
theorem g_by {c : Prop} [Decidable c] {A B : Prop} (h1 : c → A) (h2 : ¬ c → B) : if decide c = true then A else B := by
 by_cases h : c
 ·exact g_tt (decide_eq_true h) (h1 h)
 ·exact g_ff (decide_eq_false h) (h2 h)
theorem g_byN {c : Prop} [Decidable c] {A B : Prop} (h1 : ¬ c → A) (h2 : c → B) : if (!decide c) = true then A else B := by
 by_cases h : c
 ·exact g_ff (by rw [decide_eq_true h]; rfl) (h2 h)
 ·exact g_tt (by rw [decide_eq_false h]; rfl) (h1 h)
theorem g_byB {c : Bool} {A B : Prop} (h1 : c = true → A) (h2 : c = false → B) : if c = true then A else B := by
 cases c with
 | true => exact h1 rfl
 | false => exact h2 rfl
theorem mulR {i j : Int} (h1 : -(2 ^ 64) < j) (h2 : j < 2 ^ 64) : IntMulOk i j := .of_right (intBits_le_64 h1 h2)
theorem mulL {i j : Int} (h1 : -(2 ^ 64) < i) (h2 : i < 2 ^ 64) : IntMulOk i j := .of_left (intBits_le_64 h1 h2)
theorem divS {i j : Int} (h : 0 < j) (h2 : j < 2 ^ 200) : CDivW i j := by
 refine ⟨h, ?_⟩
 have e : j.natAbs < 2 ^ 200 := by omega
 exact Nat.lt_of_lt_of_le (PySem.Flt.log2_lt_of (by decide) e) (by decide)
end
end SL
set_option Elab.async false
set_option linter.all false
set_option maxRecDepth 100000
set_option maxHeartbeats 2000000
namespace SL
open PySem PySem.Spec PyProof.Rows L2
structure Cal (P : Program) (w : World) (K : PySem.W.Frag) (mg : Str → Option Value) (base : Heap) (k : Nat) (x : Str) (sp : Sp) : Prop where
 ex : ∃ (f : Addr) (fd : FuncData) (ps : List Str), FnOk P w K mg base CX0 k f fd ps sp ∧ mg x = some (.ref f) ∧ PySem.W.keepIn K (.ref f) = true ∧ Binds K fd ps []
section
variable {P : Program} {w : World} {K : PySem.W.Frag} {mg : Str → Option Value} {base : Heap}
theorem Cal.mono {j k : Nat} {x : Str} {sp : Sp} (c : Cal P w K mg base j x sp) (h : j ≤ k) : Cal P w K mg base k x sp := by
 obtain ⟨f, fd, ps, F, m, kp, b⟩ := c.ex
 exact ⟨f, fd, ps, F.mono h, m, kp, b⟩
theorem Cal.imp {k : Nat} {x : Str} {sp sp' : Sp} (c : Cal P w K mg base k x sp) (h : ∀ vs H Q E, sp' vs H Q E → sp vs H Q E) : Cal P w K mg base k x sp' := by
 obtain ⟨f, fd, ps, F, m, kp, b⟩ := c.ex
 exact ⟨f, fd, ps, F.imp h, m, kp, b⟩
end
section
variable {X : Cx} {k j : Nat} {x : Str} {sp : Sp} {p pos : Pos} {e : Expr} {es : List Expr} {t : TA}
def uLen (K : PySem.W.Frag) : List V → Hp → VK → Prop := fun xs H Q => ∃ x, xs = [x] ∧ match x with
 | .str z => z.length ≤ sizeLine ∧ Q (.int z.length) H
 | .ref p => (∃ ys, (SqL K H p ys ∨ SqT K H p ys) ∧ Q (.int ys.length) H) ∨ ∃ kvs, H p = some (.dK kvs) ∧ Q (.int kvs.length) H
 | _ => False
theorem callu_len : CallR X (.builtin "len") (uLen X.K) := by
  intro pins s σ H xs us Q I r h
  obtain ⟨x, rfl, h⟩ := h
  cases x <;> first
    | exact absurd h id
    | exact call_len_str pins s σ H _ us Q I r ⟨_, rfl, h.1, h.2⟩
    | (rcases h with ⟨ys, h1, h2⟩ | ⟨kvs, h1, h2⟩
       · exact call_len_seq pins s σ H _ us Q I r ⟨_, ys, rfl, h1, h2⟩
       · obtain ⟨u, rfl, r1⟩ := vals1 r
         cases r1
         exact d_len I (.inl h1) fun t s' I' => ⟨.int _, H, I', ⟨_, rfl⟩, h2⟩)
def uList (K : PySem.W.Frag) : List V → Hp → VK → Prop := fun xs H Q => (∃ p ys, xs = [.ref p] ∧ (SqL K H p ys ∨ SqT K H p ys) ∧ ∀ l, H l = none → Q (.ref l) (upd H l (.lst ys))) ∨ rListD xs H Q
theorem callu_list (hc : X.calm = true := by rfl) : CallR X (.type "list") (uList X.K) := call_list_of.or (call_list_dK hc)
def uIsi (K : PySem.W.Frag) : List V → Hp → VK → Prop := fun xs H Q => rIsi K xs H Q ∨ rIsiT K xs H Q
theorem callu_isi : CallR X (.builtin "isinstance") (uIsi X.K) := call_isi.or call_isiT
end
section
variable {K : PySem.W.Frag} {H : Hp} {Q : VK}
theorem g_len {p : Addr} {ys : List V} (h : SqL K H p ys ∨ SqT K H p ys) (q : Q (.int ys.length) H) : uLen K [.ref p] H Q := ⟨_, rfl, .inl ⟨ys, h, q⟩⟩
theorem g_lenK {p : Addr} {kvs : List (Key × V)} (h : H p = some (.dK kvs)) (q : Q (.int kvs.length) H) : uLen K [.ref p] H Q := ⟨_, rfl, .inr ⟨kvs, h, q⟩⟩
theorem g_lenS {z : Str} (h : z.length ≤ sizeLine) (q : Q (.int z.length) H) : uLen K [.str z] H Q := ⟨_, rfl, h, q⟩
theorem g_list {p : Addr} {ys : List V} (h : SqL K H p ys ∨ SqT K H p ys) (q : ∀ l, H l = none → Q (.ref l) (upd H l (.lst ys))) : uList K [.ref p] H Q := .inl ⟨p, ys, rfl, h, q⟩
theorem g_listD {p : Addr} {kvs : List (Key × V)} (h : H p = some (.dK kvs)) (q : ∀ l, H l = none → Q (.ref l) (upd H l (.lst (kvs.map fun kv => kV kv.1)))) : uList K [.ref p] H Q := .inr ⟨p, kvs, rfl, h, q⟩
end
end SL
namespace SL
open PySem PySem.Spec PyProof.Rows L2
def shownV : V → Str
 | .int i => toString i
 | .str z => reprText z
 | .bl b => if b then "True" else "False"
 | _ => "None"
def shortV : V → Prop
 | .int i => i.natAbs.log2 < 1920
 | .str z => (reprText z).length ≤ sizeLine
 | .bl _ => True
 | .non => True
 | _ => False
def uRepr : List V → Hp → VK → Prop := fun xs H Q => ∃ x, xs = [x] ∧ shortV x ∧ Q (.str (shownV x)) H
theorem callu_repr {X : Cx} : CallR X (.builtin "repr") uRepr := by
 intro pins s σ H xs us Q I r h
 obtain ⟨x, rfl, hs, q⟩ := h
 obtain ⟨u, rfl, r1⟩ := vals1 r
 cases x with
 | int i =>
  obtain ⟨t, rfl⟩ := r1
  exact PySem.P.repr_of_int hs ⟨.str _, H, I.tok _, ⟨_, rfl⟩, q⟩
 | str z =>
  obtain ⟨t, rfl⟩ := r1
  exact PySem.P.repr_of_str ⟨.str _, H, I.tok _, ⟨_, rfl⟩, q⟩ hs
 | bl b =>
  cases r1
  exact PySem.P.repr_of_bool ⟨.str (if b then "True" else "False"), H, I.tok _, ⟨_, by cases b <;> rfl⟩, q⟩
 | non =>
  cases r1
  exact PySem.P.repr_of_none ⟨.str _, H, I.tok _, ⟨_, rfl⟩, q⟩
 | _ => exact absurd hs id
section
variable {K : PySem.W.Frag} {H : Hp} {Q : VK} {x : V}
theorem tyx_l {p : Addr} {xs : List V} (h : SqL K H p xs) : TyX K H (.ref p) (.type "list") := by
 rcases h with (h | ⟨o, h⟩) | ⟨o, its, n, h1, h2, _⟩
 ·exact .base (.lst h)
 ·exact .base (.frz h)
 ·exact .kList h1 h2
theorem tyx_t {p : Addr} {xs : List V} (h : SqT K H p xs) : TyX K H (.ref p) (.type "tuple") := by
 rcases h with (h | ⟨o, h⟩) | ⟨o, its, n, h1, h2, _⟩
 ·exact .base (.tup h)
 ·exact .fTuple h
 ·exact .kTuple h1 h2
theorem g_isi {T U : String} {b : Bool} (ty : TyX K H x (.type T)) (e : kitB T U = some b) (q : Q (.bl b) H) : uIsi K [x, .ty U] H Q := .inl ⟨x, .ty U, _, _, b, rfl, .ty U, ty, kit_ty e, q⟩
theorem g_isi2 {T U1 U2 : String} {b1 b2 : Bool} {tp : Addr} (ht : H tp = some (.tup [.ty U1, .ty U2])) (ty : TyX K H x (.type T)) (e1 : kitB T U1 = some b1) (e2 : kitB T U2 = some b2) (q : Q (.bl (b1 || b2)) H) : uIsi K [x, .ref tp] H Q := by
 refine .inr ⟨x, tp, [.ty U1, .ty U2], _, [.type U1, .type U2], b1 || b2, rfl, ht, .cons (.ty U1) (.cons (.ty U2) .nil), ty, ?_, q⟩
 refine kitAny_cons (kit_ty e1) (fun h => ?_) (fun h => by rw [h]; rfl)
 subst h
 refine kitAny_cons (kit_ty e2) (fun h => ?_) (fun h => by rw [h]; rfl)
 subst h
 exact kitAny_nil
end
def Sm : Nat → PyData → Prop
 | 0, _ => False
 | _ + 1, .int i => i.natAbs.log2 < 1920
 | _ + 1, .str z => (reprText z).length ≤ sizeLine
 | _ + 1, .bool _ => True
 | _ + 1, .none => True
 | n + 1, .list ds => ds.length ≤ 10000 ∧ ∀ d ∈ ds, Sm n d
 | n + 1, .tuple ds => ds.length ≤ 10000 ∧ ∀ d ∈ ds, Sm n d
 | _ + 1, .dict _ => False
section
variable {K : PySem.W.Frag} {H H' : Hp} {M : List Addr}
mutual
theorem dp_same (e : Same H H') : ∀ {v : V} {d : PyData}, Dp K H v d → Dp K H' v d
 | _, _, .non => .non
 | _, _, .bl b => .bl b
 | _, _, .int i => .int i
 | _, _, .str x => .str x
 | _, _, .lst h hs => .lst (e.seq h) (dpa_same e hs)
 | _, _, .tup h hs => .tup ((Fr.of_same (M := []) e).tup h) (dpa_same e hs)
theorem dpa_same (e : Same H H') : ∀ {vs : List V} {ds : List PyData}, DpAll K H vs ds → DpAll K H' vs ds
 | _, _, .nil => .nil
 | _, _, .cons h hs => .cons (dp_same e h) (dpa_same e hs)
end
theorem dpa_len : ∀ {vs : List V} {ds : List PyData}, DpAll K H vs ds → vs.length = ds.length
 | _, _, .nil => rfl
 | _, _, .cons _ hs => congrArg Nat.succ (dpa_len hs)
theorem dpa_get : ∀ {vs : List V} {ds : List PyData} {i : Nat} {v : V}, DpAll K H vs ds → vs[i]? = some v → ∃ d, ds[i]? = some d ∧ Dp K H v d
 | _, _, _, _, .nil, e => by simp at e
 | _, _, 0, v, .cons h _, e => by simp at e; subst e; exact ⟨_, rfl, h⟩
 | _, _, i + 1, v, .cons _ hs, e => by
  obtain ⟨d, h1, h2⟩ := dpa_get (i := i) (v := v) hs (by simpa using e)
  exact ⟨d, by simpa using h1, h2⟩
end
end SL
namespace SL
open PySem PySem.Spec PyProof.Rows L2
section
variable {K : PySem.W.Frag} {σ : L2.St} {H : Hp} {a b : Addr} {xs ys : List V}
theorem walk_zipT {n : Nat} (hn : n = min xs.length ys.length) : Walk (RZ.ItzT K a b) n (fun H => SqT K H a xs ∧ SqT K H b ys) (YPair (fun i => xs[i]?) (fun i => ys[i]?)) :=
 have both : ∀ {i : Nat}, i < n → i < xs.length ∧ i < ys.length := fun {i} lt => by omega
 {
  goes := fun i _ lt q => ⟨xs, ys, xs[i]'(both lt).1, ys[i]'(both lt).2, q.1, q.2, List.getElem?_eq_getElem _, List.getElem?_eq_getElem _⟩
  stops := fun _ q => ⟨xs, ys, q.1, q.2, by omega⟩
  yields := fun i H v H' _ q y => have ⟨T, x, z, isT, new, as, fx, fy⟩ := y; ⟨T, x, z, isT, new, as, fx xs q.1, fy ys q.2⟩
 }
theorem g_izA {tl : TA} {S : It → Hp → Prop} (q : tl σ H fun vs H1 => ∃ a b xs ys, vs = [.ref a, .ref b] ∧ ((SqL K H1 a xs ∧ SqL K H1 b ys ∧ S (Itz K a b) H1) ∨ (SqT K H1 a xs ∧ SqT K H1 b ys ∧ S (RZ.ItzT K a b) H1))) : RZ.iZipA K tl σ H S := q
theorem g_iz {tl : TA} {S : It → Hp → Prop} (q : tl σ H fun vs H1 => ∃ a b xs ys, vs = [.ref a, .ref b] ∧ SqL K H1 a xs ∧ SqL K H1 b ys ∧ S (Itz K a b) H1) : iZip K tl σ H S := q
end
end SL
set_option Elab.async false
set_option linter.all false
set_option maxRecDepth 100000
set_option maxHeartbeats 2000000
namespace SL
open PySem PySem.Spec PyProof.Rows L2
structure RoomG (k : Nat) (A : Around) : Prop where
 rm : Room k A
 gd : A.guards = some []
theorem RoomG.mono {j k : Nat} {A : Around} (r : RoomG k A) (h : j ≤ k) : RoomG j A := ⟨r.rm.mono h, r.gd⟩
theorem RoomG.units {k : Nat} {A : Around} (r : RoomG k A) : A.units + 64 < cLine := r.rm.units
structure FnG (P : Program) (w : World) (K : PySem.W.Frag) (mg : Str → Option Value) (base : Heap) (CX : CXT) (k : Nat) (f : Addr) (fd : FuncData) (ps : List Str) (sp : Sp) : Prop where
 len : ∀ vs H Q E, sp vs H Q E → vs.length = ps.length
 go : ∀ (A : Around) (outer : List Env) (s : Shared) (H : Hp) (args : Args) (us : List Value) (vs : List V) (Q : VK) (E : XK), RoomG k A →
  Env0 P w K mg base A outer s H → BindsTo s fd args (ps.zip us) → Vals vs us → sp vs H Q E → codeAny (model P w) A (.call (.ref f) args) (CR CX outer P w H s Q E) s
section
variable {P : Program} {w : World} {K : PySem.W.Frag} {mg : Str → Option Value} {base : Heap} {CX : CXT}
theorem FnG.up {j k : Nat} {f : Addr} {fd : FuncData} {ps : List Str} {sp : Sp} (F : FnG P w K mg base CX j f fd ps sp) (h : j ≤ k) : FnG P w K mg base CX k f fd ps sp :=
 ⟨F.len, fun A outer s H args us vs Q E r => F.go A outer s H args us vs Q E (r.mono h)⟩
theorem FnG.imp {k : Nat} {f : Addr} {fd : FuncData} {ps : List Str} {sp sp' : Sp} (F : FnG P w K mg base CX k f fd ps sp) (h : ∀ vs H Q E, sp' vs H Q E → sp vs H Q E) : FnG P w K mg base CX k f fd ps sp' :=
 ⟨fun vs H Q E z => F.len vs H Q E (h vs H Q E z), fun A outer s H args us vs Q E r e b v z => F.go A outer s H args us vs Q E r e b v (h vs H Q E z)⟩
theorem fng_of {k : Nat} {f : Addr} {x qual : Str} {pr : Arguments} {bd : List Stmt} {sc : Scope} {dV kV doc pm cdv ct oc : Value} {an od : Option Addr} {osl : Array (Option Value)} {N ps : List Str} {sp : Sp}
  (lk : K.lookup f = some ⟨oc, od, .func (PySem.W.fnOf x qual pr bd sc dV kV doc pm an cdv ct), osl⟩) (hcd : PySem.W.codeIn K cdv qual = true) (S : FnScope N ps sc) (hlen : ∀ vs H Q E, sp vs H Q E → vs.length = ps.length)
  (hb : ∀ (A : Around) (outer : List Env) (s : Shared) (H : Hp) (vs : List V) (Q : VK) (E : XK), RoomG k (A.deeper (envOfC qual sc s.heap.objs.size f cdv)) → sp vs H Q E →
   ∃ t, PSs (cxOf CX P w K mg base N qual sc f cdv A outer s H E) bd t ∧ t { nx := fun _ H' => Q .non H', rt := Q } (start N vs) H) :
  FnG P w K mg base CX (k + 1) f (PySem.W.fnOf x qual pr bd sc dV kV doc pm an cdv ct) ps sp := by
 constructor
 ·exact hlen
 intro A outer s H args us vs Q E hr env0 hbind rel hsp
 have nl := hlen _ _ _ _ hsp
 have inH : K.In s.heap := env0.mod.kin.keeps fun b o z => (env0.bs b o z).1
 have nolim : s.heap.NoLimit := env0.mod.nolimit.keeps fun b o z => (env0.bs b o z).1
 have kinds : ∀ y ∈ ps.zip us, sc.names.lookup y.1 = some .local ∨ (sc.names.lookup y.1 = some .cell ∧ ((cellsFrom (s.heap.objs.size + 1) sc.names []).lookup y.1).isSome = true) := by
  rintro ⟨n, v⟩ hy
  exact (S.par n (List.of_mem_zip hy).1).imp id fun q => ⟨q, PySem.W.cellsFrom_some _ _ _ (.inl q)⟩
 refine codeAny_call_function hr.rm.depth (inH _ _ lk) rfl S.co S.gen rfl (PySem.W.codeRec_of inH hcd) (hbind _ _ _ _ (wpAny_newFunctionEnv_cells S.kind kinds fun en hen s1 ic => ?_))
 subst hen
 refine ⟨nolim.keeps ic.toInCall.keep, codeAny_func ?_⟩
 obtain ⟨t, ht, hq⟩ := hb A outer s H vs Q E ⟨hr.rm.deeper _, hr.gd⟩ hsp
 have J0 : Inv (cxOf CX P w K mg base N qual sc f cdv A outer s H E) [] (start N vs) H s1 := inv_start S hr.rm.hd env0 nl rel ic
 refine wpAny_mono (ht.run [] s1 (start N vs) H _ J0 hq) (fun fl s2 h2 => ?_) fun e s2 h2 => h2
 cases fl with
 | next =>
  obtain ⟨σ2, H2, J, q2⟩ := h2
  exact ⟨V.non, H2, J.os, J.bare, J.base, J.hok, rfl, q2⟩
 | ret u =>
  obtain ⟨v, σ2, H2, J, rv, q2⟩ := h2
  exact ⟨v, H2, J.os, J.bare, J.base, J.hok, rv, q2⟩
 | brk => exact h2.elim fun _ z => z.elim fun _ z => z.2.elim
 | cont => exact h2.elim fun _ z => z.elim fun _ z => z.2.elim
theorem okG {x qual : Str} {pr : Arguments} {bd : List Stmt} {sc : Scope} {dvs : List V} {kws : List (Str × V)} {f : Addr} {fd : FuncData} {N ps : List Str} {k : Nat} {sp : Sp} (F : FunD K x qual pr bd sc dvs kws f fd) (S : FnScope N ps sc) (hlen : ∀ vs H Q E, sp vs H Q E → vs.length = ps.length)
  (hb : ∀ (cdv : Value) (A : Around) (outer : List Env) (s : Shared) (H : Hp) (vs : List V) (Q : VK) (E : XK), RoomG k (A.deeper (envOfC qual sc s.heap.objs.size f cdv)) → sp vs H Q E →
   ∃ t, PSs (cxOf CX P w K mg base N qual sc f cdv A outer s H E) bd t ∧ t { nx := fun _ H' => Q .non H', rt := Q } (start N vs) H) : FnG P w K mg base CX (k + 1) f fd ps sp := by
 obtain ⟨oc, od, dV, kV, doc, pm, an, cdv, ct, osl, rfl, lk, hcd, _, _⟩ := F.ex
 exact fng_of lk hcd S hlen fun A outer s H vs Q E hr hsp => hb cdv A outer s H vs Q E hr hsp
structure CalG (P : Program) (w : World) (K : PySem.W.Frag) (mg : Str → Option Value) (base : Heap) (k : Nat) (x : Str) (sp : Sp) : Prop where
 ex : ∃ (f : Addr) (fd : FuncData) (ps : List Str), FnG P w K mg base CX0 k f fd ps sp ∧ mg x = some (.ref f) ∧ PySem.W.keepIn K (.ref f) = true ∧ Binds K fd ps []
theorem CalG.mono {j k : Nat} {x : Str} {sp : Sp} (c : CalG P w K mg base j x sp) (h : j ≤ k) : CalG P w K mg base k x sp := by
 obtain ⟨f, fd, ps, F, m, kp, b⟩ := c.ex
 exact ⟨f, fd, ps, F.up h, m, kp, b⟩
theorem CalG.imp {k : Nat} {x : Str} {sp sp' : Sp} (c : CalG P w K mg base k x sp) (h : ∀ vs H Q E, sp' vs H Q E → sp vs H Q E) : CalG P w K mg base k x sp' := by
 obtain ⟨f, fd, ps, F, m, kp, b⟩ := c.ex
 exact ⟨f, fd, ps, F.imp h, m, kp, b⟩
end
section
variable {X : Cx} {k j : Nat} {x : Str} {sp : Sp} {p pos : Pos} {e : Expr} {es : List Expr} {t : TA}
theorem run_fng {CX : CXT} {f : Addr} {fd : FuncData} {ps : List Str} {dvs : List V} {ds : List Value} {E : XK} {pins : List (Addr × Obj)} {σ : L2.St} {H : Hp} {s : Shared} {Q : VK} {us : List Value} {vs : List V}
  (F : FnG X.prog X.w X.K X.mg X.base CX k f fd ps sp) (hr : RoomG k X.A) (hb : Binds X.K fd ps ds) (hd : Vals dvs ds) (hx : Passes CX X E) (I : Inv X pins σ H s) (r : Vals vs us) (h : sp (vs ++ dvs) H Q E) :
  wpAny (model X.prog X.w) X.A (call (.ref f) us) (EP X pins σ Q) X.xe s := by
 have rel : Vals (vs ++ dvs) (us ++ ds) := r.append hd
 have ln : (us ++ ds).length = ps.length := rel.length.symm.trans (F.len _ _ _ _ h)
 refine wpAny_call (codeAny_mono (F.go X.A X.stack s H ⟨us, []⟩ (us ++ ds) (vs ++ dvs) Q E hr I.env0 (hb s us I.kIn ln) rel h) fun res s2 hq => ?_)
 cases res with
 | ok fl =>
  cases fl with
  | ret u => exact I.after hq
  | _ => exact hq.elim
 | error z => exact hx pins σ H s z s2 I hq
theorem pe_calG (c : CalG X.prog X.w X.K X.mg X.base k x sp) (hr : RoomG j X.A) (hg : Gl X x) (ha : PA X (e :: es) t) (hk : k ≤ j := by first | decide | omega)
  (hdb : (x == ("__debug__" : Str)) = false := by decide) (hst : starEach (e :: es) X.env = (false, eval e X.env) :: starEach es X.env := by rfl) (hnp : (backTo pos (starEach es X.env)).any (·.1) = false := by rfl) :
  PE X (.Call (.Name x p) (e :: es) [] pos) (tCall sp [] E0 t) := by
 obtain ⟨f, fd, ps, F, hm, kp, b⟩ := c.ex
 constructor
 intro pins s σ H Q I h
 refine wpAny_Call_Name_kw (ld_glob I hg hm (PySem.W.callWith_K (h₀ := X.base) I.ok.mod.kin kp (thn (ha.run pos pins s σ H _ I h) fun us s1 z => ?_) hst hnp) hdb)
 obtain ⟨vs, H1, I1, r, q⟩ := z
 exact ⟨I1.kIn, run_fng F (hr.mono hk) b .nil pass0 I1 r q⟩
end
theorem calG_of {P : Program} {w : World} {K : PySem.W.Frag} {mg : Str → Option Value} {base : Heap} {k : Nat} {x : Str} {sp : Sp} {f : Addr} {fd : FuncData} {ps : List Str} (F : FnG P w K mg base CX0 k f fd ps sp) (m : mg x = some (.ref f)) (kp : PySem.W.keepIn K (.ref f) = true) (b : Binds K fd ps []) : CalG P w K mg base k x sp := ⟨f, fd, ps, F, m, kp, b⟩
def scrO (vs : List Value) : Obj := { cls := .type "list", data := .seq vs.toArray }
theorem law_from {P : Program} {w : World} {K : PySem.W.Frag} {mg mb : Str → Option Value} {k : Nat} {fa a : Addr} {fd : FuncData} {x : Str} {sp : Sp} {s : Shared} {vs : List Value} {H : Hp}
  (kin : K.In s.heap) (gns : s.heap.Ns mainGlobals mg) (bns : s.heap.Ns builtinsNs mb) (bok : ∀ x : Str, x ≠ "__name__" → mb x = bootBuiltins x) (nolim : s.heap.NoLimit) (nog : s.gens = #[]) (scr : s.heap.get? a = some (scrO vs)) (hr : RoomG k callerA)
  (F : ∀ base : Heap, K.In base → base.Ns mainGlobals mg → FnG P w K mg base CX0 k fa fd [x] sp) (hbind : ∀ (s : Shared) (u : Value), BindsTo s fd ⟨[u], []⟩ [(x, u)])
  (hsp : sp [.ref a] H (fun v _ => v = .bl true) fun _ _ _ => False) (hO : Only H) (hok : HOk P w H s.heap) (hA : ∀ b, H b ≠ none → b = a) (hK : H a ≠ none → K.lookup a = none) :
  codeAny (model P w) callerA (.call (.ref fa) ⟨[.ref a], []⟩) (fun r s2 => r = .ok (.ret (.bool true)) ∧ OldK s.heap s2.heap ∧ s2.os = s.os ∧ AllBare s2.gens) s := by
 have dfree : ∀ {b : Addr} {o : Obj} {es : Array DictEntry} {ep : Nat}, s.heap.get? b = some o → o.data = .dict es ep → H b = none := by
  intro b o es ep h1 h2
  cases q : H b with
  | none => rfl
  | some u =>
   have hb : b = a := hA b (by rw [q]; exact fun z => nomatch z)
   rw [hb, scr] at h1
   cases h1
   cases h2
 have nsH : ∀ {b : Addr} {m : Str → Option Value}, s.heap.Ns b m → (hidT s.heap H).Ns b m := by
  rintro b m ⟨o, es, ep, h1, h2, h3⟩
  exact ⟨o, es, ep, hidT_get h1 (dfree h1 h2), h2, h3⟩
 have kH : K.In (hidT s.heap H) := by
  intro b o h1
  refine hidT_get (kin b o h1) ?_
  cases q : H b with
  | none => rfl
  | some u =>
   have hb : b = a := hA b (by rw [q]; exact fun z => nomatch z)
   rw [hb] at h1 q
   rw [hK (by rw [q]; exact fun z => nomatch z)] at h1
   cases h1
 obtain ⟨mc, l1, l2⟩ := nolim
 have md : Mod K mg (hidT s.heap H) := ⟨kH, nsH gns, ⟨mb, nsH bns, bok⟩, ⟨mc, nsH l1, l2⟩⟩
 have env : Env0 P w K mg (hidT s.heap H) callerA [] s H := ⟨rfl, md, fun _ _ z => of_hidT z, Nat.le_of_eq (hidT_size _ _), trivial, fun b hb => (nomatch (show b ∈ ([] : List Addr) from hb)), hok, .of_eq nog⟩
 refine codeAny_mono ((F _ kH (nsH gns)).go callerA [] s H ⟨[.ref a], []⟩ [.ref a] [.ref a] _ _ hr env (hbind s (.ref a)) (.cons rfl .nil) hsp) fun r s2 h => ?_
 cases r with
 | error z => exact h.elim
 | ok fl =>
  cases fl with
  | ret u =>
   obtain ⟨v, H2, os, bare, un, hok2, rv, q⟩ := h
   have q1 : v = .bl true := q
   rw [q1] at rv
   have ru : u = Value.bool true := rv
   rw [ru]
   refine ⟨rfl, OldK.of_keep fun b o h1 => ?_, os, bare⟩
   rcases hO b with z | ⟨ob, xs, z⟩
   ·exact un.keep b o h1 z (fun y => nomatch (show b ∈ ([] : List Addr) from y)) (fun y => nomatch y)
   ·obtain ⟨g1, _⟩ := hok b _ z
    obtain ⟨g2, _⟩ := hok2 b _ (un.frzs b ob _ z)
    rw [h1] at g1
    cases g1
    exact g2
  | _ => exact h.elim
theorem law_run {P : Program} {w : World} {K : PySem.W.Frag} {mg mb : Str → Option Value} {k : Nat} {fa a : Addr} {fd : FuncData} {x : Str} {sp : Sp} {s : Shared} {vs : List Value} {ns : List Int}
  (kin : K.In s.heap) (gns : s.heap.Ns mainGlobals mg) (bns : s.heap.Ns builtinsNs mb) (bok : ∀ x : Str, x ≠ "__name__" → mb x = bootBuiltins x) (nolim : s.heap.NoLimit) (nog : s.gens = #[]) (scr : s.heap.get? a = some (scrO vs)) (hin : IntsAre vs ns) (small : ns.length ≤ sizeLine) (hr : RoomG k callerA)
  (F : ∀ base : Heap, K.In base → base.Ns mainGlobals mg → FnG P w K mg base CX0 k fa fd [x] sp) (hbind : ∀ (s : Shared) (u : Value), BindsTo s fd ⟨[u], []⟩ [(x, u)])
  (hsp : ∀ H : Hp, Only H → SqL K H a (ns.map V.int) → sp [.ref a] H (fun v _ => v = .bl true) fun _ _ _ => False) :
  codeAny (model P w) callerA (.call (.ref fa) ⟨[.ref a], []⟩) (fun r s2 => r = .ok (.ret (.bool true)) ∧ OldK s.heap s2.heap ∧ s2.os = s.os ∧ AllBare s2.gens) s := by
 have rel := vals_ints hin
 have ln := hin.length
 cases hk : K.lookup a with
 | none =>
  let H0 : Hp := fun b => if b = a then some (.frz (scrO vs) (.lst (ns.map V.int))) else none
  have at_a : H0 a = some (.frz (scrO vs) (.lst (ns.map V.int))) := if_pos rfl
  have off_a : ∀ b, b ≠ a → H0 b = none := fun b hb => if_neg hb
  have only : Only H0 := fun b => by
   by_cases hb : b = a
   ·rw [hb]; exact .inr ⟨_, _, at_a⟩
   ·exact .inl (off_a b hb)
  refine law_from (H := H0) kin gns bns bok nolim nog scr hr F hbind (hsp H0 only (.inl (.inr ⟨_, at_a⟩))) only (fun b u z => ?_) (fun b z => ?_) fun _ => hk
  ·by_cases hb : b = a
   ·subst hb
    rw [at_a] at z
    cases z
    exact ⟨scr, (by rw [List.length_map]; exact small), vs, _, rel, scr⟩
   ·rw [off_a b hb] at z
    cases z
  ·by_cases hb : b = a
   ·exact hb
   ·exact absurd (off_a b hb) z
 | some o =>
  have h1 := kin a o hk
  rw [scr] at h1
  cases h1
  refine law_from (H := fun _ => none) kin gns bns bok nolim nog scr hr F hbind (hsp _ (fun _ => .inl rfl) (.inr ⟨_, vs.toArray, _, hk, rfl, rfl, rfl, by rw [List.size_toArray, ln]; exact small, by simpa using rel⟩)) (fun _ => .inl rfl) (fun b u z => ?_) (fun b z => absurd rfl z) fun z => absurd rfl z
  have z2 : (none : Option HO) = some u := z
  cases z2
theorem walkG {l : PySem.W.OpenLaw} {n k : Nat} {q : Program} {loose : List Str} {XP : (Str → Option Value) → Heap → Prop} {YP : World → Heap → Prop} {d : DefRec} {x : Str} (hn : l.most = some n) (hn2 : n ≤ sizeLine) (hdf : d.params.defaults = []) (hr : Room k callerA)
  (F : ∀ (w : World) (mg : Str → Option Value) (fa : Addr) (h : Heap), YP w h → h.Ns mainGlobals mg → mg d.name = some (.ref fa) →
   ∃ (K : PySem.W.Frag) (fd : FuncData) (sp : Sp), K.In h ∧ (∀ (s : Shared) (u : Value), BindsTo s fd ⟨[u], []⟩ [(x, u)]) ∧
    (∀ (H : Hp) (a : Addr) (ns : List Int), ns.length ≤ n → SqL K H a (ns.map V.int) → sp [.ref a] H (fun v _ => v = .bl true) fun _ _ _ => False) ∧ ∀ base : Heap, K.In base → base.Ns mainGlobals mg → FnG l.prog w K mg base CX0 k fa fd [x] sp) :
  PySem.W.WalkO q loose XP YP l.row.toRowW d [] (fun f vs => PySem.call f vs) := by
 refine Att.attach_call hn hdf fun w s₀ s₁ mg mb fa o pm cd doc a vs ns G Y ho hd hcd hmg hobj hints hlen hg => ?_
 obtain ⟨K, fd, sp, kin, hb, hsp, hF⟩ := F w mg fa _ Y G.T.g hmg
 exact law_run kin G.T.g G.T.b G.T.builtins G.T.nolimit hg hobj hints (Nat.le_trans hlen hn2) ⟨hr, rfl⟩ hF hb fun H _ hS => hsp H a ns hlen hS
end SL
set_option Elab.async false
set_option linter.all false
set_option maxRecDepth 100000
set_option maxHeartbeats 2000000
namespace SL
open PySem PySem.Spec PyProof.Rows L2
def isSc : V → Bool
 | .int _ | .str _ | .bl _ | .non => true
 | _ => false
def scD : V → PyData
 | .int i => .int i
 | .str x => .str x
 | .bl b => .bool b
 | _ => .none
def keyD : Key → PyData
 | .inl i => .int i
 | .inr x => .str x
def kvD (kvs : List (Key × V)) : PyData := .dict (kvs.map fun kv => (keyD kv.1, scD kv.2))
theorem sc_reads {h : Heap} {x : V} {u : Value} (s : isSc x = true) (r : RelV x u) : Reads h u (scD x) [] := by
 cases x with
 | int i => obtain ⟨t, rfl⟩ := r; exact .int i t
 | str i => obtain ⟨t, rfl⟩ := r; exact .str i t
 | bl b => cases r; exact .bool b
 | non => cases r; exact .none
 | _ => cases s
theorem key_reads {h : Heap} {k : Key} {u : Value} (r : keyIs k u = true) : Reads h u (keyD k) [] := by
 rcases keyIs_shape r with ⟨i, t, rfl, rfl⟩ | ⟨x, t, rfl, rfl⟩
 ·exact .int i t
 ·exact .str x t
theorem pairs_reads {P : Program} {w : World} {h : Heap} : ∀ {es : List DictEntry} {kvs : List (Key × V)} {vs : List (Key × Value)}, Pairs (mixKind P w) es vs → KV kvs vs → (∀ kv ∈ kvs, isSc kv.2 = true) →
  ReadsAll h (es.map (·.key)) ((kvs.map fun kv => (keyD kv.1, scD kv.2)).map (·.1)) [] ∧ ReadsAll h (es.map (·.val)) ((kvs.map fun kv => (keyD kv.1, scD kv.2)).map (·.2)) []
 | _, _, _, .nil, .nil, _ => ⟨.nil, .nil⟩
 | en :: _, (k, v) :: r, kv2 :: _, .cons h1 h2 h3, .cons g1 g2, hs => by
  obtain ⟨i1, i2⟩ := pairs_reads (h := h) h3 g2 fun kv z => hs kv (List.mem_cons_of_mem _ z)
  obtain ⟨e1, e2⟩ := g1
  have e3 : keyIs k en.key = true := by
   have e4 : k = kv2.1 := e1
   rw [e4]; exact h1
  have r1 : RelV v kv2.2 := e2
  rw [← h2] at r1
  exact ⟨.cons (key_reads e3) i1, .cons (sc_reads (hs _ List.mem_cons_self) r1) i2⟩
def rReprD (K : PySem.W.Frag) : List V → Hp → VK → Prop := fun xs H Q => ∃ (p : Addr) (d : PyData), xs = [.ref p] ∧ (Dp K H (.ref p) d ∨ ∃ kvs, H p = some (.dK kvs) ∧ (∀ kv ∈ kvs, isSc kv.2 = true) ∧ d = kvD kvs) ∧
 d.showable = true ∧ d.depth ≤ 50 ∧ d.shown.length ≤ sizeLine ∧ Q (.str d.shown) H
mutual
theorem dp_nodict {K : PySem.W.Frag} {H : Hp} : ∀ {v : V} {d : PyData}, Dp K H v d → d.hasDict = false
 | _, _, .non => by simp only [PyData.hasDict]
 | _, _, .bl _ => by simp only [PyData.hasDict]
 | _, _, .int _ => by simp only [PyData.hasDict]
 | _, _, .str _ => by simp only [PyData.hasDict]
 | _, _, .lst _ h => by simp only [PyData.hasDict]; exact dpa_nodict h
 | _, _, .tup _ h => by simp only [PyData.hasDict]; exact dpa_nodict h
theorem dpa_nodict {K : PySem.W.Frag} {H : Hp} : ∀ {vs : List V} {ds : List PyData}, DpAll K H vs ds → PyData.hasDictAll ds = false
 | _, _, .nil => by simp only [PyData.hasDictAll]
 | _, _, .cons h hs => by simp only [PyData.hasDictAll, dp_nodict h, dpa_nodict hs, Bool.or_self]
end
section
variable {X : Cx} {k : Nat}
theorem call_reprD (hr : RoomG k X.A) : CallR X (.builtin "repr") (rReprD X.K) := by
 intro pins s σ H xs us Q I r h
 obtain ⟨p, d, rfl, hd, hs, hdep, hsz, q⟩ := h
 obtain ⟨u, rfl, r1⟩ := vals1 r
 have hu : X.A.units + (d.depth + 1) < cLine := by have := hr.units; omega
 rcases hd with hd | ⟨kvs, hp, hsc, rfl⟩
 ·cases r1
  obtain ⟨as, hR⟩ := Dp.reads I d _ _ hd (show RelV (.ref p) (.ref p) from rfl)
  exact repr_of_reads' hR hs (fun z => by rw [dp_nodict hd] at z; cases z) hr.gd hu (fun _ _ z => z) (fun h' u tk hk => ⟨.str _, H, I.kept (t' := tk) hk, ⟨u, rfl⟩, q⟩) hsz
 ·cases r1
  obtain ⟨_, y, vs, rk, o, es, ep, e, ex, hdat, _, pr, _⟩ := I.hok p _ hp
  obtain ⟨i1, i2⟩ := pairs_reads (h := s.heap) pr rk hsc
  have hR : Reads s.heap (.ref p) (kvD kvs) (p :: [] ++ []) := .dict e ex.1 hdat i1 i2
  refine repr_of_reads' hR hs (fun _ z => ?_) hr.gd hu (fun _ _ z => z) (fun h' u tk hk => ⟨.str _, H, I.kept (t' := tk) hk, ⟨u, rfl⟩, q⟩) hsz
  have z1 : sysModules = p := by simpa using z
  rw [← z1] at y
  simp at y
def uReprG (K : PySem.W.Frag) : List V → Hp → VK → Prop := fun xs H Q => uRepr xs H Q ∨ rReprD K xs H Q
theorem callu_reprG (hr : RoomG k X.A) : CallR X (.builtin "repr") (uReprG X.K) := callu_repr.or (call_reprD hr)
end
section
variable {K : PySem.W.Frag} {H : Hp} {Q : VK} {x : V}
theorem g_reprS (h : shortV x) (q : Q (.str (shownV x)) H) : uReprG K [x] H Q := .inl ⟨x, rfl, h, q⟩
theorem g_dget {td ty : TE} {σ : L2.St} (q : td σ H fun x H1 => ty σ H1 fun y H2 => ∃ a v, x = .ref a ∧ DGet H2 a y (some v) ∧ Q v H2) : tDGet td ty σ H Q := q
theorem g_dgetS {A : V → Prop} {p : Addr} {kvs : List (Key × V)} {z : Str} {v : V} (h : H p = some (.dK kvs)) (e : valV kvs (Sum.inr z) = some v) (q : A v) : ∃ a w, V.ref p = .ref a ∧ DGet H a (.str z) (some w) ∧ A w := by
 have g := DGet.k (k := (Sum.inr z : Key)) h
 rw [e] at g
 exact ⟨p, v, rfl, g, q⟩
theorem g_dnewK {σ : L2.St} (q : ∀ p, H p = none → Q (.ref p) (upd H p (.dK []))) : tDNewK σ H Q := q
end
end SL
namespace SL
open PySem PySem.Spec PyProof.Rows L2
section
variable {X : Cx} {K : PySem.W.Frag}
theorem kOp {r : PySem.W.Frag → R2} {f : Value → Value → Sem Value} (e : X.K = K) (h : OpR X f (r X.K)) : OpR X f (r K) := e ▸ h
theorem kIx {r : PySem.W.Frag → R2} (e : X.K = K) (h : IxR X (r X.K)) : IxR X (r K) := e ▸ h
theorem kSl {r : PySem.W.Frag → V → Option Int → Option Int → Hp → VK → Prop} (e : X.K = K) (h : SlR X (r X.K)) : SlR X (r K) := e ▸ h
theorem kCall {r : PySem.W.Frag → List V → Hp → VK → Prop} {f : Value} (e : X.K = K) (h : CallR X f (r X.K)) : CallR X f (r K) := e ▸ h
theorem kMt {r : PySem.W.Frag → V → List V → Hp → VK → Prop} {id : String} (e : X.K = K) (h : MtR X id (r X.K)) : MtR X id (r K) := e ▸ h
variable {a b : Expr} {rest es : List Expr} {ta tb te : TE} {tgs : TGs} {pos : Pos} {tg : Expr} {n k : Nat}
theorem pe_andTK (e : X.K = K) (ha : PE X a ta) (hb : PE X (.BoolOp .And (b :: rest) pos) tb) : PE X (.BoolOp .And (a :: b :: rest) pos) (tAndT K ta tb) := by subst e; exact pe_andT ha hb
theorem pi_listK (e : X.K = K) (h : PE X a ta) : PI X tg a (iList K ta) := by subst e; exact pi_list h
theorem pi_tupK (e : X.K = K) (h : PE X a ta) : PI X tg a (iTup K ta) := by subst e; exact pi_tup h
theorem pg_tupK (e : X.K = K) (hc : X.calm = true) (h : PGs X es tgs) (hn : (assignEach es X.env).length = n := by rfl) (hst : (assignEach es X.env).findIdx? (·.1) = none := by rfl) : PG X (.Tuple es k pos) (gTup K n tgs) := by subst e; exact pg_tup hc h hn hst
end
end SL
namespace SL
open PySem PySem.Spec PyProof.Rows L2
def uTuple (K : PySem.W.Frag) : List V → Hp → VK → Prop := fun xs H Q => ∃ p ys, xs = [.ref p] ∧ ((SqL K H p ys ∧ ∀ l, H l = none → Q (.ref l) (upd H l (.tup ys))) ∨ (SqT K H p ys ∧ Q (.ref p) H))
theorem callu_tuple {X : Cx} : CallR X (.type "tuple") (uTuple X.K) := call_tuple_of
section
variable {K : PySem.W.Frag} {H : Hp} {Q : VK}
theorem g_tupleL {p : Addr} {ys : List V} (h : SqL K H p ys) (q : ∀ l, H l = none → Q (.ref l) (upd H l (.tup ys))) : uTuple K [.ref p] H Q := ⟨p, ys, rfl, .inl ⟨h, q⟩⟩
end
end SL
namespace SL
open PySem PySem.Spec PyProof.Rows L2
section
variable {X : Cx} {K : PySem.W.Frag} {ex : Expr} {T : String} {rb : V → List V → Hp → VK → Prop} {to : TE} {tl : TA} {σ : L2.St} {H : Hp} {Q : VK}
theorem kBM (e : X.K = K) (h : PE X ex (tBM X.K T rb to tl)) : PE X ex (tBM K T rb to tl) := e ▸ h
theorem g_bm (q : to σ H fun x H1 => tyV K T x H1 ∧ tl σ H1 fun xs H2 => rb x xs H2 Q) : tBM K T rb to tl σ H Q := q
theorem g_bm0 (q : to σ H fun x H1 => tyV K T x H1 ∧ rb x [] H1 Q) : tBM0 K T rb to σ H Q := q
theorem g_tyS {A : Prop} {z : Str} (q : A) : tyV K "str" (.str z) H ∧ A := ⟨rfl, q⟩
theorem g_tyL {A : Prop} {p : Addr} {xs : List V} (h : SqL K H p xs) (q : A) : tyV K "list" (.ref p) H ∧ A := ⟨.inl ⟨rfl, xs, h⟩, q⟩
end
end SL
namespace SL
open PySem PySem.Spec PyProof.Rows L2
theorem valV_out {κ : Type} [DecidableEq κ] {k : κ} : ∀ {kvs : List (κ × V)}, k ∉ kvs.map (·.1) → valV kvs k = none
 | [], _ => rfl
 | p :: r, h => by
  rw [valV_neg fun e => h (by rw [← e]; exact List.mem_cons_self)]
  exact valV_out fun z => h (List.mem_cons_of_mem _ z)
theorem mergeK_nd : ∀ {kvs acc : List (Key × V)}, ((acc ++ kvs).map (·.1)).Nodup → mergeK acc kvs = acc ++ kvs
 | [], acc, _ => (List.append_nil acc).symm
 | p :: r, acc, h => by
  have h1 : p.1 ∉ acc.map (·.1) := fun z => by
   rw [List.map_append, List.nodup_append] at h
   exact h.2.2 p.1 z p.1 (List.mem_cons_self ..) rfl
  show mergeK (putK acc p.1 p.2) r = acc ++ p :: r
  rw [putK_new _ (valV_out h1)]
  have e : acc ++ p :: r = (acc ++ [(p.1, p.2)]) ++ r := by simp
  rw [e] at h ⊢
  exact mergeK_nd h
section
variable {K : PySem.W.Frag} {σ : L2.St} {H : Hp} {Q : VK} {tk tv : TE} {trs : List (TE × TE)} {A : List (V × V) → Hp → Prop}
theorem g_disp (q : ∀ p, H p = none → tPairs trs σ (upd H p (.dK [])) fun ps H2 => H2 p = some (.dK []) ∧ ∃ kvs : List (Key × V), ps = kvs.map (fun kv => (kV kv.1, kv.2)) ∧ kvs.length ≤ 15 ∧ Q (.ref p) (upd H2 p (.dK (mergeK [] kvs)))) : tDisp trs σ H Q := q
theorem g_pairs (q : tk σ H fun x H1 => tv σ H1 fun y H2 => tPairs trs σ H2 fun ps H3 => A ((x, y) :: ps) H3) : tPairs ((tk, tv) :: trs) σ H A := q
theorem g_pairs0 (q : A [] H) : tPairs [] σ H A := q
end
end SL
set_option Elab.async false
set_option linter.all false
set_option maxRecDepth 100000
set_option maxHeartbeats 2000000
namespace SL
open PySem PySem.Spec PyProof.Rows L2
section
variable {P : Program} {w : World} {K : PySem.W.Frag} {mg : Str → Option Value} {base : Heap} {f : Addr} {fd : FuncData} {ps : List Str} {x : Str} {sp : Nat → Sp}
theorem calG_rec (b : Nat) (z : ∀ vs H Q E, ¬ sp 0 vs H Q E) (m : mg x = some (.ref f)) (kp : PySem.W.keepIn K (.ref f) = true) (bb : Binds K fd ps [])
  (st : ∀ n, CalG P w K mg base (b + n) x (sp n) → FnG P w K mg base CX0 (b + n + 1) f fd ps (sp (n + 1))) : ∀ n, CalG P w K mg base (b + n) x (sp n)
 | 0 => calG_of ⟨fun vs H Q E h => absurd h (z _ _ _ _), fun _ _ _ _ _ _ _ _ _ _ _ _ _ h => absurd h (z _ _ _ _)⟩ m kp bb
 | n + 1 => calG_of (st n (calG_rec b z m kp bb st n)) m kp bb
theorem calG_rec0 (z : ∀ vs H Q E, ¬ sp 0 vs H Q E) (m : mg x = some (.ref f)) (kp : PySem.W.keepIn K (.ref f) = true) (bb : Binds K fd ps [])
  (st : ∀ n, CalG P w K mg base n x (sp n) → FnG P w K mg base CX0 (n + 1) f fd ps (sp (n + 1))) : ∀ n, CalG P w K mg base n x (sp n)
 | 0 => calG_of ⟨fun vs H Q E h => absurd h (z _ _ _ _), fun _ _ _ _ _ _ _ _ _ _ _ _ _ h => absurd h (z _ _ _ _)⟩ m kp bb
 | n + 1 => calG_of (st n (calG_rec0 z m kp bb st n)) m kp bb
end
end SL
set_option Elab.async false
set_option linter.all false
set_option maxRecDepth 100000
set_option maxHeartbeats 2000000
namespace SL
open PySem PySem.Spec PyProof.Rows L2
section
variable {X : Cx} {K : PySem.W.Frag} {σ : L2.St} {H : Hp} {Q : VK} {x y : V}
def tFs (ts : List TE) : TE := fun σ H Q => tJs ts Str.empty σ H fun out H1 => Q (.str out) H1
theorem pe_fs {v1 v2 : Expr} {rest : List Expr} {ts : List TE} {pos : Pos} (h : PJ X (v1 :: v2 :: rest) ts) : PE X (.JoinedStr (v1 :: v2 :: rest) pos) (tFs ts) := pe_joined h
theorem g_fs {ts : List TE} (q : tJs ts Str.empty σ H fun out H1 => Q (.str out) H1) : tFs ts σ H Q := q
theorem g_js0 {acc : Str} {A : Str → Hp → Prop} (q : A acc H) : tJs [] acc σ H A := q
theorem g_js {t : TE} {ts : List TE} {acc : Str} {A : Str → Hp → Prop} (q : t σ H fun x H1 => ∃ y : Str, x = .str y ∧ (acc ++ y).length ≤ sizeLine ∧ tJs ts (acc ++ y) σ H1 A) : tJs (t :: ts) acc σ H A := q
theorem g_fmt {te : TE} (q : te σ H fun x H1 => (∃ y : Str, x = .str y ∧ y.length ≤ sizeLine ∧ Q (.str y) H1) ∨ ∃ i : Int, x = .int i ∧ i.natAbs.log2 < 1920 ∧ Q (.str (toString i)) H1) : tFmt te σ H Q := q
theorem g_fmtS {z : Str} {A : Str → Prop} {B : Prop} (h : z.length ≤ sizeLine) (q : A z) : (∃ y : Str, V.str z = .str y ∧ y.length ≤ sizeLine ∧ A y) ∨ B := .inl ⟨z, rfl, h, q⟩
theorem g_jsS {z acc : Str} {A : Str → Prop} (h : (acc ++ z).length ≤ sizeLine) (q : A z) : ∃ y : Str, V.str z = .str y ∧ (acc ++ y).length ≤ sizeLine ∧ A y := ⟨z, rfl, h, q⟩
theorem app_len {a b : Str} : (a ++ b).length = a.length + b.length := Array.size_append
theorem lit_q : ("'" : Str).length = 1 := by decide +kernel
theorem lit_lp : ("(" : Str).length = 1 := by decide +kernel
theorem lit_rp : (")" : Str).length = 1 := by decide +kernel
theorem lit_sp : (" " : Str).length = 1 := by decide +kernel
theorem lit_cs : (", " : Str).length = 2 := by decide +kernel
theorem lit_not : ("not " : Str).length = 4 := by decide +kernel
theorem lit_is : (" is " : Str).length = 4 := by decide +kernel
theorem lit_if : (" if " : Str).length = 4 := by decide +kernel
theorem lit_e : Str.empty.length = 0 := by decide +kernel
theorem lit_dot : ("." : Str).length = 1 := by decide +kernel
def rJoin (K : PySem.W.Frag) : V → List V → Hp → VK → Prop := fun x xs H Q => ∃ a p, ∃ ys : List Str, x = .str a ∧ xs = [.ref p] ∧ (SqL K H p (ys.map V.str) ∨ SqT K H p (ys.map V.str)) ∧
 (ys.map (·.length)).sum + ys.length * a.length ≤ 16777216 ∧ Q (.str (Txt.join a ys)) H
theorem mt_joinU : MtR X "str.join" (rJoin X.K) := mt_join
def uStr : List V → Hp → VK → Prop := fun xs H Q => (∃ i, xs = [.int i] ∧ i.natAbs.log2 < 1920 ∧ Q (.str (toString i)) H) ∨ ∃ a, xs = [.str a] ∧ Q (.str a) H
theorem callu_str : CallR X (.type "str") uStr := call_str_int.or SkE.call_str_str
def uInt : List V → Hp → VK → Prop := fun xs H Q => (∃ i, xs = [.int i] ∧ Q (.int i) H) ∨ ∃ k, xs = [.bl k] ∧ Q (.int (if k then 1 else 0)) H
theorem callu_int : CallR X (.type "int") uInt := call_int1
theorem g_strI {i : Int} (h : i.natAbs.log2 < 1920) (q : Q (.str (toString i)) H) : uStr [.int i] H Q := .inl ⟨i, rfl, h, q⟩
theorem g_intB {k : Bool} (q : Q (.int (if k then 1 else 0)) H) : uInt [.bl k] H Q := .inr ⟨k, rfl, q⟩
def uIs : R2 := fun x y H Q => y = .non ∧ Q (.bl (decide (x = .non))) H
def uIsNot : R2 := fun x y H Q => y = .non ∧ Q (.bl (!decide (x = .non))) H
theorem opu_is : OpR X (compareOp .Is) uIs := op_isN
theorem g_is (q : Q (.bl (decide (x = .non))) H) : uIs x .non H Q := ⟨rfl, q⟩
theorem g_isNot (q : Q (.bl (!decide (x = .non))) H) : uIsNot x .non H Q := ⟨rfl, q⟩
theorem g_slS {z : Str} {lo hi : Option Int} (h : z.length ≤ sizeLine) (q : Q (.str (cutS z lo hi)) H) : rSlS (.str z) lo hi H Q := ⟨z, rfl, h, q⟩
theorem g_notInS {a b : Str} (q : Q (.bl (!(!(Builtin.Str.occurrences b a 0 b.length 1).isEmpty))) H) : uNotIn K (.str a) (.str b) H Q := q
theorem g_inT {z : Str} {p : Addr} {xs : List V} (h : SqL K H p xs ∨ SqT K H p xs) (h2 : xs.all flatV = true) (q : Q (.bl (inV (.str z) xs)) H) : uIn K (.str z) (.ref p) H Q := ⟨p, xs, rfl, h, rfl, h2, q⟩
theorem inV_str (z : Str) (ws : List Str) : inV (.str z) (ws.map V.str) = decide (z ∈ ws) := by
 induction ws with
 | nil => rfl
 | cons w r ih =>
  unfold inV at ih ⊢
  rw [List.map_cons, List.any_cons, ih]
  by_cases h : z = w
  ·subst h
   simp [eqV]
  ·have : decide (V.str z = V.str w) = false := decide_eq_false fun e => h (V.str.inj e)
   simp [eqV, h, Ne.symm h]
theorem flat_strs (ws : List Str) : (ws.map V.str).all flatV = true := by
 induction ws with
 | nil => rfl
 | cons w r ih => rw [List.map_cons, List.all_cons, ih]; rfl
theorem g_dget2 {td ty tx : TE} (q : td σ H fun x H1 => ∃ a, x = .ref a ∧ IsD H1 a ∧ ty σ H1 fun y H2 => tx σ H2 fun z H3 => ∃ o, DGet H3 a y o ∧ Q (o.getD z) H3) : tDGet2 td ty tx σ H Q := q
end
def WD (K : PySem.W.Frag) (w : World) (a : Addr) (kvs : List (Str × Option V)) : Prop := (∃ es n, KDict K w a es n) ∧ ∀ p ∈ kvs, ∃ r, PySem.W.nsIn K a p.1 = some r ∧ RelO p.2 r
def tKGet2 (K : PySem.W.Frag) (w : World) (td ty tx : TE) : TE := fun σ H Q => td σ H fun x H1 => ∃ a kvs, x = .ref a ∧ WD K w a kvs ∧ ty σ H1 fun y H2 => tx σ H2 fun z H3 => ∃ k o, y = .str k ∧ (k, o) ∈ kvs ∧ Q (o.getD z) H3
def rIxW (K : PySem.W.Frag) (w : World) : R2 := fun x y H Q => ∃ a kvs k v, x = .ref a ∧ y = .str k ∧ WD K w a kvs ∧ (k, some v) ∈ kvs ∧ Q v H
section
variable {X : Cx} {o e f : Expr} {apos cpos : Pos} {td ty tx : TE}
theorem wd_none {h : Heap} {K : PySem.W.Frag} {w : World} {P : Program} {a : Addr} {es : Array DictEntry} {n : Nat} (X : K.In h) (D : KDict K w a es n) : ∃ ob, h.get? a = some ob ∧ ob.dict = none := ⟨_, X _ _ D.at_, rfl⟩
theorem pe_kget2 (ho : PE X o td) (he : PE X e ty) (hf : PE X f tx) (m : M2 X o "get" apos e f cpos) : PE X (.Call (.Attribute o "get" apos) [e, f] [] cpos) (tKGet2 X.K X.w td ty tx) := by
 refine ⟨fun pins s σ H Q I h => ?_⟩
 refine wpAny_Call_method m.base m.few m.line PySem.F.plainAttrs_dict PySem.F.slot_dict_get PySem.F.type_dict_get (thn (ho.run pins s σ H _ I h) fun u s1 ⟨x, H1, I1, rx, a, kvs, ex, wd, q1⟩ => ?_)
 subst ex
 obtain rfl : u = Value.ref a := rx
 obtain ⟨⟨es, n, D⟩, hv⟩ := wd
 refine ⟨kd_type D I1, fun b q => ?_, ?_⟩
 ·cases q
  exact wd_none (P := X.prog) I1.kIn D
 rw [m.trees]
 refine Calls.callWith_builtin rfl (Calls.evalArgs_plain (Calls.spliced_cons (thn (he.run pins s1 σ H1 _ I1 q1) fun iv s2 ⟨y, H2, I2, ry, q2⟩ =>
  Calls.spliced_cons (thn (hf.run pins s2 σ H2 _ I2 q2) fun fv s3 ⟨z, H3, I3, rz, k, ov, ey, hm, q3⟩ => Calls.spliced_nil ?_))))
 subst ey
 obtain ⟨t, rfl⟩ := (show ∃ t, iv = Value.str k t from ry)
 obtain ⟨r, e1, e2⟩ := hv _ hm
 refine call_meetsIn PySem.F.slot_dict_get (kd_type D I3) PySem.F.entry_dict_get (PySem.F.args_dict_get_3 _ _ _) (meets_dict_get_default (strKind X.prog X.w) a (strKind_is X.prog X.w k t) D.low fv) ⟨_, PySem.W.mapOf_K (prog := X.prog) I3.kIn D.at_ D.lit, ?_⟩
 refine ⟨ov.getD z, H3, I3.tok _, ?_, q3⟩
 rw [PySem.W.find_K D.at_ e1]
 cases ov with
 | none =>
  cases e2.none_of
  exact rz
 | some v =>
  obtain ⟨u, eu, ru⟩ := e2.some_of
  rw [eu]
  exact ru
theorem ix_wd : IxR X (rIxW X.K X.w) := by
 intro value slice pins s σ H x y v u Q I rx ry h hs
 obtain ⟨p, kvs, z, r, ex, ey, ⟨⟨es, n, D⟩, hv⟩, hm, q⟩ := h
 obtain ⟨r', e1, e2⟩ := hv _ hm
 obtain ⟨u0, eu, ru⟩ := e2.some_of
 rw [eu] at e1
 exact ix_kdict value slice pins s σ H x y v u Q I rx ry ⟨p, z, r, ex, ey, ⟨es, n, u0, D.at_, D.lit, e1, ru⟩, q⟩ hs
end
theorem kIxW {X : Cx} {K : PySem.W.Frag} {w : World} (e : X.K = K) (e2 : X.w = w) (h : IxR X (rIxW X.K X.w)) : IxR X (rIxW K w) := by subst e e2; exact h
section
variable {K : PySem.W.Frag} {w : World} {H : Hp} {Q : VK} {σ : L2.St}
theorem g_kget2 {td ty tx : TE} (q : td σ H fun x H1 => ∃ a kvs, x = .ref a ∧ WD K w a kvs ∧ ty σ H1 fun y H2 => tx σ H2 fun z H3 => ∃ k o, y = .str k ∧ (k, o) ∈ kvs ∧ Q (o.getD z) H3) : tKGet2 K w td ty tx σ H Q := q
theorem g_ixW {a : Addr} {kvs : List (Str × Option V)} {k : Str} {v : V} (h : WD K w a kvs) (hm : (k, some v) ∈ kvs) (q : Q v H) : rIxW K w (.ref a) (.str k) H Q := ⟨a, kvs, k, v, rfl, rfl, h, hm, q⟩
end
def wdB (K : PySem.W.Frag) (a : Addr) (kvs : List (Str × Option He.Dv)) : Bool := kvs.all fun q => match PySem.W.nsIn K a q.1 with
 | some (some u) => (match q.2 with
  | some v => He.relB (v.v K) u
  | none => false)
 | some none => q.2.isNone
 | none => false
theorem wd_of {K : PySem.W.Frag} {w : World} {a : Addr} {kvs : List (Str × Option He.Dv)} {es : Array DictEntry} {n : Nat} (D : KDict K w a es n) (h : wdB K a kvs = true) : WD K w a (kvs.map fun q => (q.1, q.2.map (He.Dv.v K))) := by
 refine ⟨⟨es, n, D⟩, fun p hp => ?_⟩
 obtain ⟨q, hq, rfl⟩ := List.mem_map.mp hp
 have h2 := List.all_eq_true.mp h q hq
 cases e : PySem.W.nsIn K a q.1 with
 | none => rw [e] at h2; cases h2
 | some r =>
  rw [e] at h2
  refine ⟨r, rfl, ?_⟩
  obtain ⟨qk, qo⟩ := q
  cases r with
  | none =>
   cases qo with
   | none => trivial
   | some v => cases h2
  | some u =>
   cases qo with
   | none => cases h2
   | some v => exact He.relB_ok h2
end SL
set_option Elab.async false
set_option linter.all false
set_option maxRecDepth 100000
set_option maxHeartbeats 2000000
namespace SL
open PySem PySem.Spec PyProof.Rows L2
theorem lc_map {J : It} {n : Nat} {G : Hp → Prop} {xs ys : List V} (w : Walk J n G (YAt xs)) {g : TG} {te : TE} {vs : List Nat} {σ : L2.St} {H1 : Hp} {D : Addr} {Qd : Hp → Prop} (hG : ∀ H', Fr [] H1 H' → G H') (hn : xs.length = n) (hy : ys.length = n) (hz : n ≤ 10000) (hD : H1 D = none)
  (body : ∀ (i : Nat) (x y : V) (H' : Hp) (A : V → Hp → Prop), xs[i]? = some x → ys[i]? = some y → Fr [] H1 H' → (∀ H4, Fr [] H' H4 → A y H4) → g x (wipe σ vs) H' fun σ2 H2 => wipe σ2 vs = wipe σ vs ∧ te σ2 H2 A)
  (fin : ∀ H', Fr [] H1 H' → H' D = some (.lst ys) → Qd H') :
  ∃ W : Nat → Nat → Hp → Prop, (∃ m, W 0 m (upd H1 D (.lst []))) ∧ ∀ i m H, W i m H →
   (J.stop i H ∧ Qd H) ∨ (J.go i H ∧ ∃ Nx : Hp → Prop, (∀ H', Nx H' → ∃ m', m' < m ∧ W (i + 1) m' H') ∧ ∀ x H', J.yld i H x H' → g x (wipe σ vs) H' fun σ2 H2 => wipe σ2 vs = wipe σ vs ∧ tYes σ2 H2 fun b H3 =>
    if b = true then te σ2 H3 fun y H4 => ∃ acc, H4 D = some (.lst acc) ∧ acc.length < sizeLine ∧ Nx (upd H4 D (.lst (acc ++ [y]))) else Nx H3) := by
 subst hn
 refine lc_it w (fun i H' => Fr [] H1 H' ∧ H' D = some (.lst (ys.take i))) ⟨Fr.new hD, by rw [List.take_zero]; exact upd_same⟩ (fun i H' _ h => hG H' h.1) (fun i x H' H'' hi h y => ?_) (fun H' h => ?_)
 ·obtain ⟨rfl, hx⟩ := y
  obtain ⟨h1, h2⟩ := h
  have hi2 : i < ys.length := by omega
  exact body i x ys[i] H'' _ hx (List.getElem?_eq_getElem hi2) h1 fun H4 e4 => ⟨_, e4.at h2 (fun z => nomatch z), lt_of (by rw [List.length_take]; omega), (h1.trans e4).over hD, by rw [upd_same, List.take_succ, List.getElem?_eq_getElem hi2]; rfl⟩
 ·exact fin H' h.1 (by rw [h.2, ← hy, List.take_length])
theorem tls_get {α : Type} {f : α → Str} {xs : List α} {i : Nat} {x : α} (h : xs[i]? = some x) : ((xs.map f).map V.str)[i]? = some (.str (f x)) := by
 rw [List.getElem?_map, List.getElem?_map, h]
 rfl
theorem tda_get {α : Type} {K : PySem.W.Frag} {H : Hp} {f : α → PyData} : ∀ {xs : List α} {vs : List V}, TdAll K H vs (xs.map f) → vs.length = xs.length ∧ ∀ (i : Nat) (v : V), vs[i]? = some v → ∃ x, xs[i]? = some x ∧ Td K H v (f x)
 | [], vs, h => by cases h.nil_inv; exact ⟨rfl, fun i x e => by simp at e⟩
 | y :: r, vs, h => by
  obtain ⟨v, ws, rfl, h1, h2⟩ := TdAll.cons_inv (show TdAll K H vs (f y :: r.map f) from h)
  obtain ⟨k1, k2⟩ := tda_get h2
  refine ⟨by simp [k1], fun i x e => ?_⟩
  cases i with
  | zero =>
   simp only [List.getElem?_cons_zero, Option.some.injEq] at e
   subst e
   exact ⟨y, rfl, h1⟩
  | succ j =>
   simp only [List.getElem?_cons_succ] at e
   exact k2 j x e
theorem tda_mk {α : Type} {K : PySem.W.Frag} {H : Hp} {f : α → PyData} : ∀ {xs : List α} {vs : List V}, vs.length = xs.length → (∀ (i : Nat) (x : α) (v : V), xs[i]? = some x → vs[i]? = some v → Td K H v (f x)) → TdAll K H vs (xs.map f)
 | [], [], _, _ => .nil
 | [], _ :: _, h, _ => by cases h
 | _ :: _, [], h, _ => by cases h
 | x :: r, v :: ws, h, k => .cons (k 0 x v rfl rfl) (tda_mk (Nat.succ.inj h) fun i y u e1 e2 => k (i + 1) y u e1 e2)
theorem lc_td {α : Type} {f : α → PyData} {T : α → Str} {as : List α} {K : PySem.W.Frag} {J : It} {n : Nat} {G : Hp → Prop} {xs : List V} (w : Walk J n G (YAt xs)) {g : TG} {te : TE} {vs : List Nat} {σ : L2.St} {H1 : Hp} {D : Addr} {Qd : Hp → Prop} (hG : ∀ H', Fr [] H1 H' → G H') (hn : xs.length = n)
  (hx : TdAll K H1 xs (as.map f)) (hz : as.length ≤ 10000) (hD : H1 D = none)
  (body : ∀ (x : V) (c : α) (H' : Hp) (A : V → Hp → Prop), c ∈ as → Td K H' x (f c) → Fr [] H1 H' → (∀ H4, Fr [] H' H4 → A (.str (T c)) H4) → g x (wipe σ vs) H' fun σ2 H2 => wipe σ2 vs = wipe σ vs ∧ te σ2 H2 A)
  (fin : ∀ H', Fr [] H1 H' → H' D = some (.lst ((as.map T).map V.str)) → Qd H') :
  ∃ W : Nat → Nat → Hp → Prop, (∃ m, W 0 m (upd H1 D (.lst []))) ∧ ∀ i m H, W i m H →
   (J.stop i H ∧ Qd H) ∨ (J.go i H ∧ ∃ Nx : Hp → Prop, (∀ H', Nx H' → ∃ m', m' < m ∧ W (i + 1) m' H') ∧ ∀ x H', J.yld i H x H' → g x (wipe σ vs) H' fun σ2 H2 => wipe σ2 vs = wipe σ vs ∧ tYes σ2 H2 fun b H3 =>
    if b = true then te σ2 H3 fun y H4 => ∃ acc, H4 D = some (.lst acc) ∧ acc.length < sizeLine ∧ Nx (upd H4 D (.lst (acc ++ [y]))) else Nx H3) := by
 obtain ⟨k1, k2⟩ := tda_get hx
 refine lc_map w hG hn (by rw [List.length_map, List.length_map]; omega) (by omega) hD (fun i x y H' A ex ey e k => ?_) fin
 obtain ⟨c, hc, hd⟩ := k2 i x ex
 rw [tls_get hc] at ey
 cases ey
 exact body x c H' A (List.mem_of_getElem? hc) (hd.fr e) e k
theorem sum_len {ts : List Str} {n : Nat} (h : ∀ t ∈ ts, t.length ≤ n) : (ts.map (·.length)).sum ≤ ts.length * n := by
 induction ts with
 | nil => simp
 | cons t r ih =>
  have h1 := h t List.mem_cons_self
  have h2 := ih fun x hx => h x (List.mem_cons_of_mem _ hx)
  simp only [List.map_cons, List.sum_cons, List.length_cons, Nat.succ_mul]
  omega
section
variable {P : Program} {w : World} {K : PySem.W.Frag} {mg : Str → Option Value} {base : Heap} {f : Addr} {fd : FuncData} {ps : List Str} {x : Str} {sp : Nat → Sp}
theorem calG_rec2 (b : Nat) (z : ∀ vs H Q E, ¬ sp 0 vs H Q E) (m : mg x = some (.ref f)) (kp : PySem.W.keepIn K (.ref f) = true) (bb : Binds K fd ps [])
  (st : ∀ n, CalG P w K mg base (b + 2 * n) x (sp n) → FnG P w K mg base CX0 (b + 2 * n + 2) f fd ps (sp (n + 1))) : ∀ n, CalG P w K mg base (b + 2 * n) x (sp n)
 | 0 => calG_of ⟨fun vs H Q E h => absurd h (z _ _ _ _), fun _ _ _ _ _ _ _ _ _ _ _ _ _ h => absurd h (z _ _ _ _)⟩ m kp bb
 | n + 1 => calG_of (st n (calG_rec2 b z m kp bb st n)) m kp bb
end
section
variable {K : PySem.W.Frag} {σ : L2.St} {H : Hp} {D : Ends} {Q : VK}
theorem g_dput {td ty tv : TE} (q : tv σ H fun v H1 => td σ H1 fun x H2 => ty σ H2 fun y H3 => ∃ a H4, x = .ref a ∧ DPut H3 a y v H4 ∧ D.nx σ H4) : sDPut td ty tv D σ H := q
theorem g_dputS {p : Addr} {kvs : List (Key × V)} {z : Str} {v : V} {A : Hp → Prop} (h : H p = some (.dK kvs)) (hl : kvs.length ≤ 1000) (q : A (upd H p (.dK (putK kvs (Sum.inr z) v)))) : ∃ a H4, V.ref p = .ref a ∧ DPut H a (.str z) v H4 ∧ A H4 :=
 ⟨p, _, rfl, DPut.k (k := (Sum.inr z : Key)) h (lt_of (by omega)), q⟩
end
theorem putK_mem {kvs : List (Key × V)} {k : Key} {v : V} {p : Key × V} (h : p ∈ putK kvs k v) : p ∈ kvs ∨ p = (k, v) := by
 unfold putK at h
 split at h
 ·obtain ⟨c, hc, rfl⟩ := List.mem_map.mp h
  split
  ·rename_i e
   exact .inr (by rw [e])
  ·exact .inl hc
 ·rcases List.mem_append.mp h with h | h
  ·exact .inl h
  ·exact .inr (List.mem_singleton.mp h)
theorem putK_len {kvs : List (Key × V)} {k : Key} {v : V} : (putK kvs k v).length ≤ kvs.length + 1 := by
 unfold putK
 split
 ·rw [List.length_map]; omega
 ·rw [List.length_append]; exact Nat.le_refl _
theorem putK_ne {kvs : List (Key × V)} {k : Key} {v : V} : putK kvs k v ≠ [] := by
 unfold putK
 split
 ·rename_i e
  intro h
  rw [List.map_eq_nil_iff] at h
  rw [h] at e
  cases e
 ·intro h
  cases List.append_eq_nil_iff.mp h with
  | intro _ h => cases h
theorem mergeK_mem {kvs : List (Key × V)} : ∀ {acc : List (Key × V)} {p : Key × V}, p ∈ mergeK acc kvs → p ∈ acc ∨ p ∈ kvs := by
 induction kvs with
 | nil => exact fun h => .inl h
 | cons c r ih =>
  intro acc p h
  rcases ih (show p ∈ mergeK (putK acc c.1 c.2) r from h) with h | h
  ·rcases putK_mem h with h | h
   ·exact .inl h
   ·exact .inr (by rw [h]; exact List.mem_cons_self)
  ·exact .inr (List.mem_cons_of_mem _ h)
theorem mergeK_len {kvs : List (Key × V)} : ∀ {acc : List (Key × V)}, (mergeK acc kvs).length ≤ acc.length + kvs.length := by
 induction kvs with
 | nil => exact fun {acc} => Nat.le_refl _
 | cons c r ih =>
  intro acc
  have h := ih (acc := putK acc c.1 c.2)
  have h2 := putK_len (kvs := acc) (k := c.1) (v := c.2)
  show (mergeK (putK acc c.1 c.2) r).length ≤ acc.length + (r.length + 1)
  omega
section
variable {D : Ends} {σ : L2.St} {H : Hp}
theorem g_cutS {ts tu : TS} (Pv : L2.St → Hp → Prop) (h1 : ∀ σ' H', Pv σ' H' → tu D σ' H') (h2 : ∀ N : L2.St → Hp → Prop, (∀ σ' H', Pv σ' H' → N σ' H') → ts { D with nx := N } σ H) : tSeq ts tu D σ H := h2 (tu D) h1
theorem g_seqIf (t : TT) (a b u : TS) (D : Ends) (σ : L2.St) (H : Hp) : tSeq (tIfS t a b) u D σ H → tSeq (tIfS t a b) u D σ H := id
end
theorem g_slA {K : PySem.W.Frag} {H : Hp} {Q : VK} {p : Addr} {xs : List V} {lo hi : Option Int} (h : SqT K H p xs) (q : ∀ (r : Addr) (H' : Hp), Fr [] H H' → SqT K H' r (cutV xs lo hi) → Q (.ref r) H') : rSlA K (.ref p) lo hi H Q := by
 refine ⟨p, xs, rfl, h, fun w => q p H Fr.refl ?_, fun _ r hr => q r _ (Fr.new hr) (SqT.of upd_same)⟩
 have e : cutV xs lo hi = xs := by
  unfold cutV
  rw [w.1, w.2, List.drop_zero, Nat.sub_zero, List.take_length]
 rw [e]
 exact h
def spTx {α : Type} (K : PySem.W.Frag) (d : α → PyData) (G : α → Prop) (T : α → Str) : Sp := fun vs H Q _ => ∃ v a, vs = [v] ∧ Td K H v (d a) ∧ G a ∧ ∀ H', Fr [] H H' → Q (.str (T a)) H'
end SL
set_option Elab.async false
set_option linter.all false
set_option maxRecDepth 100000
set_option maxHeartbeats 2000000
namespace SL
open PySem PySem.Spec PyProof.Rows L2
section
variable {σ : L2.St} {H : Hp} {Q : VK} {D : Ends}
theorem g_listRg {te : TE} (q : tRg1 te σ H fun a b H1 => RgOk a b ∧ ∀ q, H1 q = none → Q (.ref q) (upd H1 q (.lst (rgV a b)))) : tLstRg (tRg1 te) σ H Q := q
theorem g_rg1 {ta : TE} {A : Int → Int → Hp → Prop} (q : ta σ H fun x H1 => ∃ n, x = .int n ∧ A 0 n H1) : tRg1 ta σ H A := q
end
abbrev Turns (J : It) (b : (Hp → Prop) → V → Hp → Prop) (H0 : Hp) (Dn : Hp → Prop) : Prop :=
 ∃ W : Nat → Nat → Hp → Prop, (∃ m, W 0 m H0) ∧ ∀ i m H, W i m H → (J.stop i H ∧ Dn H) ∨ (J.go i H ∧ ∃ Nx : Hp → Prop, (∀ H', Nx H' → ∃ m', m' < m ∧ W (i + 1) m' H') ∧ ∀ x H', J.yld i H x H' → b Nx x H')
abbrev inB (g1 : TG) (tt1 : TT) (te : TE) (vs1 : List Nat) (σ : L2.St) (D : Addr) (Nx : Hp → Prop) (x : V) (H' : Hp) : Prop :=
 g1 x (wipe σ vs1) H' fun σ3 H5 => wipe σ3 vs1 = wipe σ vs1 ∧ tt1 σ3 H5 fun b H6 => if b = true then te σ3 H6 fun y H7 => ∃ acc, H7 D = some (.lst acc) ∧ acc.length < sizeLine ∧ Nx (upd H7 D (.lst (acc ++ [y]))) else Nx H6
abbrev outB (g : TG) (tt : TT) (wi1 : TI) (g1 : TG) (tt1 : TT) (te : TE) (vs vs1 : List Nat) (σ : L2.St) (D : Addr) (Nx : Hp → Prop) (x : V) (H' : Hp) : Prop :=
 g x (wipe σ vs) H' fun σ2 H2 => wipe σ2 vs = wipe σ vs ∧ tt σ2 H2 fun b H3 => if b = true then wi1 σ2 H3 fun J1 H4 => Turns J1 (inB g1 tt1 te vs1 σ2 D) H4 Nx else Nx H3
abbrev dictB (g : TG) (tt : TT) (tk tv : TE) (vs : List Nat) (σ : L2.St) (D : Addr) (Nx : Hp → Prop) (x : V) (H' : Hp) : Prop :=
 g x (wipe σ vs) H' fun σ2 H2 => wipe σ2 vs = wipe σ vs ∧ tt σ2 H2 fun b H3 => if b = true then tk σ2 H3 fun y H4 => tv σ2 H4 fun z H5 => ∃ kvs k, y = kV k ∧ H5 D = some (.dK kvs) ∧ kvs.length < sizeLine ∧ Nx (upd H5 D (.dK (putK kvs k z))) else Nx H3
section
variable {J : It} {n : Nat} {G : Hp → Prop} {Y : Nat → Hp → V → Hp → Prop}
end
section
variable {σ : L2.St} {H : Hp} {Q : VK} {wi wi1 : TI} {g g1 : TG} {tt tt1 : TT} {te tk tv : TE} {vs vs1 : List Nat}
theorem g_lc2 (q : wi σ H fun J H1 => ∀ D, H1 D = none → Turns J (outB g tt wi1 g1 tt1 te vs vs1 σ D) (upd H1 D (.lst [])) fun H => Q (.ref D) H) : tLc2 wi g tt wi1 g1 tt1 te vs vs1 σ H Q := q
theorem g_dc (q : wi σ H fun J H1 => ∀ D, H1 D = none → Turns J (dictB g tt tk tv vs σ D) (upd H1 D (.dK [])) fun H => Q (.ref D) H) : tDc wi g tt tk tv vs σ H Q := q
theorem g_din {ty td : TE} (q : ty σ H fun y H1 => td σ H1 fun x H2 => ∃ a o, x = .ref a ∧ DGet H2 a y o ∧ Q (.bl o.isSome) H2) : tDIn ty td σ H Q := q
end
end SL
set_option Elab.async false
set_option linter.all false
set_option maxRecDepth 100000
set_option maxHeartbeats 2000000
namespace SL
open PySem PySem.Spec PyProof.Rows L2
structure EcC (K : PySem.W.Frag) (C : Addr) : Prop where
 oe : OexC K C
 xf : XfC K C
 xc : ExcC K C
structure EcI (K : PySem.W.Frag) (C fI : Addr) : Prop where
 ini : PySem.W.findIn K (.ref C) "__init__" = some (some (.ref fI))
 ty : PySem.W.typeIn K (.ref fI) = some (.type "function")
 ga : PySem.W.specialIn K (.ref C) "__getattribute__" = some (some (.builtin "type.__getattribute__"))
 rd : PySem.W.readsIn K C (.type "type") = true
 fd : PySem.W.findCls K (.ref C) (.type "type") "__init__" = some (.val (.ref fI))
 kp : PySem.W.keepIn K (.ref fI) = true
structure ClG (P : Program) (w : World) (K : PySem.W.Frag) (mg : Str → Option Value) (base : Heap) (k : Nat) (x : Str) (C : Addr) (sp : Sp) : Prop where
 m : mg x = some (.ref C)
 ec : EcC K C
 ex : ∃ (fI : Addr) (fd : FuncData) (ps : List Str), FnG P w K mg base CX0 k fI fd ps sp ∧ EcI K C fI ∧ Binds K fd ps []
section
variable {X : Cx} {k j : Nat} {x : Str} {C : Addr} {sp : Sp} {p p1 p2 pos : Pos} {e : Expr} {es : List Expr} {t ta : TA}
def spMk (C : Addr) (sp : Sp) (vs : List V) (H1 : Hp) (Q : VK) : Prop := vs.length ≤ 1000 ∧ ∀ a, H1 a = none → sp (.ref a :: vs) (upd H1 a (exo a C none)) (fun v H2 => v = .non ∧ Q (.ref a) H2) E0
def tMkE (C : Addr) (sp : Sp) (ta : TA) : TE := fun σ H Q => ta σ H fun vs H1 => spMk C sp vs H1 Q
def tXat (K : PySem.W.Frag) (n : Str) (te : TE) : TE := fun σ H Q => te σ H fun x H1 => ∃ (a C d : Addr) (fs : List (Str × V)) (v : V), x = .ref a ∧ EcC K C ∧ PySem.W.findIn K (.ref C) n = some none ∧ H1 a = some (exo a C (some d)) ∧ H1 d = some (exd d fs) ∧ fs.lookup n = some v ∧ Q v H1
end
end SL
namespace PySem.W
open PySem PySem.Spec PySem.Calls PyProof.Rows
section
variable {prog : Program} {w : World} {A : Around} {E : Value → Shared → Prop} {s : Shared} {K : Frag} {x D : Addr} {ox : Obj} {od : Option Obj}
end
end PySem.W
namespace SL
open PySem PySem.Spec PyProof.Rows L2
section
variable {X : Cx} {k j : Nat} {x : Str} {C : Addr} {sp : Sp} {p p1 p2 pos : Pos} {e : Expr} {es : List Expr} {t ta : TA}
def tMkX (C : Addr) (sp : Sp) (ta : TA) : L2.St → Hp → XK → Prop := fun σ H Q => ta σ H fun vs H1 => vs.length ≤ 1000 ∧ ∀ a, H1 a = none → sp (.ref a :: vs) (upd H1 a (exo a C none))
 (fun v H2 => v = .non ∧ ∃ (d : Addr) (fs : List (Str × V)), H2 a = some (exo a C (some d)) ∧ H2 d = some (exd d fs) ∧ H1 d = none ∧ Q (.ref C) (some d) (upd (del H2 a) d (.xd fs))) E0
end
structure CalX (P : Program) (w : World) (K : PySem.W.Frag) (mg : Str → Option Value) (base : Heap) (k : Nat) (x : Str) (sp : Sp) : Prop where
 ex : ∃ (f : Addr) (fd : FuncData) (ps : List Str), FnG P w K mg base (L2.CX P w) k f fd ps sp ∧ mg x = some (.ref f) ∧ PySem.W.keepIn K (.ref f) = true ∧ Binds K fd ps []
section
variable {X : Cx} {k j : Nat} {x : Str} {sp : Sp} {p pos : Pos} {e : Expr} {es : List Expr} {t : TA} {W : WX}
end
end SL
namespace SL
open PySem PySem.Spec PyProof.Rows L2
def tXs (K : PySem.W.Frag) (a : Addr) (cls : Value) (d : Option Addr) (n : Str) (te : TE) : TE := fun σ H Q => te σ H fun x H1 => x = .ref a ∧ ∃ (C dd : Addr) (fs : List (Str × V)) (v : V), cls = .ref C ∧ d = some dd ∧ EcC K C ∧ PySem.W.findIn K (.ref C) n = some none ∧ H1 dd = some (.xd fs) ∧ fs.lookup n = some v ∧ Q v H1
def tRs (t : L2.St → Hp → XK → Prop) (W : WX) : TS := fun _ σ H => t σ H fun cls d H' => W cls d σ H'
def tTry (K : PySem.W.Frag) (c : Value) (i : Nat) (tb : WX → TS) (ts : Addr → Value → Option Addr → TS) (Wout : WX) : TS := fun D σ H => tb (wAs K c i ts Wout D) D σ H
section
variable {X : Cx} {K : PySem.W.Frag} {e : Expr} {st : Stmt} {ta : TA} {te to : TE} {f : Str} {a : Addr} {cls : Value} {d : Option Addr} {σ : L2.St} {H : Hp} {Q : VK} {D : Ends}
theorem g_vei (q : ta σ H fun vs H1 => ∃ (a C : Addr) (ws : List V), vs = .ref a :: ws ∧ ws.length ≤ 1000 ∧ OexC K C ∧ H1 a = some (exo a C none) ∧ Q .non H1) : tVeI K ta σ H Q := q
theorem g_ost (q : te σ H fun y H1 => to σ H1 fun x H2 => ∃ a C : Addr, x = .ref a ∧ OexC K C ∧ PySem.W.findIn K (.ref C) f = some none ∧
 ((H2 a = some (exo a C none) ∧ ∀ dx, H2 dx = none → dx ≠ a → D.nx σ (upd (upd H2 dx (exd dx [(f, y)])) a (exo a C (some dx)))) ∨
  ∃ (dx : Addr) (fs : List (Str × V)), H2 a = some (exo a C (some dx)) ∧ H2 dx = some (exd dx fs) ∧ fs.length ≤ 900 ∧ D.nx σ (upd H2 dx (exd dx ((f, y) :: fs))))) : tOst K f to te D σ H := q
theorem g_xat (q : te σ H fun x H1 => ∃ (a C d : Addr) (fs : List (Str × V)) (v : V), x = .ref a ∧ EcC K C ∧ PySem.W.findIn K (.ref C) f = some none ∧ H1 a = some (exo a C (some d)) ∧ H1 d = some (exd d fs) ∧ fs.lookup f = some v ∧ Q v H1) : tXat K f te σ H Q := q
theorem g_xs (q : te σ H fun x H1 => x = .ref a ∧ ∃ (C dd : Addr) (fs : List (Str × V)) (v : V), cls = .ref C ∧ d = some dd ∧ EcC K C ∧ PySem.W.findIn K (.ref C) f = some none ∧ H1 dd = some (.xd fs) ∧ fs.lookup f = some v ∧ Q v H1) : tXs K a cls d f te σ H Q := q
theorem g_mkE {C : Addr} {sp : Sp} (q : ta σ H fun vs H1 => spMk C sp vs H1 Q) : tMkE C sp ta σ H Q := q
theorem g_rs {t : L2.St → Hp → XK → Prop} {W : WX} (q : t σ H fun cls d H' => W cls d σ H') : tRs t W D σ H := q
theorem g_mkX {C : Addr} {sp : Sp} {Qx : XK} (q : ta σ H fun vs H1 => vs.length ≤ 1000 ∧ ∀ a, H1 a = none → sp (.ref a :: vs) (upd H1 a (exo a C none))
 (fun v H2 => v = .non ∧ ∃ (d : Addr) (fs : List (Str × V)), H2 a = some (exo a C (some d)) ∧ H2 d = some (exd d fs) ∧ H1 d = none ∧ Qx (.ref C) (some d) (upd (del H2 a) d (.xd fs))) E0) : tMkX C sp ta σ H Qx := q
theorem g_try {c : Value} {i : Nat} {tb : WX → TS} {ts : Addr → Value → Option Addr → TS} {Wout : WX} (q : tb (wAs K c i ts Wout D) D σ H) : tTry K c i tb ts Wout D σ H := q
theorem g_callS {sp : Sp} {E : L2.St → XK} (q : ta σ H fun vs H1 => sp vs H1 Q (E σ)) : tCallS sp E ta σ H Q := q
end
theorem nofix_exo {e C : Addr} {d : Option Addr} : ¬ Fix (exo e C d) := fun z => z
theorem Fr.exd {H : Hp} {a d C : Addr} {o u : HO} (hd : H d = none) (ha : H a = some (exo a C none)) : Fr [a] H (upd (upd H d o) a u) := (Fr.new hd).trans (Fr.mut List.mem_cons_self (by rw [upd_ne (ne_of_none ha hd)]; exact ha) nofix_exo)
end SL
namespace SL
open PySem PySem.Spec PyProof.Rows L2
section
variable {K : PySem.W.Frag} {σ : L2.St} {H : Hp} {Q : VK} {ta tb tc te : TE} {r r' : R2}
theorem g_chain (q : ta σ H fun x H1 => tb σ H1 fun y H2 => r x y H2 fun z H3 => ∃ k, z = .bl k ∧ (if k = true then tc σ H3 fun w' H4 => r' y w' H4 Q else Q (.bl false) H3)) : tChain r r' ta tb tc σ H Q := q
theorem g_rU {f : Int → V} {i : Int} (q : Q (f i) H) : rU f (.int i) H Q := ⟨i, rfl, q⟩
theorem g_istr {S : It → Hp → Prop} (q : te σ H fun v H1 => ∃ x, v = .str x ∧ S (Its x) H1) : iStr te σ H S := q
theorem g_leS {a b : Str} (q : Q (.bl (!decide (b.cps.toList < a.cps.toList))) H) : uLe (.str a) (.str b) H Q := q
end
end SL
namespace SL
open PySem PySem.Spec PyProof.Rows L2 He
structure SaysY (fa : List Fa) (fn : List DefD) (ts : List Tab) (ex : PySem.W.Frag → Bool) (w : World) (K : PySem.W.Frag) : Prop where
 t : SaysT fa fn ts w K
 more : ex K = true
end SL
set_option Elab.async false
set_option linter.all false
set_option maxRecDepth 100000
set_option maxHeartbeats 2000000
namespace SL
open PySem PySem.Spec PySem.W PyProof.Rows L2
section
variable {Y : Cx} {pins : List (Addr × Obj)}
end
section
variable {X : Cx}
end
end SL
set_option Elab.async false
set_option linter.all false
set_option maxRecDepth 100000
set_option maxHeartbeats 2000000
namespace SL
open PySem PySem.Spec PySem.W PyProof.Rows L2
structure Clause (P : Program) (w : World) (c : Expr) (k : Nat) (acc : Value) (env : Env) (g : Comprehension) : Prop where
 at_k : (clausesOf c)[k]? = some g
 plain : g.is_async = 0
 quiet : ∀ it, (Code.compLoop c k it acc env).quiet = true
 turn : ∀ it, (model P w).den (.compLoop c k it acc env) = (compTurn c k it acc env).onRaise fun x => do noteFrame x env; theTreesLotGoes x
 start : ∀ it, (model P w).den (.compStart c k it acc env) = (compStart c k it acc env).onRaise fun x => do noteFrame x env; standAt theWindowsPlace
 under : ∀ (A : Around) it, A.under (.compLoop c k it acc env) = A ∧ A.under (.compStart c k it acc env) = A
section
variable {P : Program} {w : World} {A : Around} {c : Expr} {k : Nat} {acc : Value} {env : Env} {g : Comprehension}
end
section
variable {P : Program} {w : World} {env : Env} {kx vx tg iter tg1 iter1 elt : Expr} {ifs ifs1 : List Expr} {scope : Scope} {pos : Pos} {D : Addr}
end
section
variable {X : Cx}
end
end SL
set_option Elab.async false
set_option linter.all false
set_option maxRecDepth 100000
set_option maxHeartbeats 2000000
namespace SL
open PySem PySem.Spec PyProof.Rows L2
section
variable {prog : Program} {w : World} {A : Around} {E : Value → Shared → Prop} {s : Shared}
end
structure EnumT (a e it : Addr) (i : Nat) (h : Heap) : Prop where
 outer : ∃ old, IsEnum h e it ((i : Nat) : Int) old
 inner : h.IsTupleIter it a i
 apart : e ≠ it ∧ a ≠ it ∧ e ≠ a
end SL
namespace SL
open PySem PySem.Spec PyProof.Rows L2
end SL
set_option Elab.async false
set_option linter.all false
set_option maxRecDepth 100000
set_option maxHeartbeats 2000000
namespace SL
open PySem PySem.Spec PySem.W PyProof.Rows
section
variable {prog : Program} {w : World} {A : Around} {s : Shared}
end
open L2
def Keys (sp : Sp) (K : PySem.W.Frag) (H : Hp) (xs : List V) (ds : List PyData) : Prop :=
 ∀ (j : Nat) (x : V) (d : PyData), xs[j]? = some x → ds[j]? = some d → ∀ (H' : Hp) (Q : VK), SL.Fr [] H H' → (∀ y H2, SL.Fr [] H' H2 → Dp K H2 y d → Q y H2) → sp [x] H' Q E0
section
variable {X : Cx} {pins : List (Addr × Obj)} {σ : L2.St} {H : Hp} {s : Shared} {f : Addr} {fd : FuncData} {ps : List Str} {sp : Sp} {k : Nat}
end
structure CalF (P : Program) (w : World) (K : PySem.W.Frag) (mg : Str → Option Value) (base : Heap) (k : Nat) (x : Str) (f : Addr) (sp : Sp) : Prop where
 m : mg x = some (.ref f)
 ex : ∃ (fd : FuncData) (ps : List Str), FnG P w K mg base CX0 k f fd ps sp ∧ PySem.W.keepIn K (.ref f) = true ∧ Binds K fd ps []
theorem CalF.g {P : Program} {w : World} {K : PySem.W.Frag} {mg : Str → Option Value} {base : Heap} {k : Nat} {x : Str} {f : Addr} {sp : Sp} (D : CalF P w K mg base k x f sp) : CalG P w K mg base k x sp := by
 obtain ⟨fd, ps, F, kp, b⟩ := D.ex
 exact ⟨f, fd, ps, F, D.m, kp, b⟩
end SL
set_option Elab.async false
set_option linter.all false
set_option maxRecDepth 100000
set_option maxHeartbeats 2000000
namespace SL
open PySem PySem.Spec PyProof.Rows L2
structure MetG (P : Program) (w : World) (K : PySem.W.Frag) (mg : Str → Option Value) (base : Heap) (CX : CXT) (k : Nat) (C : Addr) (m : Str) (dvs : List V) (sp : Sp) : Prop where
 cls : Cls K C
 ex : ∃ (f : Addr) (fd : FuncData) (ps : List Str) (ds : List Value), Meth K C m f ∧ FnG P w K mg base CX k f fd ps sp ∧ Binds K fd ps ds ∧ Vals dvs ds
section
variable {X : Cx} {k j : Nat} {C : Addr} {sp : Sp} {m : Str} {pos apos : Pos} {e o : Expr} {es : List Expr} {ta : TE} {t : TA} {W : WX} {dvs : List V}
end
section
variable {X : Cx} {K : PySem.W.Frag} {o e value ex : Expr} {f : Str} {pos pos' tpos : Pos} {ta tv : TE} {rd : V → V → Hp → VK → Prop} {st : Stmt}
variable {σ : L2.St} {H : Hp} {Q : VK} {C : Addr} {m : Str} {sp : Sp} {dvs : List V} {E : L2.St → XK} {t : TA} {D : Ends}
end
section
variable {σ : L2.St} {H : Hp} {D : Ends}
end
end SL
set_option Elab.async false
set_option linter.all false
set_option maxRecDepth 100000
set_option maxHeartbeats 2000000
namespace SL
open PySem PySem.Spec PyProof.Rows L2
section
variable {X : Cx} {k j n : Nat} {f C : Addr} {fd : FuncData} {ps ks : List Str} {sp : Sp} {x : Str} {p pos : Pos} {e : Expr} {es : List Expr} {kws : List Keyword} {t tk : TA} {g : List Value → List Value → List Value} {gV : List V → List V → List V} {W : WX}
structure MkX (P : Program) (w : World) (K : PySem.W.Frag) (mg : Str → Option Value) (base : Heap) (k : Nat) (x : Str) (C : Addr) (n : Nat) (ks : List Str) (gV : List V → List V → List V) (sp : Sp) : Prop where
 m : mg x = some (.ref C)
 ex : ∃ (f : Addr) (fd : FuncData) (ps : List Str) (g : List Value → List Value → List Value), Mk K C f ∧ FnG P w K mg base (L2.CX P w) k f fd ps sp ∧ KBn K fd ps (n + 1) ks g gV
end
end SL
set_option Elab.async false
set_option linter.all false
set_option maxRecDepth 100000
set_option maxHeartbeats 2000000
namespace SL
open PySem PySem.Spec PyProof.Rows L2 PySem.Builtin PySem.Builtin.Str
section
variable {X : Cx} {o e : Expr} {te : TE} {to tk : TE} {y : Str} {j1 j2 j3 : Nat} {c0 c1 c2 apos pos pm : Pos}
end
end SL
set_option Elab.async false
set_option linter.all false
set_option maxRecDepth 100000
set_option maxHeartbeats 4000000
namespace LW
open PySem PySem.Spec PyProof.Rows L2 SL
abbrev FnP (K : PySem.W.Frag) (x : Str) (st : Stmt) (f : Addr) (fd : FuncData) : Prop := FunD K x x (defArgs st) (defBody st) (defScope st) [] [] f fd
def topS (i : Nat) : Stmt := PySem.Challenge.pw_sightlore_k03_rules_written.main.body.getD i (.Pass ⟨0, 0, 0, 0⟩)
local macro_rules | `(tactic| walk_at "q") => `(tactic| repeat walk_at "st")
local macro_rules | `(tactic| walk_at "st") => `(tactic| first
 | with_reducible refine g_seq ?_
 | ((with_reducible show tVar _ _ _ _); refine g_var rfl ?_)
 | with_reducible refine g_c ?_
 | with_reducible refine g_op ?_
 | with_reducible refine g_asg ?_
 | with_reducible refine g_name ?_
 | with_reducible refine g_if ?_
 | with_reducible refine g_test ?_
 | with_reducible refine g_k ?_
 | with_reducible refine g_ret ?_
 | with_reducible refine g_next ?_
 | with_reducible refine g_cons ?_
 | with_reducible refine g_nil ?_
 | with_reducible refine g_call ?_
 | with_reducible refine g_cb ?_
 | with_reducible refine g_addI ?_
 | with_reducible refine g_subI ?_
 | with_reducible refine g_ltI ?_
 | with_reducible refine g_leI ?_
 | with_reducible refine g_gtI ?_
 | with_reducible refine g_geI ?_
 | with_reducible refine g_eqI ?_
 | with_reducible refine g_eqS ?_
 | with_reducible refine g_eqB ?_
 | with_reducible refine g_neI ?_
 | with_reducible refine g_neS ?_
 | with_reducible refine g_neB ?_
 | ((with_reducible refine g_mulI ?h0 ?_); (case h0 => first | exact mulR (by decide) (by decide) | exact mulL (by decide) (by decide) | exact mulR (by omega) (by omega) | exact mulL (by omega) (by omega)))
 | ((with_reducible refine g_modI ?h0 ?_); (case h0 => first | decide | omega))
 | ((with_reducible refine g_divI ?h0 ?_); (case h0 => first | exact divS (by decide) (by decide) | exact divS (by omega) (by omega)))
 | ((with_reducible refine g_powI ?h0 ?_); (case h0 => exact ⟨by decide +kernel, by decide +kernel, by decide +kernel⟩))
 | ((with_reducible show rIx _ (V.ref _) (V.int _) _ _); refine g_ixL (by first | assumption | exact SqL.of (by assumption)) (by exact rfl) ?_)
 | ((with_reducible show rIx _ (V.ref _) (V.int _) _ _); refine g_ixT (by first | assumption | exact SqT.of (by assumption)) (by exact rfl) ?_)
 | ((with_reducible show uLen _ [V.ref _] _ _); first | refine g_len (.inl (SqL.of (by assumption))) ?_ | refine g_len (.inl (by assumption)) ?_ | refine g_len (.inr (by assumption)) ?_ | refine g_len (.inr (SqT.of (by assumption))) ?_)
 | with_reducible refine g_dget ?_
 | with_reducible refine g_dput ?_
 | with_reducible refine g_bm ?_
 | with_reducible refine g_bm0 ?_
 | with_reducible refine g_tyS ?_
 | ((with_reducible show tyV _ "list" (V.ref _) _ ∧ _); refine g_tyL (by first | assumption | exact SqL.of (by assumption)) ?_)
 | with_reducible refine g_pairs ?_
 | with_reducible refine g_pairs0 ?_
 | with_reducible refine g_for ?_
 | with_reducible refine g_iR1 ?_
 | with_reducible refine g_iR2 ?_
 | with_reducible refine g_iL ?_
 | with_reducible refine g_iT ?_
 | with_reducible refine g_lc ?_
 | with_reducible refine g_lc2 ?_
 | with_reducible refine g_dc ?_
 | with_reducible refine g_din ?_
 | with_reducible refine g_listRg ?_
 | with_reducible refine g_rg1 ?_
 | with_reducible refine g_izA ?_
 | with_reducible refine g_iz ?_
 | ((with_reducible show gTup _ _ _ (V.ref _) _ _ _); first | refine g_gtup (SqT.of upd_same) rfl ?_ | refine g_gtup (by first | assumption | exact SqT.of (by assumption)) rfl ?_)
 | with_reducible refine g_gcons ?_
 | with_reducible refine g_gnil ?_
 | with_reducible refine g_yes ?_
 | with_reducible refine g_andT ?_
 | with_reducible refine g_orT ?_
 | with_reducible refine g_notT ?_
 | with_reducible refine g_truB ?_
 | with_reducible refine g_and ?_
 | with_reducible refine g_or ?_
 | with_reducible refine g_not ?_
 | with_reducible refine g_ifE ?_
 | with_reducible refine g_B ?_
 | with_reducible refine g_un ?_
 | with_reducible refine g_sub ?_
 | with_reducible refine g_drop ?_
 | with_reducible refine g_sl ?_
 | with_reducible refine g_noPart ?_
 | with_reducible refine g_part ?_
 | with_reducible refine g_ki ?_
 | with_reducible refine g_fs ?_
 | with_reducible refine g_js0 ?_
 | with_reducible refine g_js ?_
 | with_reducible refine g_fmt ?_
 | with_reducible refine g_is ?_
 | with_reducible refine g_isNot ?_
 | with_reducible refine g_chain ?_
 | with_reducible refine g_istr ?_
 | with_reducible refine g_rU ?_
 | with_reducible refine g_leS ?_
 | with_reducible refine g_vei ?_
 | with_reducible refine g_ost ?_
 | with_reducible refine g_xat ?_
 | with_reducible refine g_xs ?_
 | with_reducible refine g_mkE ?_
 | with_reducible refine g_rs ?_
 | with_reducible refine g_mkX ?_
 | with_reducible refine g_try ?_
 | with_reducible refine g_callS ?_
 | (with_reducible refine g_tup ?_)
 | (with_reducible refine g_lst ?_)
 | ((with_reducible refine g_tt ?h0 ?_); (case h0 => decide +kernel))
 | ((with_reducible refine g_ff ?h0 ?_); (case h0 => decide +kernel)))
local macro_rules | `(tactic| walk_at "sz") => `(tactic| (refine le_of ?_; (try simp only [app_len, lit_q, lit_lp, lit_rp, lit_sp, lit_cs, lit_not, lit_is, lit_if, lit_e, lit_dot]); omega))
local macro_rules | `(tactic| walk_at "fs") => `(tactic| first
 | walk_at "st"
 | (refine g_fmtS ?hz ?_; (case hz => walk_at "sz"))
 | (refine g_jsS ?hz ?_; (case hz => walk_at "sz"))
 | (refine g_addS ?hz ?_; (case hz => walk_at "sz")))
local macro_rules | `(tactic| walk_at "if") => `(tactic| ((fail_if_success (with_reducible refine g_seqIf _ _ _ _ _ _ _ ?_)); walk_at "st"))
inductive SumE where
 | val (v : V) | var (x : Str) | op (s : Str) (a b : SumE)
def SumAt (K : PySem.W.Frag) (H : Hp) : SumE → V → Prop
 | .val u, v => ∃ p, v = .ref p ∧ SqT K H p [.str "value", u]
 | .var x, v => ∃ p, v = .ref p ∧ SqT K H p [.str "var", .str x]
 | .op s a b, v => ∃ p y z, v = .ref p ∧ SqT K H p [.str s, y, z] ∧ SumAt K H a y ∧ SumAt K H b z
theorem SumAt.fr {K : PySem.W.Frag} {H H' : Hp} {M : List Addr} (e : Fr M H H') : ∀ {t : SumE} {v : V}, SumAt K H t v → SumAt K H' t v
 | .val _, _, ⟨p, h1, h2⟩ => ⟨p, h1, e.tup h2⟩
 | .var _, _, ⟨p, h1, h2⟩ => ⟨p, h1, e.tup h2⟩
 | .op _ _ _, _, ⟨p, y, z, h1, h2, h3, h4⟩ => ⟨p, y, z, h1, e.tup h2, SumAt.fr e h3, SumAt.fr e h4⟩
def SumE.deep : SumE → Nat
 | .op _ a b => max a.deep b.deep + 1
 | _ => 0
def isSg (s : Str) : Prop := s = "+" ∨ s = "-" ∨ s = "*"
theorem sg_ne {s : Str} (h : isSg s) : s ≠ "value" ∧ s ≠ "var" := by
 rcases h with rfl | rfl | rfl <;> exact ⟨by decide +kernel, by decide +kernel⟩
inductive TermE where
 | any | s (e : SumE)
inductive PartE where
 | atom (no : Bool) (x : Str) (ts : List TermE) | lt (x : Str) (e : SumE) | test (s : Str) (a b : SumE)
inductive ArgE where
 | s (e : SumE) | fold (w : Str) (x : Option Str)
def SumE.d : SumE → PyData
 | .val u => .tuple [.str "value", scD u]
 | .var x => .tuple [.str "var", .str x]
 | .op s a b => .tuple [.str s, a.d, b.d]
def TermE.d : TermE → PyData
 | .any => .tuple [.str "any"]
 | .s e => e.d
def PartE.d : PartE → PyData
 | .atom no x ts => .tuple [.str (if no then "not" else "atom"), .str x, .tuple (ts.map TermE.d)]
 | .lt x e => .tuple [.str "let", .str x, e.d]
 | .test s a b => .tuple [.str "test", .str s, a.d, b.d]
def ArgE.d : ArgE → PyData
 | .s e => e.d
 | .fold w none => .tuple [.str "fold", .str w, .none]
 | .fold w (some x) => .tuple [.str "fold", .str w, .str x]
structure Tx (n : Nat) (t : Str) : Prop where
 len : t.length ≤ n
 ok : ∀ c ∈ t.cps.toList, c < 0x110000
theorem Tx.mono {m n : Nat} {t : Str} (h : Tx m t) (l : m ≤ n) : Tx n t := ⟨Nat.le_trans h.len l, h.ok⟩
theorem tl_app (a b : Str) : (a ++ b).cps.toList = a.cps.toList ++ b.cps.toList := Array.toList_append
theorem Tx.app {m n : Nat} {a b : Str} (h : Tx m a) (k : Tx n b) : Tx (m + n) (a ++ b) := ⟨by rw [app_len]; exact Nat.add_le_add h.len k.len, fun c hc => by
 rw [tl_app, List.mem_append] at hc
 exact hc.elim (h.ok c) (k.ok c)⟩
theorem empty_app (a : Str) : Str.empty ++ a = a := by
 show (⟨#[] ++ a.cps⟩ : Str) = a
 rw [Array.empty_append]
def txB (n : Nat) (t : Str) : Bool := decide (t.length ≤ n) && t.cps.toList.all (fun c => decide (c < 0x110000))
theorem Tx.lit {n : Nat} {t : Str} (h : txB n t = true) : Tx n t := by
 unfold txB at h
 simp only [Bool.and_eq_true, decide_eq_true_eq, List.all_eq_true] at h
 exact ⟨h.1, h.2⟩
theorem Tx.short {n : Nat} {t : Str} (h : Tx n t) (l : n ≤ 9000) : (reprText t).length ≤ sizeLine :=
 le_of (Nat.le_trans (StrLaws.reprText_len t fun c hc => Nat.lt_of_lt_of_le (h.ok c hc) (by decide)) (by have := h.len; omega))
theorem join_cons (y a b : Str) (r : List Str) : Txt.join y (a :: b :: r) = a ++ y ++ Txt.join y (b :: r) := by
 rw [TL.join_eq, TL.join_eq]
 rfl
theorem Tx.join {k m : Nat} {y : Str} (hy : Tx k y) : ∀ {ts : List Str}, (∀ t ∈ ts, Tx m t) → Tx (ts.length * (m + k)) (Txt.join y ts)
 | [], _ => by
  rw [TL.join_eq]
  exact ⟨Nat.zero_le _, fun c hc => nomatch hc⟩
 | [a], h => by
  rw [TL.join_eq]
  exact (h a List.mem_cons_self).mono (by simp)
 | a :: b :: r, h => by
  rw [join_cons]
  refine (((h a List.mem_cons_self).app hy).app (Tx.join hy fun t ht => h t (List.mem_cons_of_mem _ ht))).mono ?_
  simp only [List.length_cons, Nat.succ_mul]
  omega
def valT : V → Str
 | .bl b => if b then "yes" else "no"
 | .int i => toString i
 | .str x => "'" ++ x ++ "'"
 | _ => ""
def tightE : SumE → Nat
 | .op s _ _ => if s = "*" then 2 else 1
 | _ => 3
def wrapS (k : Nat) (e : SumE) (t : Str) : Str := if tightE e < k then "(" ++ t ++ ")" else t
def sumT : SumE → Str
 | .val u => valT u
 | .var x => x
 | .op s a b => wrapS (if s = "*" then 2 else 1) a (sumT a) ++ " " ++ s ++ " " ++ wrapS ((if s = "*" then 2 else 1) + 1) b (sumT b)
def termT : TermE → Str
 | .any => "_"
 | .s e => sumT e
def listT (ts : List Str) : Str := Txt.join ", " ts
def atomT (x : Str) (ts : List TermE) : Str := x ++ "(" ++ listT (ts.map termT) ++ ")"
def partT : PartE → Str
 | .atom no x ts => if no then "not " ++ atomT x ts else atomT x ts
 | .lt x e => x ++ " is " ++ sumT e
 | .test s a b => sumT a ++ " " ++ s ++ " " ++ sumT b
def argT : ArgE → Str
 | .s e => sumT e
 | .fold w none => w
 | .fold w (some x) => w ++ " " ++ x
def argsT (as : List ArgE) : Str := listT (as.map argT)
def partsT (ps : List PartE) : Str := listT (ps.map partT)
def ruleT (h : Str) (as : List ArgE) (ps : List PartE) : Str := if ps = [] then h ++ "(" ++ argsT as ++ ")" else h ++ "(" ++ argsT as ++ ")" ++ " if " ++ partsT ps
def questT (as : List ArgE) (ps : List PartE) : Str := argsT as ++ " if " ++ partsT ps
def ValG (u : V) : Prop := (∃ i : Int, u = .int i ∧ i.natAbs < 10 ^ 30) ∨ (∃ b, u = .bl b) ∨ ∃ x, u = .str x ∧ Tx 12 x
inductive SumG : Nat → SumE → Prop
 | val {n : Nat} {u : V} : ValG u → SumG n (.val u)
 | var {n : Nat} {x : Str} : Tx 12 x → SumG n (.var x)
 | op {n : Nat} {s : Str} {a b : SumE} : isSg s → SumG n a → SumG n b → SumG (n + 1) (.op s a b)
theorem SumG.up {m n : Nat} {e : SumE} (h : SumG m e) (l : m ≤ n) : SumG n e := by
 induction h generalizing n with
 | val h => exact .val h
 | var h => exact .var h
 | op hs _ _ iha ihb =>
  obtain ⟨k, rfl⟩ : ∃ k, n = k + 1 := ⟨n - 1, by omega⟩
  exact .op hs (iha (by omega)) (ihb (by omega))
inductive TermG : TermE → Prop
 | any : TermG .any
 | s {e : SumE} : SumG 0 e → TermG (.s e)
inductive PartG : PartE → Prop
 | atom {no : Bool} {x : Str} {ts : List TermE} : Tx 44 x → ts.length ≤ 4 → (∀ t ∈ ts, TermG t) → PartG (.atom no x ts)
 | lt {x : Str} {e : SumE} : Tx 12 x → SumG 1 e → PartG (.lt x e)
 | test {s : Str} {a b : SumE} : Tx 2 s → SumG 1 a → SumG 1 b → PartG (.test s a b)
inductive ArgG : ArgE → Prop
 | s {e : SumE} : SumG 0 e → ArgG (.s e)
 | fold0 {w : Str} : Tx 5 w → ArgG (.fold w none)
 | fold {w x : Str} : Tx 5 w → Tx 12 x → ArgG (.fold w (some x))
theorem tx_int {i : Int} (h : i.natAbs < 10 ^ 30) : Tx 31 (toString i : Str) := by
 refine ⟨?_, fun c hc => ?_⟩
 ·have e := int_text_length_le10 (k := 30) (by decide) h
  show (Str.ofString (toString i)).length ≤ 31
  rw [PySem.ofString_length]
  exact e
 ·have hc2 : c ∈ (Str.ofString (toString i)).cps.toList := hc
  rw [PyProof.Rows.signs_ofString, List.mem_map] at hc2
  obtain ⟨ch, _, rfl⟩ := hc2
  rcases ch.valid with h | h
  ·exact Nat.lt_trans h (by decide)
  ·exact h.2
theorem ValG.tx {u : V} (h : ValG u) : Tx 31 (valT u) := by
 rcases h with ⟨i, rfl, h⟩ | ⟨b, rfl⟩ | ⟨x, rfl, h⟩
 ·exact tx_int h
 ·cases b
  ·exact Tx.lit (by decide +kernel)
  ·exact Tx.lit (by decide +kernel)
 ·exact (((Tx.lit (n := 1) (by decide +kernel)).app h).app (Tx.lit (n := 1) (by decide +kernel))).mono (by decide)
theorem Tx.wrap {n k : Nat} {e : SumE} {t : Str} (h : Tx n t) : Tx (n + 2) (wrapS k e t) := by
 unfold wrapS
 split
 ·exact (((Tx.lit (n := 1) (by decide +kernel)).app h).app (Tx.lit (n := 1) (by decide +kernel))).mono (by omega)
 ·exact h.mono (by omega)
theorem isSg.tx {s : Str} (h : isSg s) : Tx 1 s := by
 rcases h with rfl | rfl | rfl <;> exact Tx.lit (by decide +kernel)
theorem SumG.tx {m : Nat} {e : SumE} (h : SumG m e) : Tx (48 * 2 ^ m - 7) (sumT e) := by
 induction h with
 | @val n u h => exact h.tx.mono (by have := Nat.one_le_two_pow (n := n); omega)
 | @var n x h => exact h.mono (by have := Nat.one_le_two_pow (n := n); omega)
 | @op n s a b hs _ _ iha ihb =>
  have l1 : Tx 1 (" " : Str) := Tx.lit (by decide +kernel)
  have p := Nat.one_le_two_pow (n := n)
  refine (((((iha.wrap).app l1).app hs.tx).app l1).app ihb.wrap).mono ?_
  rw [Nat.pow_succ]
  omega
theorem SumG.tx4 {m : Nat} {e : SumE} (h : SumG m e) (l : m ≤ 4) : Tx 761 (sumT e) := (h.up l).tx.mono (by decide)
theorem TermG.tx {t : TermE} (h : TermG t) : Tx 41 (termT t) := by
 cases h with
 | any => exact Tx.lit (by decide +kernel)
 | s h => exact h.tx.mono (by decide)
theorem txs_map {α : Type} {f : α → Str} {xs : List α} {n : Nat} (h : ∀ x ∈ xs, Tx n (f x)) : ∀ t ∈ xs.map f, Tx n t := fun t ht => by
 obtain ⟨x, hx, rfl⟩ := List.mem_map.mp ht
 exact h x hx
theorem Tx.list {α : Type} {f : α → Str} {xs : List α} {n k : Nat} (h : ∀ x ∈ xs, Tx n (f x)) (l : xs.length ≤ k) : Tx (k * (n + 2)) (listT (xs.map f)) := by
 refine (Tx.join (k := 2) (y := ", ") (Tx.lit (by decide +kernel)) (txs_map h)).mono ?_
 rw [List.length_map]
 exact Nat.mul_le_mul_right _ l
theorem join_len {α : Type} {f : α → Str} {xs : List α} {n k : Nat} (h : ∀ x ∈ xs, Tx n (f x)) (l : xs.length ≤ k) : (Txt.join ", " (xs.map f)).length ≤ k * (n + 2) := (Tx.list h l).len
theorem join_fits {α : Type} {f : α → Str} {xs : List α} {n k : Nat} (h : ∀ x ∈ xs, Tx n (f x)) (l : xs.length ≤ k) (hk : k * (n + 2) ≤ 16777216) : ((xs.map f).map (·.length)).sum + (xs.map f).length * (", " : Str).length ≤ 16777216 := by
 have z := sum_len (ts := xs.map f) (n := n) fun t ht => (txs_map h t ht).len
 have e : (", " : Str).length = 2 := by decide +kernel
 rw [List.length_map] at z ⊢
 rw [e]
 have z2 : xs.length * n + xs.length * 2 ≤ k * (n + 2) := by rw [← Nat.mul_add]; exact Nat.mul_le_mul_right _ l
 omega
theorem Tx.atom {x : Str} {ts : List TermE} (hx : Tx 44 x) (hl : ts.length ≤ 4) (h : ∀ t ∈ ts, TermG t) : Tx 218 (atomT x ts) :=
 (((hx.app (Tx.lit (n := 1) (by decide +kernel))).app (Tx.list (fun t ht => (h t ht).tx) hl)).app (Tx.lit (n := 1) (by decide +kernel))).mono (by decide)
theorem PartG.tx {p : PartE} (h : PartG p) : Tx 240 (partT p) := by
 cases h with
 | @atom no x ts hx hl h =>
  cases no
  ·exact (Tx.atom hx hl h).mono (by decide)
  ·exact ((Tx.lit (n := 4) (t := "not ") (by decide +kernel)).app (Tx.atom hx hl h)).mono (by decide)
 | lt hx he => exact ((hx.app (Tx.lit (n := 4) (by decide +kernel))).app he.tx).mono (by decide)
 | test hs ha hb => exact ((((ha.tx.app (Tx.lit (n := 1) (by decide +kernel))).app hs).app (Tx.lit (n := 1) (by decide +kernel))).app hb.tx).mono (by decide)
theorem ArgG.tx {a : ArgE} (h : ArgG a) : Tx 41 (argT a) := by
 cases h with
 | s h => exact h.tx.mono (by decide)
 | fold0 h => exact h.mono (by decide)
 | fold h hx => exact ((h.app (Tx.lit (n := 1) (by decide +kernel))).app hx).mono (by decide)
def headE : SumE → Str
 | .val _ => "value"
 | .var _ => "var"
 | .op s _ _ => s
def atomD (a : Bool × Str × List TermE) : PyData := (PartE.atom a.1 a.2.1 a.2.2).d
def atomG (a : Bool × Str × List TermE) : Prop := PartG (.atom a.1 a.2.1 a.2.2)
def argsD (as : List ArgE) : PyData := .tuple (as.map ArgE.d)
def partsD (ps : List PartE) : PyData := .tuple (ps.map PartE.d)
def argsG (as : List ArgE) : Prop := as.length ≤ 8 ∧ ∀ a ∈ as, ArgG a
def partsG (ps : List PartE) : Prop := ps.length ≤ 8 ∧ ∀ p ∈ ps, PartG p
theorem argsG.tx {as : List ArgE} (h : argsG as) : Tx 344 (argsT as) := Tx.list (fun a ha => (h.2 a ha).tx) h.1
theorem partsG.tx {ps : List PartE} (h : partsG ps) : Tx 1936 (partsT ps) := Tx.list (fun a ha => (h.2 a ha).tx) h.1
def ruleD (r : Str × List ArgE × List PartE) : PyData := .tuple [.str r.1, argsD r.2.1, partsD r.2.2]
def ruleG (r : Str × List ArgE × List PartE) : Prop := Tx 12 r.1 ∧ argsG r.2.1 ∧ partsG r.2.2
def questD (r : List ArgE × List PartE) : PyData := .tuple [argsD r.1, partsD r.2]
def questG (r : List ArgE × List PartE) : Prop := argsG r.1 ∧ partsG r.2
theorem td_head {K : PySem.W.Frag} {H : Hp} {e : SumE} {v : V} (h : Td K H v e.d) : ∃ p xs, v = .ref p ∧ SqT K H p (.str (headE e) :: xs) := by
 cases e with
 | val u =>
  obtain ⟨p, x, y, rfl, hp, hx, hy⟩ := Td.t2 (show Td K H v (.tuple [.str "value", scD u]) from h)
  cases hx.str_inv
  exact ⟨p, _, rfl, hp⟩
 | var u =>
  obtain ⟨p, x, y, rfl, hp, hx, hy⟩ := Td.t2 (show Td K H v (.tuple [.str "var", .str u]) from h)
  cases hx.str_inv
  exact ⟨p, _, rfl, hp⟩
 | op s a b =>
  obtain ⟨p, x, y, z, rfl, hp, hx, hy, hz⟩ := Td.t3 (show Td K H v (.tuple [.str s, a.d, b.d]) from h)
  cases hx.str_inv
  exact ⟨p, _, rfl, hp⟩
theorem td_val {K : PySem.W.Frag} {H : Hp} {u v : V} (hu : ValG u) (h : Td K H v (.tuple [.str "value", scD u])) : ∃ p, v = .ref p ∧ SqT K H p [.str "value", u] := by
 obtain ⟨p, x, y, rfl, hp, hx, hy⟩ := h.t2
 cases hx.str_inv
 rcases hu with ⟨i, rfl, _⟩ | ⟨b, rfl⟩ | ⟨x, rfl, _⟩
 ·cases hy.int_inv; exact ⟨p, rfl, hp⟩
 ·cases hy.bl_inv; exact ⟨p, rfl, hp⟩
 ·cases hy.str_inv; exact ⟨p, rfl, hp⟩
theorem sum_deep {m : Nat} {e : SumE} (h : SumG m e) : e.deep ≤ m := by
 induction h with
 | val => exact Nat.zero_le _
 | var => exact Nat.zero_le _
 | op _ _ _ h1 h2 => exact Nat.succ_le_succ (Nat.max_le.mpr ⟨h1, h2⟩)
structure BiT (mg : Str → Option Value) : Prop where
 b_isinstance : mg "isinstance" = none
 b_bool : mg "bool" = none
 b_int : mg "int" = none
 b_str : mg "str" = none
structure Bi (mg : Str → Option Value) : Prop where
 b_len : mg "len" = none
 b_list : mg "list" = none
 b_range : mg "range" = none
def bagO (cs : Addr) (i r k : Int) : HO := .lst [.ref cs, .int i, .int r, .int k]
structure BagAt (H : Hp) (b cs : Addr) : Prop where
 ex : ∃ (cells : List Int) (i r k : Int), H b = some (bagO cs i r k) ∧ H cs = some (.lst (cells.map V.int)) ∧ 0 ≤ i
theorem BagAt.ne {H : Hp} {b cs : Addr} (h : BagAt H b cs) : cs ≠ b := by
 obtain ⟨cells, i, r, k, h1, h2, _⟩ := h.ex
 intro e
 rw [e, h1] at h2
 have h3 : [V.ref cs, .int i, .int r, .int k] = cells.map V.int := HO.lst.inj (Option.some.inj h2)
 cases cells with
 | nil => cases h3
 | cons c r => cases (List.cons.inj h3).1
theorem BagAt.fr {H H' : Hp} {b cs : Addr} {M : List Addr} (h : BagAt H b cs) (e : Fr M H H') (n1 : b ∉ M) (n2 : cs ∉ M) : BagAt H' b cs := by
 obtain ⟨cells, i, r, k, h1, h2, h3⟩ := h.ex
 exact ⟨cells, i, r, k, e.at h1 n1, e.at h2 n2, h3⟩
theorem BagAt.fr0 {H H' : Hp} {b cs : Addr} (h : BagAt H b cs) (e : Fr [] H H') : BagAt H' b cs := h.fr e (fun z => nomatch z) (fun z => nomatch z)
theorem BagAt.put {H : Hp} {b cs : Addr} (h : BagAt H b cs) {i r k : Int} (hi : 0 ≤ i) : BagAt (upd H b (bagO cs i r k)) b cs := by
 obtain ⟨cells, _, _, _, h1, h2, h3⟩ := h.ex
 exact ⟨cells, i, r, k, upd_same, by rw [upd_ne h.ne]; exact h2, hi⟩
theorem BagAt.frp {H : Hp} {b cs : Addr} (h : BagAt H b cs) {o : HO} : Fr [b] H (upd H b o) := by
 obtain ⟨cells, i, r, k, h1, h2, h3⟩ := h.ex
 exact Fr.mut (List.mem_singleton.mpr rfl) h1 nofix_lst
theorem BagAt.some {H : Hp} {b cs : Addr} (h : BagAt H b cs) {p : Addr} (hp : H p = none) : p ≠ b ∧ p ≠ cs := by
 obtain ⟨cells, i, r, k, h1, h2, h3⟩ := h.ex
 exact ⟨fun e => (by rw [e, h1] at hp; cases hp), fun e => (by rw [e, h2] at hp; cases hp)⟩
def spBag (K : PySem.W.Frag) : Sp := fun vs H Q _ => ∃ (a : Addr) (ns : List Int), vs = [.ref a] ∧ SqL K H a (ns.map V.int) ∧ ns.length ≤ 63 ∧
 ∀ b cs H', Fr [] H H' → H b = none → BagAt H' b cs → Q (.ref b) H'
def spPull : Sp := fun vs H Q _ => ∃ (b cs : Addr) (u : Int), vs = [.ref b, .int u] ∧ BagAt H b cs ∧ 0 < u ∧ u < 2 ^ 200 ∧
 ∀ d H', 0 ≤ d → d < u → BagAt H' b cs → Fr [b] H H' → Q (.int d) H'
abbrev s__law_bag : Stmt := topS 17
theorem sc__law_bag : FnScope ["_law_script", "_law_cells", "_law_knot", "_law_cell"] ["_law_script"] (defScope s__law_bag) := ⟨rfl, rfl, rfl, by decide +kernel, rfl, by decide +kernel, by decide +kernel⟩
abbrev s__law_pull : Stmt := topS 18
theorem sc__law_pull : FnScope ["_law_bag_here", "_law_upto", "_law_seed", "_law_fold", "_law_twist", "_law_drawn"] ["_law_bag_here", "_law_upto"] (defScope s__law_pull) := ⟨rfl, rfl, rfl, by decide +kernel, rfl, by decide +kernel, by decide +kernel⟩
section
variable {P : Program} {w : World} {K : PySem.W.Frag} {mg : Str → Option Value} {base : Heap}
theorem ok__law_bag {f : Addr} {fd : FuncData} (F : FnP K "_law_bag" s__law_bag f fd) (B : Bi mg) : FnG P w K mg base CX0 10 f fd ["_law_script"] (spBag K) := by
 refine okG F sc__law_bag (fun vs H Q E h => ?_) (fun cdv A outer s H vs Q E hr h => ?_)
 ·obtain ⟨a, ns, rfl, _⟩ := h
  rfl
 obtain ⟨a, ns, rfl, hS, hl, q⟩ := h
 refine ⟨_, PSs.nox (pss_cons (ps_set (i := 1) sc__law_bag.nd rfl (.inl rfl) (pe_callTy (kCall (K := K) (r := uList) rfl callu_list) (by rfl) B.b_list (by decide +kernel) (pa_cons (pe_slice (kSl (K := K) (r := rSlL) rfl sl_list) (pv 0) po_none (po_some pe_int)) pa_nil)))
 (pss_cons (ps_set (i := 2) sc__law_bag.nd rfl (.inl rfl) (pe_op (kOp (K := K) (r := uAdd) rfl opu_add) pe_int (pe_callB (kCall (K := K) (r := uLen) rfl callu_len) (by rfl) B.b_len (by decide +kernel) (pa_cons (pv 1) pa_nil))))
 (pss_cons (ps_for PassesOwn.never rfl (pi_listK (K := K) rfl (pv 1)) (pg_name (i := 3) sc__law_bag.nd rfl (by first | exact Or.inl rfl | exact Or.inr rfl)) (pss_one (ps_set (i := 2) sc__law_bag.nd rfl (.inl rfl) (pe_op opu_mod (pe_op (kOp (K := K) (r := uAdd) rfl opu_add) (pe_op opu_mul (pv 2) pe_int) (pv 3)) pe_int))))
 (pss_one (ps_ret (pe_lst (pa_cons (pv 1) (pa_cons pe_int (pa_cons pe_int (pa_cons (pv 2) pa_nil)))))))))), rd_start (σ0 := [some (.ref a), none, none, none]) rfl ?_⟩
 walk_at "q"
 refine g_slL hS fun p1 hp1 => ?_
 walk_at "q"
 refine g_list (.inl (SqL.of upd_same)) fun p2 hp2 => ?_
 have ec : cutV (ns.map V.int) none (some 63) = ns.map V.int := by
  have z := cut0 (ns.map V.int) 63
  rw [List.take_of_length_le (by rw [List.length_map]; omega)] at z
  exact z
 rw [ec] at hp2 ⊢
 have e2 : Fr [] H (upd (upd H p1 (.lst (ns.map V.int))) p2 (.lst (ns.map V.int))) := (Fr.new hp1).trans (Fr.new hp2)
 have h2 : (upd (upd H p1 (.lst (ns.map V.int))) p2 (.lst (ns.map V.int))) p2 = some (.lst (ns.map V.int)) := upd_same
 generalize upd (upd H p1 (.lst (ns.map V.int))) p2 (.lst (ns.map V.int)) = H2 at *
 walk_at "q"
 refine ⟨_, rfl, ⟨_, SqL.of h2⟩, for_list (K := K) (a := p2) (xs := ns.map V.int) (fun i σ H' => ∃ (k : Int) (c : Option V), σ = [some (.ref a), some (.ref p2), some (.int k), c] ∧ H' = H2) ⟨_, _, rfl, rfl⟩ (fun i σ H' _ h => ?_) (fun i x σ H' hi h => ?_) (fun σ H' h => ?_)⟩
 ·obtain ⟨k, c, rfl, rfl⟩ := h
  exact SqL.of h2
 ·obtain ⟨k, c, rfl, rfl⟩ := h
  obtain ⟨n, _, rfl⟩ := List.mem_map.mp (List.mem_of_getElem? hi)
  walk_at "q"
  exact ⟨_, _, rfl, rfl⟩
 ·obtain ⟨k, c, rfl, rfl⟩ := h
  walk_at "q"
  refine ⟨le_of (by simp), fun p3 hp3 => ?_⟩
  refine q p3 p2 _ (e2.trans (Fr.new hp3)) (e2.back (fun z => nomatch z) hp3) ⟨ns, 0, 0, k, upd_same, by rw [upd_ne (ne_of_none h2 hp3)]; exact h2, Int.le_refl 0⟩
theorem ok__law_pull {f : Addr} {fd : FuncData} (F : FnP K "_law_pull" s__law_pull f fd) (B : Bi mg) : FnG P w K mg base CX0 10 f fd ["_law_bag_here", "_law_upto"] spPull := by
 refine okG F sc__law_pull (fun vs H Q E h => ?_) (fun cdv A outer s H vs Q E hr h => ?_)
 ·obtain ⟨b, cs, u, rfl, _⟩ := h
  rfl
 obtain ⟨b, cs, u, rfl, hB, hu0, hu1, q⟩ := h
 obtain ⟨cells, i, r, k, hb, hc, hi⟩ := id hB.ex
 refine ⟨_, PSs.nox (pss_cons (ps_if (pt_cmpR (kOp (K := K) (r := uLt) rfl opu_lt) (pe_ix (kIx (K := K) (r := rIx) rfl ix_seq) (pv 0) pe_int (fun _ _ => rfl)) pe_int (nomark _)) (pss_cons (ps_asg (pe_op (kOp (K := K) (r := uAdd) rfl opu_add) (pe_ix (kIx (K := K) (r := rIx) rfl ix_seq) (pv 0) pe_int (fun _ _ => rfl)) pe_int) (pg_sub (pv 0) pe_int set_list))
 (pss_cons (ps_set (i := 2) sc__law_pull.nd rfl (.inl rfl) (pe_op (kOp (K := K) (r := uAdd) rfl opu_add) (pe_ix (kIx (K := K) (r := rIx) rfl ix_seq) (pv 0) pe_int (fun _ _ => rfl)) (pe_op opu_mul (pe_ix (kIx (K := K) (r := rIx) rfl ix_seq) (pv 0) pe_int (fun _ _ => rfl)) pe_int)))
 (pss_cons (ps_if (pt_cmpR opu_le (pe_ix (kIx (K := K) (r := rIx) rfl ix_seq) (pv 0) pe_int (fun _ _ => rfl)) (pe_callB (kCall (K := K) (r := uLen) rfl callu_len) (by rfl) B.b_len (by decide +kernel) (pa_cons (pe_ix (kIx (K := K) (r := rIx) rfl ix_seq) (pv 0) pe_int (fun _ _ => rfl)) pa_nil)) (nomark _)) (pss_one (ps_set (i := 2) sc__law_pull.nd rfl (.inl rfl) (pe_ix (kIx (K := K) (r := rIx) rfl ix_seq) (pe_ix (kIx (K := K) (r := rIx) rfl ix_seq) (pv 0) pe_int (fun _ _ => rfl)) (pe_op opu_sub (pe_ix (kIx (K := K) (r := rIx) rfl ix_seq) (pv 0) pe_int (fun _ _ => rfl)) pe_int) (fun _ _ => rfl)))) pss_nil)
 (pss_cons (ps_if (PW.pt (pw_or (pt_cmpR opu_gt (pe_ix (kIx (K := K) (r := rIx) rfl ix_seq) (pv 0) pe_int (fun _ _ => rfl)) (pe_callB (kCall (K := K) (r := uLen) rfl callu_len) (by rfl) B.b_len (by decide +kernel) (pa_cons (pe_ix (kIx (K := K) (r := rIx) rfl ix_seq) (pv 0) pe_int (fun _ _ => rfl)) pa_nil)) (nomark _)) (pw_or1 (pt_cmpR (kOp (K := K) (r := uLt) rfl opu_lt) (pv 2) (pe_op opu_pow pe_int pe_int) (nomark _))))) (pss_cons (ps_set (i := 3) sc__law_pull.nd rfl (.inl rfl) (pe_op opu_mod (pe_op (kOp (K := K) (r := uAdd) rfl opu_add) (pe_op (kOp (K := K) (r := uAdd) rfl opu_add) (pe_op opu_mul (pv 2) pe_int) (pe_op opu_mul (pe_ix (kIx (K := K) (r := rIx) rfl ix_seq) (pv 0) pe_int (fun _ _ => rfl)) pe_int)) (pe_ix (kIx (K := K) (r := rIx) rfl ix_seq) (pv 0) pe_int (fun _ _ => rfl))) pe_int))
 (pss_cons (ps_set (i := 4) sc__law_pull.nd rfl (.inl rfl) (pe_op opu_mod (pe_op (kOp (K := K) (r := uAdd) rfl opu_add) (pe_op opu_mul (pv 3) (pv 3)) (pe_ix (kIx (K := K) (r := rIx) rfl ix_seq) (pv 0) pe_int (fun _ _ => rfl))) pe_int))
 (pss_one (ps_ret (pe_op opu_mod (pe_op opu_div (pe_op opu_mod (pe_op (kOp (K := K) (r := uAdd) rfl opu_add) (pe_op opu_mul (pv 4) pe_int) (pv 3)) pe_int) pe_int) (pv 1)))))) pss_nil)
 (pss_one (ps_asg (pv 2) (pg_sub (pv 0) pe_int set_list))))))) pss_nil)
 (pss_cons (ps_set (i := 5) sc__law_pull.nd rfl (.inl rfl) (pe_op opu_mod (pe_ix (kIx (K := K) (r := rIx) rfl ix_seq) (pv 0) pe_int (fun _ _ => rfl)) (pv 1)))
 (pss_cons (ps_asg (pe_op opu_div (pe_ix (kIx (K := K) (r := rIx) rfl ix_seq) (pv 0) pe_int (fun _ _ => rfl)) (pv 1)) (pg_sub (pv 0) pe_int set_list))
 (pss_one (ps_ret (pv 5)))))), rd_start (σ0 := [some (.ref b), some (.int u), none, none, none, none]) rfl ?_⟩
 unfold bagO at hb
 have hcb := hB.ne
 walk_at "q"
 refine g_by (fun c1 => ?_) (fun c1 => ?_)
 ·walk_at "q"
  refine g_setL (j := 1) hb rfl ?_
  have hb1 : (upd H b (.lst ([V.ref cs, .int i, .int r, .int k].set 1 (.int (i + 1))))) b = some (.lst [V.ref cs, .int (i + 1), .int r, .int k]) := upd_same
  have hc1 : (upd H b (.lst ([V.ref cs, .int i, .int r, .int k].set 1 (.int (i + 1))))) cs = some (.lst (cells.map V.int)) := by rw [upd_ne hcb]; exact hc
  have hf1 : Fr [b] H (upd H b (.lst ([V.ref cs, .int i, .int r, .int k].set 1 (.int (i + 1))))) := hB.frp
  generalize upd H b (.lst ([V.ref cs, .int i, .int r, .int k].set 1 (.int (i + 1)))) = H1 at *
  walk_at "q"
  refine g_by (fun c2 => ?_) (fun c2 => ?_)
  ·walk_at "q"
   have hl : i + 1 ≤ (cells.length : Int) := by rw [List.length_map] at c2; exact c2
   obtain ⟨j, rfl⟩ : ∃ j : Nat, i = (j : Int) := ⟨i.toNat, by omega⟩
   have hj : j < cells.length := by omega
   have hat : atI (cells.map V.int) ((j : Int) + 1 - 1) = some (.int cells[j]) := by
    rw [show (j : Int) + 1 - 1 = (j : Int) by omega]
    exact atI_nat (by rw [List.getElem?_map, List.getElem?_eq_getElem hj]; rfl)
   refine g_ixL (SqL.of hc1) hat ?_
   generalize cells[j] = seed
   walk_at "q"
   have hB1 : BagAt H1 b cs := ⟨cells, _, r, k, hb1, hc1, by omega⟩
   refine g_by (fun c3 => ?_) (fun c3 => ?_)
   ·have key : ∀ z : Int, Q (.int (z % u)) H1 := fun z => q _ _ (Int.emod_nonneg _ (by omega)) (Int.emod_lt_of_pos _ hu0) hB1 hf1
    walk_at "q"
    exact key _
   ·walk_at "q"
    refine g_by (fun c4 => ?_) (fun c4 => ?_)
    ·have key : ∀ z : Int, Q (.int (z % u)) H1 := fun z => q _ _ (Int.emod_nonneg _ (by omega)) (Int.emod_lt_of_pos _ hu0) hB1 hf1
     walk_at "q"
     exact key _
    ·walk_at "q"
     refine g_setL (j := 2) hb1 rfl ?_
     have hb2 : (upd H1 b (.lst ([V.ref cs, .int ((j : Int) + 1), .int r, .int k].set 2 (.int seed)))) b = some (.lst [V.ref cs, .int ((j : Int) + 1), .int seed, .int k]) := upd_same
     have hB2 : BagAt (upd H1 b (.lst ([V.ref cs, .int ((j : Int) + 1), .int r, .int k].set 2 (.int seed)))) b cs := hB1.put (by omega)
     have hf2 : Fr [b] H (upd H1 b (.lst ([V.ref cs, .int ((j : Int) + 1), .int r, .int k].set 2 (.int seed)))) := hf1.trans hB1.frp
     generalize upd H1 b (.lst ([V.ref cs, .int ((j : Int) + 1), .int r, .int k].set 2 (.int seed))) = H2 at *
     walk_at "q"
     refine g_setL (j := 2) hb2 rfl ?_
     walk_at "q"
     exact q _ _ (Int.emod_nonneg _ (by omega)) (Int.emod_lt_of_pos _ hu0) (hB2.put (by omega)) (hf2.trans hB2.frp)
  ·walk_at "q"
   generalize k + (i + 1) * 7919 = seed
   walk_at "q"
   have hB1 : BagAt H1 b cs := ⟨cells, _, r, k, hb1, hc1, by omega⟩
   refine g_by (fun c3 => ?_) (fun c3 => ?_)
   ·have key : ∀ z : Int, Q (.int (z % u)) H1 := fun z => q _ _ (Int.emod_nonneg _ (by omega)) (Int.emod_lt_of_pos _ hu0) hB1 hf1
    walk_at "q"
    exact key _
   ·walk_at "q"
    refine g_by (fun c4 => ?_) (fun c4 => ?_)
    ·have key : ∀ z : Int, Q (.int (z % u)) H1 := fun z => q _ _ (Int.emod_nonneg _ (by omega)) (Int.emod_lt_of_pos _ hu0) hB1 hf1
     walk_at "q"
     exact key _
    ·walk_at "q"
     refine g_setL (j := 2) hb1 rfl ?_
     have hb2 : (upd H1 b (.lst ([V.ref cs, .int (i + 1), .int r, .int k].set 2 (.int seed)))) b = some (.lst [V.ref cs, .int (i + 1), .int seed, .int k]) := upd_same
     have hB2 : BagAt (upd H1 b (.lst ([V.ref cs, .int (i + 1), .int r, .int k].set 2 (.int seed)))) b cs := hB1.put (by omega)
     have hf2 : Fr [b] H (upd H1 b (.lst ([V.ref cs, .int (i + 1), .int r, .int k].set 2 (.int seed)))) := hf1.trans hB1.frp
     generalize upd H1 b (.lst ([V.ref cs, .int (i + 1), .int r, .int k].set 2 (.int seed))) = H2 at *
     walk_at "q"
     refine g_setL (j := 2) hb2 rfl ?_
     walk_at "q"
     exact q _ _ (Int.emod_nonneg _ (by omega)) (Int.emod_lt_of_pos _ hu0) (hB2.put (by omega)) (hf2.trans hB2.frp)
 ·walk_at "q"
  refine g_setL (j := 2) hb rfl ?_
  walk_at "q"
  exact q _ _ (Int.emod_nonneg _ (by omega)) (Int.emod_lt_of_pos _ hu0) (hB.put hi) hB.frp
end
theorem atI_in {α : Type} {xs : List α} {d : Int} (h0 : 0 ≤ d) (h1 : d < (xs.length : Int)) : ∃ v, v ∈ xs ∧ atI xs d = some v := by
 obtain ⟨j, rfl⟩ : ∃ j : Nat, d = (j : Int) := ⟨d.toNat, by omega⟩
 have hj : j < xs.length := by omega
 exact ⟨xs[j], List.getElem_mem hj, atI_nat (List.getElem?_eq_getElem hj)⟩
def spOne (K : PySem.W.Frag) : Sp := fun vs H Q _ => ∃ (b cs r : Addr) (xs : List V), vs = [.ref b, .ref r] ∧ BagAt H b cs ∧ ((SqL K H r xs ∧ r ≠ b) ∨ SqT K H r xs) ∧ 0 < xs.length ∧ xs.length ≤ 1000 ∧
 ∀ v H', v ∈ xs → BagAt H' b cs → Fr [b] H H' → Q v H'
abbrev s__law_one : Stmt := topS 19
theorem sc__law_one : FnScope ["_law_bag_here", "_law_row"] ["_law_bag_here", "_law_row"] (defScope s__law_one) := ⟨rfl, rfl, rfl, by decide +kernel, rfl, by decide +kernel, by decide +kernel⟩
section
variable {P : Program} {w : World} {K : PySem.W.Frag} {mg : Str → Option Value} {base : Heap}
theorem ok__law_one {f : Addr} {fd : FuncData} (F : FnP K "_law_one" s__law_one f fd) (B : Bi mg) (C__law_pull : CalG P w K mg base 10 "_law_pull" spPull) : FnG P w K mg base CX0 20 f fd ["_law_bag_here", "_law_row"] (spOne K) := by
 refine okG F sc__law_one (fun vs H Q E h => ?_) (fun cdv A outer s H vs Q E hr h => ?_)
 ·obtain ⟨b, cs, r, xs, rfl, _⟩ := h
  rfl
 obtain ⟨b, cs, r, xs, rfl, hB, hx, h0, h1, q⟩ := h
 refine ⟨_, PSs.nox (pss_one (ps_ret (pe_ix (kIx (K := K) (r := rIx) rfl ix_seq) (pv 1) (pe_calG C__law_pull hr rfl (pa_cons (pv 0) (pa_cons (pe_callB (kCall (K := K) (r := uLen) rfl callu_len) (by rfl) B.b_len (by decide +kernel) (pa_cons (pv 1) pa_nil)) pa_nil))) (fun _ _ => rfl)))), rd_start (σ0 := [some (.ref b), some (.ref r)]) rfl ?_⟩
 walk_at "q"
 refine g_len (hx.imp (fun z => z.1) id) ?_
 walk_at "q"
 refine ⟨b, cs, _, rfl, hB, by omega, Int.lt_of_le_of_lt (b := 1000) (by omega) (by decide), fun d H' d0 d1 hB' hF => ?_⟩
 obtain ⟨v, hv, ha⟩ := atI_in d0 d1
 rcases hx with ⟨hx, hn⟩ | hx
 ·exact g_ixL (hF.seq (fun z => hn (List.mem_singleton.mp z)) hx) ha (q v H' hv hB' hF)
 ·exact g_ixT (hF.tup hx) ha (q v H' hv hB' hF)
end
def isLet (c : Nat) : Bool := decide (97 ≤ c ∧ c ≤ 122)
def isFig (c : Nat) : Bool := decide (48 ≤ c ∧ c ≤ 57)
def WordP (x : Str) : Prop := ∃ c r, x.cps.toList = c :: r ∧ isLet c = true ∧ (∀ d ∈ r, (isLet d || isFig d) = true) ∧ r.length ≤ 11
def signs36 : Str := "abcdefghijklmnopqrstuvwxyz0123456789"
theorem signs36_list : signs36.cps.toList = [97, 98, 99, 100, 101, 102, 103, 104, 105, 106, 107, 108, 109, 110, 111, 112, 113, 114, 115, 116, 117, 118, 119, 120, 121, 122, 48, 49, 50, 51, 52, 53, 54, 55, 56, 57] := by decide +kernel
theorem signs36_at {d : Int} (h0 : 0 ≤ d) (h1 : d < 36) : ∃ c, atI signs36.cps.toList d = some c ∧ (isLet c || isFig c) = true := by
 obtain ⟨c, hc, ha⟩ := atI_in (xs := signs36.cps.toList) h0 (by rw [signs36_list]; exact h1)
 refine ⟨c, ha, ?_⟩
 rw [signs36_list] at hc
 have z : ∀ x ∈ ([97, 98, 99, 100, 101, 102, 103, 104, 105, 106, 107, 108, 109, 110, 111, 112, 113, 114, 115, 116, 117, 118, 119, 120, 121, 122, 48, 49, 50, 51, 52, 53, 54, 55, 56, 57] : List Nat), (isLet x || isFig x) = true := by decide
 exact z c hc
theorem signs26_at {d : Int} (h0 : 0 ≤ d) (h1 : d < 26) : ∃ c, atI signs36.cps.toList d = some c ∧ isLet c = true := by
 obtain ⟨j, rfl⟩ : ∃ j : Nat, d = (j : Int) := ⟨d.toNat, by omega⟩
 have hj : j < 26 := by omega
 have z : ∀ j : Nat, j < 26 → ∃ c, signs36.cps.toList[j]? = some c ∧ isLet c = true := by
  rw [signs36_list]
  intro j hj
  have y : ∀ i : Fin 26, isLet (([97, 98, 99, 100, 101, 102, 103, 104, 105, 106, 107, 108, 109, 110, 111, 112, 113, 114, 115, 116, 117, 118, 119, 120, 121, 122, 48, 49, 50, 51, 52, 53, 54, 55, 56, 57] : List Nat).getD i.val 0) = true := by decide
  have y2 := y ⟨j, hj⟩
  have hl : j < ([97, 98, 99, 100, 101, 102, 103, 104, 105, 106, 107, 108, 109, 110, 111, 112, 113, 114, 115, 116, 117, 118, 119, 120, 121, 122, 48, 49, 50, 51, 52, 53, 54, 55, 56, 57] : List Nat).length := by
   show j < 36
   omega
  refine ⟨_, List.getElem?_eq_getElem hl, ?_⟩
  rw [List.getD_eq_getElem?_getD, List.getElem?_eq_getElem hl] at y2
  exact y2
 obtain ⟨c, h1, h2⟩ := z j hj
 exact ⟨c, atI_nat h1, h2⟩
theorem len_le12 {x : Str} (h : WordP x) : x.length ≤ 12 := by
 obtain ⟨c, r, e, _, _, l⟩ := h
 rw [TL.len_tl]
 show x.cps.toList.length ≤ 12
 rw [e, List.length_cons]
 omega
def spWord : Sp := fun vs H Q _ => ∃ (b cs : Addr), vs = [.ref b] ∧ BagAt H b cs ∧ ∀ x H', WordP x → BagAt H' b cs → Fr [b] H H' → Q (.str x) H'
abbrev s__law_word : Stmt := topS 22
theorem sc__law_word : FnScope ["_law_bag_here", "_law_signs", "_law_word_here", "_law_k"] ["_law_bag_here"] (defScope s__law_word) := ⟨rfl, rfl, rfl, by decide +kernel, rfl, by decide +kernel, by decide +kernel⟩
section
variable {P : Program} {w : World} {K : PySem.W.Frag} {mg : Str → Option Value} {base : Heap}
theorem ok__law_word {f : Addr} {fd : FuncData} (F : FnP K "_law_word" s__law_word f fd) (B : Bi mg) (C__law_pull : CalG P w K mg base 10 "_law_pull" spPull) (C__law_one : CalG P w K mg base 20 "_law_one" (spOne K)) : FnG P w K mg base CX0 30 f fd ["_law_bag_here"] spWord := by
 refine okG F sc__law_word (fun vs H Q E h => ?_) (fun cdv A outer s H vs Q E hr h => ?_)
 ·obtain ⟨b, cs, rfl, _⟩ := h
  rfl
 obtain ⟨b, cs, rfl, hB, q⟩ := h
 refine ⟨_, PSs.nox (pss_cons (ps_set (i := 1) sc__law_word.nd rfl (.inl rfl) pe_str)
 (pss_cons (ps_set (i := 2) sc__law_word.nd rfl (.inl rfl) (pe_ix (kIx (K := K) (r := rIx) rfl ix_seq) (pv 1) (pe_calG C__law_pull hr rfl (pa_cons (pv 0) (pa_cons pe_int pa_nil))) (fun _ _ => rfl)))
 (pss_cons (ps_for PassesOwn.never rfl (pi_range1 rfl B.b_range (pa_cons (pe_calG C__law_pull hr rfl (pa_cons (pv 0) (pa_cons (pe_calG C__law_one hr rfl (pa_cons (pv 0) (pa_cons (pe_lst (pa_cons pe_int (pa_cons pe_int pa_nil))) pa_nil))) pa_nil))) pa_nil)) (pg_name (i := 3) sc__law_word.nd rfl (by first | exact Or.inl rfl | exact Or.inr rfl)) (pss_one (ps_set (i := 2) sc__law_word.nd rfl (.inl rfl) (pe_op (kOp (K := K) (r := uAdd) rfl opu_add) (pv 2) (pe_ix (kIx (K := K) (r := rIx) rfl ix_seq) (pv 1) (pe_calG C__law_pull hr rfl (pa_cons (pv 0) (pa_cons pe_int pa_nil))) (fun _ _ => rfl))))))
 (pss_one (ps_ret (pv 2)))))), rd_start (σ0 := [some (.ref b), none, none, none]) rfl ?_⟩
 walk_at "q"
 refine ⟨b, cs, _, rfl, hB, by decide, by decide, fun d H1 d0 d1 hB1 hF1 => ?_⟩
 obtain ⟨c0, ha, hc0⟩ := signs26_at d0 d1
 refine g_ixS (le_of (by decide)) ha ?_
 walk_at "q"
 refine ⟨le_of (by decide), fun p hp => ?_⟩
 have hF2 : Fr [b] H1 (upd H1 p (.lst [V.int 3, .int 12])) := Fr.new hp
 have hB2 := hB1.fr0 (Fr.new (M := []) (o := .lst [V.int 3, .int 12]) hp)
 have hpl : (upd H1 p (.lst [V.int 3, .int 12])) p = some (.lst [V.int 3, .int 12]) := upd_same
 generalize upd H1 p (.lst [V.int 3, .int 12]) = H2 at *
 walk_at "q"
 refine ⟨b, cs, p, [V.int 3, .int 12], rfl, hB2, .inl ⟨SqL.of hpl, (hB1.some hp).1⟩, by decide, by decide, fun v H3 hv hB3 hF3 => ?_⟩
 obtain ⟨n, rfl, n0, n1⟩ : ∃ n : Int, v = .int n ∧ 0 < n ∧ n ≤ 12 := by
  rcases List.mem_cons.mp hv with e | hv
  ·exact ⟨3, e, by decide, by decide⟩
  ·exact ⟨12, List.mem_singleton.mp hv, by decide, by decide⟩
 walk_at "q"
 refine ⟨b, cs, n, rfl, hB3, n0, Int.lt_of_le_of_lt n1 (by decide), fun m H4 m0 m1 hB4 hF4 => ?_⟩
 walk_at "q"
 refine ⟨m, rfl, by omega, by omega, for_range (lo := 0) (n := m.toNat) (fun i σ H' => ∃ (x : Str) (z : Option V), σ = [some (.ref b), some (.str signs36), some (.str x), z] ∧ Fr [b] H H' ∧ BagAt H' b cs ∧
  ∃ r, x.cps.toList = c0 :: r ∧ (∀ d ∈ r, (isLet d || isFig d) = true) ∧ r.length = i) ⟨_, _, rfl, ((hF1.trans hF2).trans hF3).trans hF4, hB4, [], rfl, (fun _ z => nomatch z), rfl⟩ (fun i σ H' hi h => ?_) (fun σ H' h => ?_)⟩
 ·obtain ⟨x, z, rfl, hF, hB', r, hx, hr1, hr2⟩ := h
  walk_at "q"
  refine ⟨b, cs, _, rfl, hB', by decide, by decide, fun d H5 d0 d1 hB5 hF5 => ?_⟩
  obtain ⟨c1, ha1, hc1⟩ := signs36_at d0 d1
  refine g_ixS (le_of (by decide)) ha1 ?_
  have hxl : x.length = r.length + 1 := by rw [TL.len_tl]; show x.cps.toList.length = _; rw [hx]; rfl
  refine g_addS (le_of (by rw [hxl]; show r.length + 1 + 1 ≤ _; omega)) ?_
  walk_at "q"
  refine ⟨_, _, rfl, hF.trans hF5, hB5, r ++ [c1], ?_, ?_, by rw [List.length_append, hr2]; rfl⟩
  ·show TL.tl (x ++ ⟨#[c1]⟩) = _
   rw [TL.tl_append]
   show x.cps.toList ++ [c1] = _
   rw [hx]
   rfl
  ·intro d hd
   rcases List.mem_append.mp hd with hd | hd
   ·exact hr1 d hd
   ·rw [List.mem_singleton.mp hd]; exact hc1
 ·obtain ⟨x, z, rfl, hF, hB', r, hx, hr1, hr2⟩ := h
  walk_at "q"
  exact q x H' ⟨c0, r, hx, hc0, hr1, by omega⟩ hB' hF
end
def spNumber : Sp := fun vs H Q _ => ∃ (b cs : Addr), vs = [.ref b] ∧ BagAt H b cs ∧ ∀ n H', -(10 ^ 30) < n → n < 10 ^ 30 → BagAt H' b cs → Fr [b] H H' → Q (.int n) H'
abbrev s__law_number : Stmt := topS 24
theorem sc__law_number : FnScope ["_law_bag_here"] ["_law_bag_here"] (defScope s__law_number) := ⟨rfl, rfl, rfl, by decide +kernel, rfl, by decide +kernel, by decide +kernel⟩
section
variable {P : Program} {w : World} {K : PySem.W.Frag} {mg : Str → Option Value} {base : Heap}
theorem ok__law_number {f : Addr} {fd : FuncData} (F : FnP K "_law_number" s__law_number f fd) (C__law_pull : CalG P w K mg base 10 "_law_pull" spPull) : FnG P w K mg base CX0 30 f fd ["_law_bag_here"] spNumber := by
 refine okG F sc__law_number (fun vs H Q E h => ?_) (fun cdv A outer s H vs Q E hr h => ?_)
 ·obtain ⟨b, cs, rfl, _⟩ := h
  rfl
 obtain ⟨b, cs, rfl, hB, q⟩ := h
 refine ⟨_, PSs.nox (pss_cons (ps_if (pt_cmpR (kOp (K := K) (r := uEq) rfl (opu_eq hr.units)) (pe_calG C__law_pull hr rfl (pa_cons (pv 0) (pa_cons pe_int pa_nil))) pe_int (nomark _)) (pss_one (ps_ret (pe_op opu_mul (pe_ix (kIx (K := K) (r := rIx) rfl ix_seq) (pe_lst (pa_cons pe_int (pa_cons (pe_op opu_sub pe_int pe_int) pa_nil))) (pe_calG C__law_pull hr rfl (pa_cons (pv 0) (pa_cons pe_int pa_nil))) (fun _ _ => rfl)) (pe_calG C__law_pull hr rfl (pa_cons (pv 0) (pa_cons (pe_op opu_pow pe_int pe_int) pa_nil)))))) pss_nil)
 (pss_one (ps_ret (pe_op opu_sub (pe_calG C__law_pull hr rfl (pa_cons (pv 0) (pa_cons pe_int pa_nil))) pe_int)))), rd_start (σ0 := [some (.ref b)]) rfl ?_⟩
 walk_at "q"
 refine ⟨b, cs, _, rfl, hB, by decide, by decide, fun d H1 d0 d1 hB1 hF1 => ?_⟩
 walk_at "q"
 refine g_by (fun c => ?_) (fun c => ?_)
 ·walk_at "q"
  refine ⟨le_of (by decide), fun p hp => ?_⟩
  have hF2 : Fr [b] H1 (upd H1 p (.lst [V.int 1, .int (0 - 1)])) := Fr.new hp
  have hB2 := hB1.fr0 (Fr.new (M := []) (o := .lst [V.int 1, .int (0 - 1)]) hp)
  have hpl : (upd H1 p (.lst [V.int 1, .int (0 - 1)])) p = some (.lst [V.int 1, .int (0 - 1)]) := upd_same
  generalize upd H1 p (.lst [V.int 1, .int (0 - 1)]) = H2 at *
  walk_at "q"
  refine ⟨b, cs, _, rfl, hB2, by decide, by decide, fun d2 H3 d20 d21 hB3 hF3 => ?_⟩
  obtain ⟨v, hv, ha⟩ := atI_in (xs := [V.int 1, .int (0 - 1)]) d20 d21
  refine g_ixL (hF3.seq (fun z => (hB1.some hp).1 (List.mem_singleton.mp z)) (SqL.of hpl)) ha ?_
  walk_at "q"
  refine ⟨b, cs, _, rfl, hB3, by decide +kernel, by decide +kernel, fun d4 H5 d40 d41 hB5 hF5 => ?_⟩
  have d41' : d4 < 10 ^ 30 := d41
  have fin : ∀ n : Int, -(10 ^ 30) < n → n < 10 ^ 30 → Q (.int n) H5 := fun n h1 h2 => q n H5 h1 h2 hB5 (((hF1.trans hF2).trans hF3).trans hF5)
  rcases List.mem_cons.mp hv with e | hv
  ·subst e
   walk_at "q"
   exact fin _ (by omega) (by omega)
  ·obtain rfl : v = .int (0 - 1) := List.mem_singleton.mp hv
   walk_at "q"
   exact fin _ (by omega) (by omega)
 ·walk_at "q"
  refine ⟨b, cs, _, rfl, hB1, by decide, by decide, fun d2 H2 d20 d21 hB2 hF2 => ?_⟩
  walk_at "q"
  exact q _ _ (by omega) (by omega) hB2 (hF1.trans hF2)
end
def ValOf (k : Str) (v : V) : Prop := (k = "number" ∧ ∃ n, v = .int n ∧ -(10 ^ 30) < n ∧ n < 10 ^ 30) ∨ (k = "flag" ∧ ∃ c, v = .bl c) ∨ (k = "word" ∧ ∃ x, v = .str x ∧ WordP x)
def spValue : Sp := fun vs H Q _ => ∃ (b cs : Addr) (k : Str), vs = [.ref b, .str k] ∧ (k = "number" ∨ k = "flag" ∨ k = "word") ∧ BagAt H b cs ∧ ∀ v H', ValOf k v → BagAt H' b cs → Fr [b] H H' → Q v H'
abbrev s__law_value : Stmt := topS 25
theorem sc__law_value : FnScope ["_law_bag_here", "_law_kind"] ["_law_bag_here", "_law_kind"] (defScope s__law_value) := ⟨rfl, rfl, rfl, by decide +kernel, rfl, by decide +kernel, by decide +kernel⟩
def wordB (x : Str) : Bool := match x.cps.toList with
 | [] => false
 | c :: r => isLet c && r.all (fun d => isLet d || isFig d) && decide (r.length ≤ 11)
theorem wordB_ok {x : Str} (h : wordB x = true) : WordP x := by
 unfold wordB at h
 cases e : x.cps.toList with
 | nil => rw [e] at h; cases h
 | cons c r =>
  rw [e] at h
  simp only [Bool.and_eq_true, decide_eq_true_eq, List.all_eq_true] at h
  exact ⟨c, r, e, h.1.1, h.1.2, h.2⟩
theorem WordP.b {x : Str} (h : WordP x) : wordB x = true := by
 obtain ⟨c, r, e, h1, h2, h3⟩ := h
 unfold wordB
 rw [e]
 simp only [Bool.and_eq_true, decide_eq_true_eq, List.all_eq_true]
 exact ⟨⟨h1, h2⟩, h3⟩
section
variable {P : Program} {w : World} {K : PySem.W.Frag} {mg : Str → Option Value} {base : Heap}
theorem ok__law_value {f : Addr} {fd : FuncData} (F : FnP K "_law_value" s__law_value f fd) (C__law_pull : CalG P w K mg base 10 "_law_pull" spPull) (C__law_one : CalG P w K mg base 20 "_law_one" (spOne K))
  (C__law_word : CalG P w K mg base 30 "_law_word" spWord) (C__law_number : CalG P w K mg base 30 "_law_number" spNumber) : FnG P w K mg base CX0 40 f fd ["_law_bag_here", "_law_kind"] spValue := by
 refine okG F sc__law_value (fun vs H Q E h => ?_) (fun cdv A outer s H vs Q E hr h => ?_)
 ·obtain ⟨b, cs, k, rfl, _⟩ := h
  rfl
 obtain ⟨b, cs, k, rfl, hk, hB, q⟩ := h
 refine ⟨_, PSs.nox (pss_cons (ps_if (pt_cmpR (kOp (K := K) (r := uEq) rfl (opu_eq hr.units)) (pv 1) pe_str (nomark _)) (pss_one (ps_ret (pe_calG C__law_number hr rfl (pa_cons (pv 0) pa_nil)))) pss_nil)
 (pss_cons (ps_if (pt_cmpR (kOp (K := K) (r := uEq) rfl (opu_eq hr.units)) (pv 1) pe_str (nomark _)) (pss_one (ps_ret (pe_cmpR (kOp (K := K) (r := uEq) rfl (opu_eq hr.units)) (pe_calG C__law_pull hr rfl (pa_cons (pv 0) (pa_cons pe_int pa_nil))) pe_int (nomark _)))) pss_nil)
 (pss_cons (ps_if (pt_cmpR (kOp (K := K) (r := uEq) rfl (opu_eq hr.units)) (pe_calG C__law_pull hr rfl (pa_cons (pv 0) (pa_cons pe_int pa_nil))) pe_int (nomark _)) (pss_one (ps_ret (pe_calG C__law_word hr rfl (pa_cons (pv 0) pa_nil)))) pss_nil)
 (pss_one (ps_ret (pe_calG C__law_one hr rfl (pa_cons (pv 0) (pa_cons (pe_lst (pa_cons pe_str (pa_cons pe_str (pa_cons pe_str (pa_cons pe_str (pa_cons pe_str pa_nil)))))) pa_nil)))))))), rd_start (σ0 := [some (.ref b), some (.str k)]) rfl ?_⟩
 rcases hk with rfl | rfl | rfl
 ·walk_at "q"
  exact ⟨b, cs, rfl, hB, fun n H' h1 h2 hB' hF => q _ _ (.inl ⟨rfl, n, rfl, h1, h2⟩) hB' hF⟩
 ·walk_at "q"
  refine ⟨b, cs, _, rfl, hB, by decide, by decide, fun d H1 d0 d1 hB1 hF1 => ?_⟩
  walk_at "q"
  exact q _ _ (.inr (.inl ⟨rfl, _, rfl⟩)) hB1 hF1
 ·walk_at "q"
  refine ⟨b, cs, _, rfl, hB, by decide, by decide, fun d H1 d0 d1 hB1 hF1 => ?_⟩
  walk_at "q"
  refine g_by (fun c => ?_) (fun c => ?_)
  ·walk_at "q"
   exact ⟨b, cs, rfl, hB1, fun x H' hx hB' hF => q _ _ (.inr (.inr ⟨rfl, x, rfl, hx⟩)) hB' (hF1.trans hF)⟩
  ·walk_at "q"
   refine ⟨le_of (by decide), fun p hp => ?_⟩
   have hF2 : Fr [b] H1 (upd H1 p (.lst [V.str "ann", .str "b", .str "z9", .str "if", .str "me"])) := Fr.new hp
   have hB2 := hB1.fr0 (Fr.new (M := []) (o := .lst [V.str "ann", .str "b", .str "z9", .str "if", .str "me"]) hp)
   have hpl : (upd H1 p (.lst [V.str "ann", .str "b", .str "z9", .str "if", .str "me"])) p = some (.lst [V.str "ann", .str "b", .str "z9", .str "if", .str "me"]) := upd_same
   generalize upd H1 p (.lst [V.str "ann", .str "b", .str "z9", .str "if", .str "me"]) = H2 at *
   walk_at "q"
   refine ⟨b, cs, p, _, rfl, hB2, .inl ⟨SqL.of hpl, (hB1.some hp).1⟩, by decide, by decide, fun v H3 hv hB3 hF3 => ?_⟩
   refine q _ _ (.inr (.inr ⟨rfl, ?_⟩)) hB3 ((hF1.trans hF2).trans hF3)
   simp only [List.mem_cons, List.not_mem_nil, or_false] at hv
   rcases hv with rfl | rfl | rfl | rfl | rfl
   all_goals exact ⟨_, rfl, wordB_ok (by decide +kernel)⟩
end
def kvOf (vd : List (Str × Str)) : List (Key × V) := vd.map fun p => ((Sum.inr p.1 : Key), V.str p.2)
theorem kvOf_val (vd : List (Str × Str)) (x : Str) : valV (kvOf vd) (Sum.inr x : Key) = (vd.lookup x).map V.str := by
 induction vd with
 | nil => rfl
 | cons p r ih =>
  obtain ⟨y, k⟩ := p
  by_cases h : y = x
  ·subst h
   show valV (((Sum.inr y : Key), V.str k) :: kvOf r) (Sum.inr y) = _
   rw [valV_pos rfl, List.lookup_cons_self]
   rfl
  ·show valV (((Sum.inr y : Key), V.str k) :: kvOf r) (Sum.inr x) = _
   have h2 : (x == y) = false := beq_eq_false_iff_ne.mpr (Ne.symm h)
   rw [valV_neg (fun z => h (Sum.inr.inj z)), List.lookup_cons, h2]
   exact ih
theorem kvOf_keys (vd : List (Str × Str)) : ((kvOf vd).map fun kv => kV kv.1) = (vd.map (·.1)).map V.str := by
 unfold kvOf
 rw [List.map_map, List.map_map]
 rfl
theorem lookup_mem {vd : List (Str × Str)} {x : Str} (h : x ∈ vd.map (·.1)) : ∃ k, vd.lookup x = some k := by
 cases e : vd.lookup x with
 | some k => exact ⟨k, rfl⟩
 | none =>
  rw [List.lookup_eq_none_iff] at e
  obtain ⟨p, hp, rfl⟩ := List.mem_map.mp h
  have := e p hp
  simp at this
def strsD (ws : List Str) : PyData := .list (ws.map .str)
theorem dp_strs {K : PySem.W.Frag} {H : Hp} {p : Addr} {ws : List Str} (h : SqL K H p (ws.map V.str)) : Dp K H (.ref p) (strsD ws) := by
 refine .lst h ?_
 induction ws with
 | nil => exact .nil
 | cons x r ih => exact .cons (.str x) (dpa_strs r)
where
 dpa_strs {K : PySem.W.Frag} {H : Hp} : ∀ ws : List Str, DpAll K H (ws.map V.str) (ws.map .str)
 | [] => .nil
 | x :: r => .cons (.str x) (dpa_strs r)
theorem shaped_strs {ws : List Str} (h : ∀ x ∈ ws, PyData.strOk x = true) : SeqAt.shaped (strsD ws) = true := by
 have h1 : ∀ ws : List Str, (∀ x ∈ ws, PyData.strOk x = true) → PyData.canLayAll0 (ws.map .str) = true := by
  intro ws h
  induction ws with
  | nil => simp only [List.map_nil, PyData.canLayAll0]
  | cons x r ih => simp only [List.map_cons, PyData.canLayAll0, PyData.canLay0, h x List.mem_cons_self, ih fun y hy => h y (List.mem_cons_of_mem _ hy), Bool.and_self]
 have h2 : ∀ ws : List Str, PyData.depthAll (ws.map .str) = 0 := by
  intro ws
  induction ws with
  | nil => simp only [List.map_nil, PyData.depthAll]
  | cons x r ih => simp only [List.map_cons, PyData.depthAll, PyData.depth, ih, Nat.max_self]
 unfold SeqAt.shaped strsD
 simp only [PyData.canLay0, h1 ws h, PyData.depth, h2 ws, Bool.true_and]
 decide
theorem shaped_nil : SeqAt.shaped (.list []) = true := by decide +kernel
theorem eqv_strs_nil (ws : List Str) : PyData.eqv (strsD ws) (.list []) = decide (ws = []) := by
 unfold strsD
 cases ws with
 | nil => simp only [List.map_nil, PyData.eqv, PyData.eqvAll, decide_true]
 | cons x r => simp only [List.map_cons, PyData.eqv, PyData.eqvAll, reduceCtorEq, decide_false]
structure BiL (mg : Str → Option Value) : Prop where
 b_list : mg "list" = none
 b_sorted : mg "sorted" = none
def LeafAt (K : PySem.W.Frag) (H : Hp) (vd : List (Str × Str)) (k : Str) (p : Addr) : Prop := (∃ u, SqT K H p [.str "value", u] ∧ ValOf k u) ∨ ∃ x, SqT K H p [.str "var", .str x] ∧ vd.lookup x = some k
structure VarsAt (H : Hp) (d : Addr) (vd : List (Str × Str)) : Prop where
 at_ : H d = some (.dK (kvOf vd))
 len : vd.length < 60
 ok : ∀ p ∈ vd, PyData.strOk p.1 = true
theorem VarsAt.fr {H H' : Hp} {M : List Addr} {d : Addr} {vd : List (Str × Str)} (h : VarsAt H d vd) (e : Fr M H H') (n : d ∉ M) : VarsAt H' d vd := ⟨e.at h.at_ n, h.len, h.ok⟩
theorem VarsAt.ne {H : Hp} {d b cs : Addr} {vd : List (Str × Str)} (h : VarsAt H d vd) (hB : BagAt H b cs) : d ≠ b ∧ d ≠ cs := by
 obtain ⟨cells, i, r, k, h1, h2, h3⟩ := hB.ex
 exact ⟨fun e => (by have z := h.at_; rw [e, h1] at z; cases z), fun e => (by have z := h.at_; rw [e, h2] at z; cases z)⟩
def KindW (k : Str) : Prop := k = "number" ∨ k = "flag" ∨ k = "word"
def spLeaf (K : PySem.W.Frag) : Sp := fun vs H Q _ => ∃ (b cs d : Addr) (k : Str) (vd : List (Str × Str)), vs = [.ref b, .str k, .ref d] ∧ KindW k ∧ BagAt H b cs ∧ VarsAt H d vd ∧
 ∀ p H', LeafAt K H' vd k p → BagAt H' b cs → Fr [b] H H' → Q (.ref p) H'
abbrev s__law_leaf : Stmt := topS 38
theorem sc__law_leaf : FnScope ["_law_bag_here", "_law_kind", "_law_vars_of", "_law_alike", "_law_name"] ["_law_bag_here", "_law_kind", "_law_vars_of"] (defScope s__law_leaf) := ⟨rfl, rfl, rfl, by decide +kernel, rfl, by decide +kernel, by decide +kernel⟩
section
variable {P : Program} {w : World} {K : PySem.W.Frag} {mg : Str → Option Value} {base : Heap}
theorem ok__law_leaf {f : Addr} {fd : FuncData} (F : FnP K "_law_leaf" s__law_leaf f fd) (B : BiL mg) (C__law_pull : CalG P w K mg base 10 "_law_pull" spPull) (C__law_one : CalG P w K mg base 20 "_law_one" (spOne K))
  (C__law_value : CalG P w K mg base 40 "_law_value" spValue) : FnG P w K mg base CX0 50 f fd ["_law_bag_here", "_law_kind", "_law_vars_of"] (spLeaf K) := by
 refine okG F sc__law_leaf (fun vs H Q E h => ?_) (fun cdv A outer s H vs Q E hr h => ?_)
 ·obtain ⟨b, cs, d, k, vd, rfl, _⟩ := h
  rfl
 obtain ⟨b, cs, d, k, vd, rfl, hk, hB, hV, q⟩ := h
 have hu := hu_of hr.rm
 refine ⟨_, PSs.nox (pss_cons (ps_setLc (i := 3) (own := [("_law_name", 4)]) (g := gName 4) rfl sc__law_leaf.nd rfl rfl (sw_true rfl rfl rfl (by decide +kernel)) (pi_listK (K := K) rfl (pe_callB (kCall (K := K) (r := rSortedS) rfl cr_sortedS) (by rfl) B.b_sorted (by decide +kernel) (pa_cons (pe_callTy (kCall (K := K) (r := uList) rfl callu_list) (by rfl) B.b_list (by decide +kernel) (pa_cons (pv 2) pa_nil)) pa_nil))) (blkOk_by (own := [("_law_name", 4)]) (N := ["_law_bag_here", "_law_kind", "_law_vars_of", "_law_alike", "_law_name"]) (sc := defScope s__law_leaf) (by decide +kernel)) (fun _ _ _ _ _ => (by exact (pg_name (i := 4) sc__law_leaf.nd rfl (by first | exact Or.inl rfl | exact Or.inr rfl)))) (fun _ _ _ _ _ => (by exact pts_one (pt_cmpR (kOp (K := K) (r := uEq) rfl (opu_eq hr.units)) (pe_dget hu (pv 2) (pv 4) (fun _ _ => rfl)) (pv 1) (nomark _)))) (fun _ _ _ _ _ => (by exact (pv 4))))
 (pss_cons (ps_if (PW.pt (pw_or (pt_cmpR (kOp (K := K) (r := uEq) rfl (opu_eq hr.units)) (pv 3) (pe_lst pa_nil) (nomark _)) (pw_or1 (pt_cmpR (kOp (K := K) (r := uEq) rfl (opu_eq hr.units)) (pe_calG C__law_pull hr rfl (pa_cons (pv 0) (pa_cons pe_int pa_nil))) pe_int (nomark _))))) (pss_one (ps_ret (pe_tup (pa_cons pe_str (pa_cons (pe_calG C__law_value hr rfl (pa_cons (pv 0) (pa_cons (pv 1) pa_nil))) pa_nil))))) pss_nil)
 (pss_one (ps_ret (pe_tup (pa_cons pe_str (pa_cons (pe_calG C__law_one hr rfl (pa_cons (pv 0) (pa_cons (pv 3) pa_nil))) pa_nil))))))), rd_start (σ0 := [some (.ref b), some (.str k), some (.ref d), none, none]) rfl ?_⟩
 walk_at "q"
 refine g_listD hV.at_ fun l hl => ?_
 rw [kvOf_keys]
 have f1 : Fr [] H (upd H l (.lst ((vd.map (·.1)).map V.str))) := Fr.new hl
 have hl1 : (upd H l (.lst ((vd.map (·.1)).map V.str))) l = some (.lst ((vd.map (·.1)).map V.str)) := upd_same
 generalize upd H l (.lst ((vd.map (·.1)).map V.str)) = H1 at *
 walk_at "q"
 refine ⟨l, vd.map (·.1), rfl, SqL.of hl1, by rw [List.length_map]; have := hV.len; omega, fun ys p2 hperm _ hp2 => ?_⟩
 have f2 : Fr [] H (upd H1 p2 (.lst (ys.map V.str))) := f1.trans (Fr.new hp2)
 have hp21 : (upd H1 p2 (.lst (ys.map V.str))) p2 = some (.lst (ys.map V.str)) := upd_same
 generalize upd H1 p2 (.lst (ys.map V.str)) = H2 at *
 have hyl : ys.length < 60 := by rw [hperm.length_eq, List.length_map]; exact hV.len
 refine ⟨p2, rfl, ⟨_, SqL.of hp21⟩, fun D hD => lc_it (walk_list (xs := ys.map V.str)) (fun i H' => Fr [] H2 H' ∧ ∃ ws : List Str, H' D = some (.lst (ws.map V.str)) ∧ ws.length ≤ i ∧ ∀ x ∈ ws, vd.lookup x = some k)
  ⟨Fr.new hD, [], upd_same, Nat.le_refl _, (fun _ z => nomatch z)⟩ (fun i H' _ h => h.1.seq (fun z => nomatch z) (SqL.of hp21)) (fun i x H' H'' hi h y => ?_) (fun H' h => ?_)⟩
 ·obtain ⟨rfl, hx⟩ := y
  obtain ⟨h1, ws, h2, h3, h4⟩ := h
  obtain ⟨z, hz, rfl⟩ := List.mem_map.mp (List.mem_of_getElem? hx)
  obtain ⟨k2, hk2⟩ := lookup_mem (hperm.mem_iff.mp hz)
  walk_at "q"
  refine ⟨rfl, ?_⟩
  walk_at "q"
  have hV' := (hV.fr f2 (fun z => nomatch z)).fr h1 (fun z => nomatch z)
  refine g_dgetS hV'.at_ (v := V.str k2) (by rw [kvOf_val, hk2]; rfl) ?_
  walk_at "q"
  refine g_by (fun c => ?_) (fun c => ?_)
  ·walk_at "q"
   refine ⟨_, h2, lt_of (by rw [List.length_map]; rw [List.length_map] at hi; omega), h1.over hD, ws ++ [z], ?_, ?_, ?_⟩
   ·rw [upd_same, List.map_append]; rfl
   ·rw [List.length_append]; exact Nat.succ_le_succ h3
   ·intro x hx
    rcases List.mem_append.mp hx with hx | hx
    ·exact h4 x hx
    ·rw [List.mem_singleton.mp hx, hk2, c]
  ·exact ⟨h1, ws, h2, Nat.le_succ_of_le h3, h4⟩
 ·obtain ⟨h1, ws, h2, h3, h4⟩ := h
  have f3 : Fr [] H H' := f2.trans h1
  walk_at "q"
  refine ⟨le_of (by decide), fun p4 hp4 => ?_⟩
  have f4 : Fr [] H' (upd H' p4 (.lst [])) := Fr.new hp4
  have hn4 : (upd H' p4 (.lst [])) p4 = some (.lst []) := upd_same
  have hD4 := f4.at h2 (fun z => nomatch z)
  have hB4 := (hB.fr0 f3).fr0 f4
  have hV4 := (hV.fr f3 (fun z => nomatch z)).fr f4 (fun z => nomatch z)
  have f5 := f3.trans f4
  generalize upd H' p4 (.lst []) = H4 at *
  refine g_eqD (dp_strs (SqL.of hD4)) (.lst (SqL.of hn4) .nil) (shaped_strs fun x hx => ?_) shaped_nil ?_
  ·have hm : x ∈ vd.map (·.1) := by
    have h5 := h4 x hx
    rw [List.lookup_eq_some_iff] at h5
    obtain ⟨l1, l2, e, _⟩ := h5
    rw [e]
    simp
   obtain ⟨pp, hpp, rfl⟩ := List.mem_map.mp hm
   exact hV.ok pp hpp
  rw [eqv_strs_nil]
  walk_at "q"
  have hDb : D ≠ b := fun e => by
   have z := hB4.ne
   obtain ⟨cells, i, r, kk, h6, _⟩ := hB.ex
   have h7 := f2.at h6 (fun z => nomatch z)
   rw [← e, hD] at h7
   cases h7
  have value : ∀ H5, BagAt H5 b cs → Fr [b] H H5 → ∀ (tm : TE), True := fun _ _ _ _ => trivial
  refine g_by (fun c => ?_) (fun c => ?_)
  ·walk_at "q"
   refine ⟨b, cs, k, rfl, hk, hB4, fun u H5 hu5 hB5 hF5 => ?_⟩
   walk_at "q"
   refine ⟨le_of (by simp), fun p6 hp6 => ?_⟩
   exact q p6 _ (.inl ⟨u, SqT.of upd_same, hu5⟩) (hB5.fr0 (Fr.new hp6)) ((f5.nil.trans hF5).trans (Fr.new hp6))
  ·walk_at "q"
   refine ⟨b, cs, _, rfl, hB4, by decide, by decide, fun dd H5 d0 d1 hB5 hF5 => ?_⟩
   walk_at "q"
   refine g_by (fun c2 => ?_) (fun c2 => ?_)
   ·walk_at "q"
    refine ⟨b, cs, k, rfl, hk, hB5, fun u H6 hu6 hB6 hF6 => ?_⟩
    walk_at "q"
    refine ⟨le_of (by simp), fun p6 hp6 => ?_⟩
    exact q p6 _ (.inl ⟨u, SqT.of upd_same, hu6⟩) (hB6.fr0 (Fr.new hp6)) (((f5.nil.trans hF5).trans hF6).trans (Fr.new hp6))
   ·walk_at "q"
    have hw0 : 0 < ws.length := by
     cases ws with
     | nil => exact absurd rfl c
     | cons x r => exact Nat.succ_pos _
    rw [List.length_map] at h3
    refine ⟨b, cs, D, ws.map V.str, rfl, hB5, .inl ⟨hF5.seq (fun z => hDb (List.mem_singleton.mp z)) (SqL.of hD4), hDb⟩, by rw [List.length_map]; exact hw0, by rw [List.length_map]; omega, fun v H6 hv hB6 hF6 => ?_⟩
    obtain ⟨x, hx, rfl⟩ := List.mem_map.mp hv
    walk_at "q"
    refine ⟨le_of (by simp), fun p6 hp6 => ?_⟩
    exact q p6 _ (.inr ⟨x, SqT.of upd_same, h4 x hx⟩) (hB6.fr0 (Fr.new hp6)) (((f5.nil.trans hF5).trans hF6).trans (Fr.new hp6))
end
structure BiS (mg : Str → Option Value) : Prop where
 b_isinstance : mg "isinstance" = none
 b_list : mg "list" = none
 b_tuple : mg "tuple" = none
 b_repr : mg "repr" = none
 b_zip : mg "zip" = none
 b_all : mg "all" = none
 b_len : mg "len" = none
def spSame (K : PySem.W.Frag) (n : Nat) : Sp := fun vs H Q _ => ∃ (x y : V) (d : PyData), vs = [x, y] ∧ Dp K H x d ∧ Dp K H y d ∧ Sm n d ∧ ∀ H', Fr [] H H' → Q (.bl true) H'
theorem sm_zero {d : PyData} (h : Sm 0 d) : False := by
 cases d <;> simp only [Sm] at h
abbrev s__law_same : Stmt := topS 20
theorem sc__law_same : FnScope ["_law_found", "_law_due", "_law_same_here", "_law_one_here", "_law_other"] ["_law_found", "_law_due"] (defScope s__law_same) := ⟨rfl, rfl, rfl, by decide +kernel, rfl, by decide +kernel, by decide +kernel⟩
section
variable {P : Program} {w : World} {K : PySem.W.Frag} {mg : Str → Option Value} {base : Heap}
theorem same_leaf {H : Hp} {x y : V} {d : PyData} {n : Nat} (hx : Dp K H x d) (hy : Dp K H y d) (hs : Sm (n + 1) d) (h : ∀ ds, d ≠ .list ds ∧ d ≠ .tuple ds) : x = y ∧ shortV x ∧ ∃ T, TyX K H x (.type T) ∧ kitB T "list" = some false ∧ kitB T "tuple" = some false := by
 cases hx with
 | non => cases hy; exact ⟨rfl, trivial, "NoneType", .base .non, by decide +kernel, by decide +kernel⟩
 | bl b => cases hy; exact ⟨rfl, trivial, "bool", .base (.bl b), by decide +kernel, by decide +kernel⟩
 | int b => cases hy; exact ⟨rfl, hs, "int", .base (.int b), by decide +kernel, by decide +kernel⟩
 | str b => cases hy; exact ⟨rfl, hs, "str", .base (.str b), by decide +kernel, by decide +kernel⟩
 | lst h1 h2 => exact absurd rfl (h _).1
 | tup h1 h2 => exact absurd rfl (h _).2
theorem ok__law_same {n : Nat} {f : Addr} {fd : FuncData} (F : FnP K "_law_same" s__law_same f fd) (B : BiS mg) (C__law_same : CalG P w K mg base n "_law_same" (spSame K n)) : FnG P w K mg base CX0 (n + 1) f fd ["_law_found", "_law_due"] (spSame K (n + 1)) := by
 refine okG F sc__law_same (fun vs H Q E h => ?_) (fun cdv A outer s H vs Q E hr h => ?_)
 ·obtain ⟨x, y, d, rfl, _⟩ := h
  rfl
 obtain ⟨x, y, d, rfl, hx, hy, hs, q⟩ := h
 refine ⟨_, PSs.nox (pss_cons (ps_if (pt_not (pt_val (pe_callB (kCall (K := K) (r := uIsi) rfl callu_isi) (by rfl) B.b_isinstance (by decide +kernel) (pa_cons (pv 1) (pa_cons (pe_tup (pa_cons (pe_bltn (v := .ty "list") (by rfl) B.b_list (by decide +kernel) rfl) (pa_cons (pe_bltn (v := .ty "tuple") (by rfl) B.b_tuple (by decide +kernel) rfl) pa_nil))) pa_nil))))) (pss_one (ps_ret (pe_cmpR (kOp (K := K) (r := uEq) rfl (opu_eq hr.units)) (pe_callB (kCall (K := K) (r := uReprG) rfl (callu_reprG hr)) (by rfl) B.b_repr (by decide +kernel) (pa_cons (pv 0) pa_nil)) (pe_callB (kCall (K := K) (r := uReprG) rfl (callu_reprG hr)) (by rfl) B.b_repr (by decide +kernel) (pa_cons (pv 1) pa_nil)) (nomark _)))) pss_nil)
 (pss_cons (ps_if (PW.pt (pw_or (pt_cmpR (kOp (K := K) (r := uNe) rfl (opu_ne hr.units)) (pe_callB (kCall (K := K) (r := uIsi) rfl callu_isi) (by rfl) B.b_isinstance (by decide +kernel) (pa_cons (pv 1) (pa_cons (pe_bltn (v := .ty "list") (by rfl) B.b_list (by decide +kernel) rfl) pa_nil))) (pe_callB (kCall (K := K) (r := uIsi) rfl callu_isi) (by rfl) B.b_isinstance (by decide +kernel) (pa_cons (pv 0) (pa_cons (pe_bltn (v := .ty "list") (by rfl) B.b_list (by decide +kernel) rfl) pa_nil))) (nomark _)) (pw_or1 (pt_cmpR (kOp (K := K) (r := uNe) rfl (opu_ne hr.units)) (pe_callB (kCall (K := K) (r := uIsi) rfl callu_isi) (by rfl) B.b_isinstance (by decide +kernel) (pa_cons (pv 1) (pa_cons (pe_bltn (v := .ty "tuple") (by rfl) B.b_tuple (by decide +kernel) rfl) pa_nil))) (pe_callB (kCall (K := K) (r := uIsi) rfl callu_isi) (by rfl) B.b_isinstance (by decide +kernel) (pa_cons (pv 0) (pa_cons (pe_bltn (v := .ty "tuple") (by rfl) B.b_tuple (by decide +kernel) rfl) pa_nil))) (nomark _))))) (pss_one (ps_ret pe_bl)) pss_nil)
 (pss_cons (ps_setLc (i := 2) (own := [("_law_one_here", 3), ("_law_other", 4)]) (g := gTup K 2 (gCons (gName 3) (gCons (gName 4) gNil))) (tt := tYes) rfl sc__law_same.nd rfl rfl (sw_true rfl rfl rfl (by decide +kernel)) (RZ.pi_zipA (by rfl) B.b_zip (pa_cons (pv 0) (pa_cons (pv 1) pa_nil))) (blkOk_by (own := [("_law_one_here", 3), ("_law_other", 4)]) (N := ["_law_found", "_law_due", "_law_same_here", "_law_one_here", "_law_other"]) (sc := defScope s__law_same) (by decide +kernel)) (fun _ _ _ _ _ => (by exact (pg_tupK (K := K) rfl rfl (pgs_cons (pg_name (i := 3) sc__law_same.nd rfl (by first | exact Or.inl rfl | exact Or.inr rfl)) (pgs_cons (pg_name (i := 4) sc__law_same.nd rfl (by first | exact Or.inl rfl | exact Or.inr rfl)) pgs_nil))))) (fun _ _ _ _ _ => pts_nil) (fun _ _ _ _ _ => (by exact (pe_calG C__law_same hr rfl (pa_cons (pv 3) (pa_cons (pv 4) pa_nil))))))
 (pss_one (ps_ret (pe_andTK (K := K) rfl (pe_cmpR (kOp (K := K) (r := uEq) rfl (opu_eq hr.units)) (pe_callB (kCall (K := K) (r := uLen) rfl callu_len) (by rfl) B.b_len (by decide +kernel) (pa_cons (pv 0) pa_nil)) (pe_callB (kCall (K := K) (r := uLen) rfl callu_len) (by rfl) B.b_len (by decide +kernel) (pa_cons (pv 1) pa_nil)) (nomark _)) (pe_one (pe_callB (kCall (K := K) (r := rAll) rfl (cr_all rfl)) (by rfl) B.b_all (by decide +kernel) (pa_cons (pv 2) pa_nil))))))))), rd_start (σ0 := [some x, some y, none, none, none]) rfl ?_⟩
 walk_at "q"
 refine ⟨le_of (by decide), fun p hp => ?_⟩
 have e1 : Fr [] H (upd H p (.tup [.ty "list", .ty "tuple"])) := Fr.new hp
 have hpt : (upd H p (.tup [.ty "list", .ty "tuple"])) p = some (.tup [.ty "list", .ty "tuple"]) := upd_same
 generalize upd H p (.tup [.ty "list", .ty "tuple"]) = H1 at *
 replace hx := dp_same e1.same hx
 replace hy := dp_same e1.same hy
 walk_at "q"
 by_cases hd : ∀ ds, d ≠ .list ds ∧ d ≠ .tuple ds
 ·obtain ⟨rfl, hsh, T, ty, k1, k2⟩ := same_leaf hx hy hs hd
  refine g_isi2 hpt ty k1 k2 ?_
  walk_at "q"
  refine g_reprS hsh ?_
  walk_at "q"
  refine g_reprS hsh ?_
  walk_at "q"
  rw [decide_eq_true rfl]
  exact q _ e1
 ·have hcase : (∃ ds, d = .list ds) ∨ (∃ ds, d = .tuple ds) := by
   cases d with
   | list ds => exact .inl ⟨ds, rfl⟩
   | tuple ds => exact .inr ⟨ds, rfl⟩
   | _ => exact absurd (fun ds => ⟨(fun z => nomatch z), (fun z => nomatch z)⟩) hd
  rcases hcase with ⟨ds, rfl⟩ | ⟨ds, rfl⟩
  ·obtain ⟨hs1, hs2⟩ := hs
   cases hx with
   | @lst a xs _ ha hxs =>
   cases hy with
   | @lst b ys _ hb hys =>
   refine g_isi2 hpt (tyx_l hb) (b1 := true) (b2 := false) (by decide +kernel) (by decide +kernel) ?_
   walk_at "q"
   refine g_isi (tyx_l hb) (b := true) (by decide +kernel) ?_
   walk_at "q"
   refine g_isi (tyx_l ha) (b := true) (by decide +kernel) ?_
   walk_at "q"
   refine g_isi (tyx_l hb) (b := false) (by decide +kernel) ?_
   walk_at "q"
   refine g_isi (tyx_l ha) (b := false) (by decide +kernel) ?_
   walk_at "q"
   have hl1 := dpa_len hxs
   have hl2 := dpa_len hys
   refine ⟨a, b, xs, ys, rfl, .inl ⟨ha, hb, fun D hD => lc_it (walk_zip (xs := xs) (ys := ys) (n := ds.length) (by omega)) (fun i H' => Fr [] H1 H' ∧ H' D = some (.lst (List.replicate i (.bl true)))) ⟨Fr.new hD, upd_same⟩ (fun i H' _ h => ⟨h.1.seq (fun z => nomatch z) ha, h.1.seq (fun z => nomatch z) hb⟩) (fun i z H' H'' hi h y => ?_) (fun H' h => ?_)⟩⟩
   ·obtain ⟨T, u, v, rfl, hT, rfl, hu, hv⟩ := y
    obtain ⟨h1, h2⟩ := h
    walk_at "q"
    refine ⟨rfl, ?_⟩
    walk_at "q"
    have eT : Fr [] H' (upd H' T (.tup [u, v])) := Fr.new hT
    obtain ⟨d1, hd1, q1⟩ := dpa_get hxs hu
    obtain ⟨d2, hd2, q2⟩ := dpa_get hys hv
    have ed : d1 = d2 := Option.some.inj (hd1.symm.trans hd2)
    subst ed
    refine ⟨u, v, d1, rfl, dp_same ((h1.trans eT).same) q1, dp_same ((h1.trans eT).same) q2, hs2 d1 (List.mem_of_getElem? hd1), fun H3 e3 => ?_⟩
    refine ⟨_, e3.at (eT.at h2 (fun z => nomatch z)) (fun z => nomatch z), lt_of (by rw [List.length_replicate]; omega), ((h1.trans eT).trans e3).over hD, ?_⟩
    rw [upd_same, List.replicate_succ']
   ·obtain ⟨h1, h2⟩ := h
    walk_at "q"
    refine g_len (.inl (h1.seq (fun z => nomatch z) ha)) ?_
    walk_at "q"
    refine g_len (.inl (h1.seq (fun z => nomatch z) hb)) ?_
    walk_at "q"
    rw [decide_eq_true (show (xs.length : Int) = ys.length by omega)]
    walk_at "q"
    refine ⟨D, List.replicate ds.length true, rfl, SqL.of (by rw [h2, List.map_replicate]), ?_⟩
    rw [show (List.replicate ds.length true).all id = true by simp]
    exact q _ (e1.trans h1)
  ·obtain ⟨hs1, hs2⟩ := hs
   cases hx with
   | @tup a xs _ ha hxs =>
   cases hy with
   | @tup b ys _ hb hys =>
   refine g_isi2 hpt (tyx_t hb) (b1 := false) (b2 := true) (by decide +kernel) (by decide +kernel) ?_
   walk_at "q"
   refine g_isi (tyx_t hb) (b := false) (by decide +kernel) ?_
   walk_at "q"
   refine g_isi (tyx_t ha) (b := false) (by decide +kernel) ?_
   walk_at "q"
   refine g_isi (tyx_t hb) (b := true) (by decide +kernel) ?_
   walk_at "q"
   refine g_isi (tyx_t ha) (b := true) (by decide +kernel) ?_
   walk_at "q"
   have hl1 := dpa_len hxs
   have hl2 := dpa_len hys
   refine ⟨a, b, xs, ys, rfl, .inr ⟨ha, hb, fun D hD => lc_it (walk_zipT (xs := xs) (ys := ys) (n := ds.length) (by omega)) (fun i H' => Fr [] H1 H' ∧ H' D = some (.lst (List.replicate i (.bl true)))) ⟨Fr.new hD, upd_same⟩ (fun i H' _ h => ⟨h.1.tup ha, h.1.tup hb⟩) (fun i z H' H'' hi h y => ?_) (fun H' h => ?_)⟩⟩
   ·obtain ⟨T, u, v, rfl, hT, rfl, hu, hv⟩ := y
    obtain ⟨h1, h2⟩ := h
    walk_at "q"
    refine ⟨rfl, ?_⟩
    walk_at "q"
    have eT : Fr [] H' (upd H' T (.tup [u, v])) := Fr.new hT
    obtain ⟨d1, hd1, q1⟩ := dpa_get hxs hu
    obtain ⟨d2, hd2, q2⟩ := dpa_get hys hv
    have ed : d1 = d2 := Option.some.inj (hd1.symm.trans hd2)
    subst ed
    refine ⟨u, v, d1, rfl, dp_same ((h1.trans eT).same) q1, dp_same ((h1.trans eT).same) q2, hs2 d1 (List.mem_of_getElem? hd1), fun H3 e3 => ?_⟩
    refine ⟨_, e3.at (eT.at h2 (fun z => nomatch z)) (fun z => nomatch z), lt_of (by rw [List.length_replicate]; omega), ((h1.trans eT).trans e3).over hD, ?_⟩
    rw [upd_same, List.replicate_succ']
   ·obtain ⟨h1, h2⟩ := h
    walk_at "q"
    refine g_len (.inr (h1.tup ha)) ?_
    walk_at "q"
    refine g_len (.inr (h1.tup hb)) ?_
    walk_at "q"
    rw [decide_eq_true (show (xs.length : Int) = ys.length by omega)]
    walk_at "q"
    refine ⟨D, List.replicate ds.length true, rfl, SqL.of (by rw [h2, List.map_replicate]), ?_⟩
    rw [show (List.replicate ds.length true).all id = true by simp]
    exact q _ (e1.trans h1)
end
inductive SumN (vd : List (Str × Str)) : Nat → SumE → Prop
 | num {m : Nat} {k : Str} {u : V} : ValOf k u → k = "number" → SumN vd m (.val u)
 | var {m : Nat} {x : Str} : vd.lookup x = some "number" → SumN vd m (.var x)
 | op {m : Nat} {s : Str} {a b : SumE} : isSg s → SumN vd m a → SumN vd m b → SumN vd (m + 1) (.op s a b)
theorem SumN.deep {vd : List (Str × Str)} {m : Nat} {e : SumE} (h : SumN vd m e) : e.deep ≤ m := by
 induction h with
 | num _ _ => exact Nat.zero_le _
 | var _ => exact Nat.zero_le _
 | op _ _ _ h1 h2 => exact Nat.succ_le_succ (Nat.max_le.mpr ⟨h1, h2⟩)
def spSum (K : PySem.W.Frag) (n : Nat) : Sp := fun vs H Q _ => ∃ (b cs d : Addr) (m : Nat) (vd : List (Str × Str)), vs = [.ref b, .ref d, .int (m : Int)] ∧ m < n ∧ BagAt H b cs ∧ VarsAt H d vd ∧
 ∀ e v H', SumN vd m e → SumAt K H' e v → BagAt H' b cs → Fr [b] H H' → Q v H'
abbrev s__law_sum : Stmt := topS 39
theorem sc__law_sum : FnScope ["_law_bag_here", "_law_vars_of", "_law_deep", "_law_sign"] ["_law_bag_here", "_law_vars_of", "_law_deep"] (defScope s__law_sum) := ⟨rfl, rfl, rfl, by decide +kernel, rfl, by decide +kernel, by decide +kernel⟩
theorem leaf_sum {K : PySem.W.Frag} {H : Hp} {vd : List (Str × Str)} {p : Addr} (m : Nat) (h : LeafAt K H vd "number" p) : ∃ e, SumN vd m e ∧ SumAt K H e (.ref p) := by
 rcases h with ⟨u, h1, h2⟩ | ⟨x, h1, h2⟩
 ·exact ⟨.val u, .num h2 rfl, p, rfl, h1⟩
 ·exact ⟨.var x, .var h2, p, rfl, h1⟩
section
variable {P : Program} {w : World} {K : PySem.W.Frag} {mg : Str → Option Value} {base : Heap}
theorem ok__law_sum {n : Nat} {f : Addr} {fd : FuncData} (F : FnP K "_law_sum" s__law_sum f fd) (C__law_pull : CalG P w K mg base 10 "_law_pull" spPull) (C__law_one : CalG P w K mg base 20 "_law_one" (spOne K))
  (C__law_leaf : CalG P w K mg base 50 "_law_leaf" (spLeaf K)) (C__law_sum : CalG P w K mg base (50 + n) "_law_sum" (spSum K n)) : FnG P w K mg base CX0 (50 + n + 1) f fd ["_law_bag_here", "_law_vars_of", "_law_deep"] (spSum K (n + 1)) := by
 refine okG F sc__law_sum (fun vs H Q E h => ?_) (fun cdv A outer s H vs Q E hr h => ?_)
 ·obtain ⟨b, cs, d, m, vd, rfl, _⟩ := h
  rfl
 obtain ⟨b, cs, d, m, vd, rfl, hm, hB, hV, q⟩ := h
 refine ⟨_, PSs.nox (pss_cons (ps_if (PW.pt (pw_or (pt_cmpR (kOp (K := K) (r := uEq) rfl (opu_eq hr.units)) (pv 2) pe_int (nomark _)) (pw_or1 (pt_cmpR (kOp (K := K) (r := uEq) rfl (opu_eq hr.units)) (pe_calG C__law_pull hr rfl (pa_cons (pv 0) (pa_cons pe_int pa_nil))) pe_int (nomark _))))) (pss_one (ps_ret (pe_calG C__law_leaf hr rfl (pa_cons (pv 0) (pa_cons pe_str (pa_cons (pv 1) pa_nil)))))) pss_nil)
 (pss_cons (ps_set (i := 3) sc__law_sum.nd rfl (.inl rfl) (pe_calG C__law_one hr rfl (pa_cons (pv 0) (pa_cons (pe_lst (pa_cons pe_str (pa_cons pe_str (pa_cons pe_str pa_nil)))) pa_nil))))
 (pss_one (ps_ret (pe_tup (pa_cons (pv 3) (pa_cons (pe_calG C__law_sum hr rfl (pa_cons (pv 0) (pa_cons (pv 1) (pa_cons (pe_op opu_sub (pv 2) pe_int) pa_nil)))) (pa_cons (pe_calG C__law_sum hr rfl (pa_cons (pv 0) (pa_cons (pv 1) (pa_cons (pe_op opu_sub (pv 2) pe_int) pa_nil)))) pa_nil)))))))), rd_start (σ0 := [some (.ref b), some (.ref d), some (.int (m : Int)), none]) rfl ?_⟩
 have hdb := hV.ne hB
 have hn : ∀ {x : Addr}, x ≠ b → x ∉ [b] := fun h z => h (List.mem_singleton.mp z)
 walk_at "q"
 refine g_by (fun c => ?_) (fun c => ?_)
 ·walk_at "q"
  refine ⟨b, cs, d, "number", vd, rfl, .inl rfl, hB, hV, fun p H1 hp hB1 hF1 => ?_⟩
  obtain ⟨e, he, hs⟩ := leaf_sum m hp
  exact q e _ H1 he hs hB1 hF1
 ·walk_at "q"
  refine ⟨b, cs, _, rfl, hB, by decide, by decide, fun dd H1 d0 d1 hB1 hF1 => ?_⟩
  have hV1 := hV.fr hF1 (hn hdb.1)
  walk_at "q"
  refine g_by (fun c2 => ?_) (fun c2 => ?_)
  ·walk_at "q"
   refine ⟨b, cs, d, "number", vd, rfl, .inl rfl, hB1, hV1, fun p H2 hp hB2 hF2 => ?_⟩
   obtain ⟨e, he, hs⟩ := leaf_sum m hp
   exact q e _ H2 he hs hB2 (hF1.trans hF2)
  ·walk_at "q"
   refine ⟨le_of (by simp), fun p hp => ?_⟩
   have hF2 : Fr [b] H1 (upd H1 p (.lst [.str "+", .str "-", .str "*"])) := Fr.new hp
   have hB2 := hB1.fr0 (Fr.new (M := []) (o := .lst [.str "+", .str "-", .str "*"]) hp)
   have hV2 := hV1.fr hF2 (hn hdb.1)
   have hpl : (upd H1 p (.lst [V.str "+", .str "-", .str "*"])) p = some (.lst [V.str "+", .str "-", .str "*"]) := upd_same
   generalize upd H1 p (.lst [V.str "+", .str "-", .str "*"]) = H2 at *
   walk_at "q"
   refine ⟨b, cs, p, _, rfl, hB2, .inl ⟨SqL.of hpl, (hB1.some hp).1⟩, by decide, by decide, fun sv H3 hsv hB3 hF3 => ?_⟩
   have hV3 := hV2.fr hF3 (hn hdb.1)
   obtain ⟨sg, hsg, rfl⟩ : ∃ sg, isSg sg ∧ sv = .str sg := by
    simp only [List.mem_cons, List.not_mem_nil, or_false] at hsv
    rcases hsv with rfl | rfl | rfl
    ·exact ⟨_, .inl rfl, rfl⟩
    ·exact ⟨_, .inr (.inl rfl), rfl⟩
    ·exact ⟨_, .inr (.inr rfl), rfl⟩
   obtain ⟨m', rfl⟩ : ∃ m', m = m' + 1 := ⟨m - 1, by omega⟩
   have em : ((m' + 1 : Nat) : Int) - 1 = (m' : Int) := by omega
   walk_at "q"
   rw [em]
   refine ⟨b, cs, d, m', vd, rfl, by omega, hB3, hV3, fun e1 v1 H4 he1 hs1 hB4 hF4 => ?_⟩
   have hV4 := hV3.fr hF4 (hn hdb.1)
   walk_at "q"
   rw [em]
   refine ⟨b, cs, d, m', vd, rfl, by omega, hB4, hV4, fun e2 v2 H5 he2 hs2 hB5 hF5 => ?_⟩
   walk_at "q"
   refine ⟨le_of (by simp), fun p6 hp6 => ?_⟩
   have f6 : Fr [b] H5 (upd H5 p6 (.tup [.str sg, v1, v2])) := Fr.new hp6
   refine q (.op sg e1 e2) _ _ (.op hsg he1 he2) ⟨p6, v1, v2, rfl, SqT.of upd_same, (hs1.fr hF5).fr f6, hs2.fr f6⟩ (hB5.fr0 (Fr.new hp6)) (((((hF1.trans hF2).trans hF3).trans hF4).trans hF5).trans f6)
end
def barredL : List Str := ["if", "not", "is", "count", "sum", "least", "most", "yes", "no", "me"]
def VarN (x : Str) : Prop := WordP x ∧ x ∉ barredL
def varB (x : Str) : Bool := wordB x && !(barredL.any fun y => decide (x = y))
theorem varB_ok {x : Str} (h : varB x = true) : VarN x := by
 unfold varB at h
 simp only [Bool.and_eq_true, Bool.not_eq_true', List.any_eq_false, decide_eq_true_eq] at h
 exact ⟨wordB_ok h.1, fun z => h.2 x z rfl⟩
theorem WordP.tx {x : Str} (h : WordP x) : Tx 12 x := by
 refine ⟨len_le12 h, fun c hc => ?_⟩
 obtain ⟨d, r, e, h1, h2, _⟩ := h
 have lt : ∀ d, (isLet d || isFig d) = true → d < 0x110000 := by
  intro d hd
  unfold isLet isFig at hd
  simp only [Bool.or_eq_true, decide_eq_true_eq] at hd
  omega
 rw [e] at hc
 rcases List.mem_cons.mp hc with rfl | hc
 ·exact lt _ (by rw [h1]; rfl)
 ·exact lt _ (h2 c hc)
def sgn22 : Str := "0123456789abcdefghijkl"
def low22 : Str := "abcdefghijklmnopqrstuv"
theorem sgn22_list : sgn22.cps.toList = [48, 49, 50, 51, 52, 53, 54, 55, 56, 57, 97, 98, 99, 100, 101, 102, 103, 104, 105, 106, 107, 108] := by decide +kernel
theorem low22_list : low22.cps.toList = [97, 98, 99, 100, 101, 102, 103, 104, 105, 106, 107, 108, 109, 110, 111, 112, 113, 114, 115, 116, 117, 118] := by decide +kernel
theorem sgn22_at {d : Int} (h0 : 0 ≤ d) (h1 : d < 22) : ∃ c, atI sgn22.cps.toList d = some c ∧ (isLet c || isFig c) = true := by
 obtain ⟨c, hc, ha⟩ := atI_in (xs := sgn22.cps.toList) h0 (by rw [sgn22_list]; exact h1)
 refine ⟨c, ha, ?_⟩
 rw [sgn22_list] at hc
 have z : ∀ x ∈ ([48, 49, 50, 51, 52, 53, 54, 55, 56, 57, 97, 98, 99, 100, 101, 102, 103, 104, 105, 106, 107, 108] : List Nat), (isLet x || isFig x) = true := by decide
 exact z c hc
theorem low22_at {d : Int} (h0 : 0 ≤ d) (h1 : d < 22) : ∃ c, atI low22.cps.toList d = some c ∧ isLet c = true := by
 obtain ⟨c, hc, ha⟩ := atI_in (xs := low22.cps.toList) h0 (by rw [low22_list]; exact h1)
 refine ⟨c, ha, ?_⟩
 rw [low22_list] at hc
 have z : ∀ x ∈ ([97, 98, 99, 100, 101, 102, 103, 104, 105, 106, 107, 108, 109, 110, 111, 112, 113, 114, 115, 116, 117, 118] : List Nat), isLet x = true := by decide
 exact z c hc
theorem cut_none {z : Str} {n : Nat} : (cutS z none (some (n : Int))).cps.toList = z.cps.toList.take n := by
 have e : z.length = z.cps.toList.length := rfl
 unfold cutS
 show ((z.cps.toList.drop (HT.sIx z.length 0 none)).take (HT.sIx z.length z.length (some (n : Int)) - HT.sIx z.length 0 none)) = _
 rw [HT.sIx_none, HT.sIx_nat, List.drop_zero, Nat.sub_zero, e]
 by_cases h : n ≤ z.cps.toList.length
 ·rw [Nat.min_eq_left h]
 ·rw [Nat.min_eq_right (by omega), List.take_length, List.take_of_length_le (by omega)]
theorem cut_some {z : Str} {n : Nat} : (cutS z (some (n : Int)) none).cps.toList = z.cps.toList.drop n := by
 have e : z.length = z.cps.toList.length := rfl
 unfold cutS
 show ((z.cps.toList.drop (HT.sIx z.length 0 (some (n : Int)))).take (HT.sIx z.length z.length none - HT.sIx z.length 0 (some (n : Int)))) = _
 rw [HT.sIx_none, HT.sIx_nat, e]
 by_cases h : n ≤ z.cps.toList.length
 ·rw [Nat.min_eq_left h, ← List.length_drop, List.take_length]
 ·rw [Nat.min_eq_right (by omega), Nat.sub_self, List.take_zero, List.drop_eq_nil_of_le (by omega)]
theorem word_put {x : Str} (h : WordP x) {c : Nat} (hc : (isLet c || isFig c) = true) {n s : Nat} (hn : 1 ≤ n) (hn2 : n ≤ 10) (hs : 1 ≤ s) : WordP (cutS (cutS x none (some (n : Int))) none (some (s : Int)) ++ ⟨#[c]⟩ ++ cutS (cutS x none (some (n : Int))) (some (s : Int)) none) := by
 obtain ⟨d, r, e, h1, h2, h3⟩ := h
 obtain ⟨n', rfl⟩ : ∃ k, n = k + 1 := ⟨n - 1, by omega⟩
 obtain ⟨s', rfl⟩ : ∃ k, s = k + 1 := ⟨s - 1, by omega⟩
 refine ⟨d, (r.take n').take s' ++ [c] ++ (r.take n').drop s', ?_, h1, fun y hy => ?_, ?_⟩
 ·rw [tl_app, tl_app, cut_none, cut_none, cut_some, cut_none, e]
  rfl
 ·have sub : ∀ y ∈ r.take n', (isLet y || isFig y) = true := fun y hy => h2 y (List.mem_of_mem_take hy)
  rcases List.mem_append.mp hy with hy | hy
  ·rcases List.mem_append.mp hy with hy | hy
   ·exact sub y (List.mem_of_mem_take hy)
   ·rw [List.mem_singleton.mp hy]; exact hc
  ·exact sub y (List.mem_of_mem_drop hy)
 ·simp only [List.length_append, List.length_take, List.length_drop, List.length_singleton]
  omega
theorem rep11 (c : Nat) : ((List.replicate (11 : Int).toNat (#[c] : Array Nat)).foldl (· ++ ·) #[]) = #[c, c, c, c, c, c, c, c, c, c, c] := by
 show ((((((((((((#[] : Array Nat) ++ #[c]) ++ #[c]) ++ #[c]) ++ #[c]) ++ #[c]) ++ #[c]) ++ #[c]) ++ #[c]) ++ #[c]) ++ #[c]) ++ #[c]) = _
 rfl
theorem word_z {c : Nat} (h : isLet c = true) : VarN (("z" : Str) ++ ⟨(List.replicate (11 : Int).toNat (#[c] : Array Nat)).foldl (· ++ ·) #[]⟩) := by
 rw [rep11]
 have e : ((("z" : Str) ++ ⟨#[c, c, c, c, c, c, c, c, c, c, c]⟩ : Str)).cps.toList = [122, c, c, c, c, c, c, c, c, c, c, c] := by
  rw [tl_app]
  rfl
 refine ⟨⟨122, [c, c, c, c, c, c, c, c, c, c, c], e, by decide, fun d hd => ?_, (show 11 ≤ 11 by decide)⟩, fun hm => ?_⟩
 ·simp only [List.mem_cons, List.not_mem_nil, or_false, or_self] at hd
  rw [hd, h]; rfl
 ·have hl : ∀ y ∈ barredL, y.cps.toList.length ≤ 5 := by decide +kernel
  have := hl _ hm
  rw [e] at this
  exact absurd this (by simp)
def spBarred : Sp := fun vs H Q _ => ∃ z, vs = [.str z] ∧ ∀ H', Fr [] H H' → Q (.bl (decide (z ∈ barredL))) H'
def spNames : Sp := fun vs H Q _ => ∃ (b cs : Addr) (m : Nat), vs = [.ref b, .int m] ∧ m ≤ 22 ∧ BagAt H b cs ∧
 ∀ (p : Addr) (ws : List Str) H', H p = none → H' p = some (.lst (ws.map V.str)) → ws.length = m → (∀ x ∈ ws, VarN x) → BagAt H' b cs → Fr [b] H H' → Q (.ref p) H'
abbrev s__law_barred : Stmt := topS 21
theorem sc__law_barred : FnScope ["_law_word_here"] ["_law_word_here"] (defScope s__law_barred) := ⟨rfl, rfl, rfl, by decide +kernel, rfl, by decide +kernel, by decide +kernel⟩
abbrev s__law_names : Stmt := topS 23
theorem sc__law_names : FnScope ["_law_bag_here", "_law_many", "_law_found", "_law_k", "_law_word_here", "_law_spot", "_law_sign"] ["_law_bag_here", "_law_many"] (defScope s__law_names) := ⟨rfl, rfl, rfl, by decide +kernel, rfl, by decide +kernel, by decide +kernel⟩
section
variable {P : Program} {w : World} {K : PySem.W.Frag} {mg : Str → Option Value} {base : Heap}
theorem ok__law_barred {f : Addr} {fd : FuncData} (F : FnP K "_law_barred" s__law_barred f fd) : FnG P w K mg base CX0 1 f fd ["_law_word_here"] spBarred := by
 refine okG F sc__law_barred (fun vs H Q E h => ?_) (fun cdv A outer s H vs Q E hr h => ?_)
 ·obtain ⟨z, rfl, _⟩ := h
  rfl
 obtain ⟨z, rfl, q⟩ := h
 refine ⟨_, PSs.nox (pss_one (ps_ret (pe_cmpR (kOp (K := K) (r := uIn) rfl opu_in) (pv 0) (pe_tup (pa_cons pe_str (pa_cons pe_str (pa_cons pe_str (pa_cons pe_str (pa_cons pe_str (pa_cons pe_str (pa_cons pe_str (pa_cons pe_str (pa_cons pe_str (pa_cons pe_str pa_nil))))))))))) (by rfl)))), rd_start (σ0 := [some (.str z)]) rfl ?_⟩
 walk_at "q"
 refine ⟨le_of (by simp), fun p hp => ?_⟩
 refine g_inT (xs := barredL.map V.str) (.inr (SqT.of upd_same)) (flat_strs _) ?_
 rw [inV_str]
 exact q _ (Fr.new hp)
theorem ok__law_names {f : Addr} {fd : FuncData} (F : FnP K "_law_names" s__law_names f fd) (B : Bi mg) (C__law_word : CalG P w K mg base 30 "_law_word" spWord) (C__law_pull : CalG P w K mg base 10 "_law_pull" spPull) (C__law_barred : CalG P w K mg base 1 "_law_barred" spBarred) :
  FnG P w K mg base CX0 40 f fd ["_law_bag_here", "_law_many"] spNames := by
 refine okG F sc__law_names (fun vs H Q E h => ?_) (fun cdv A outer s H vs Q E hr h => ?_)
 ·obtain ⟨b, cs, m, rfl, _⟩ := h
  rfl
 obtain ⟨b, cs, m, rfl, hm, hB, q⟩ := h
 refine ⟨_, PSs.nox (pss_cons (ps_set (i := 2) sc__law_names.nd rfl (.inl rfl) (pe_lst pa_nil))
 (pss_cons (ps_for PassesOwn.never rfl (pi_range1 rfl B.b_range (pa_cons (pv 1) pa_nil)) (pg_name (i := 3) sc__law_names.nd rfl (by first | exact Or.inl rfl | exact Or.inr rfl)) (pss_cons (ps_set (i := 4) sc__law_names.nd rfl (.inl rfl) (pe_slice sl_str (pe_calG C__law_word hr rfl (pa_cons (pv 0) pa_nil)) po_none (po_some pe_int)))
 (pss_cons (ps_set (i := 5) sc__law_names.nd rfl (.inl rfl) (pe_op (kOp (K := K) (r := uAdd) rfl opu_add) pe_int (pe_calG C__law_pull hr rfl (pa_cons (pv 0) (pa_cons (pe_callB (kCall (K := K) (r := uLen) rfl callu_len) (by rfl) B.b_len (by decide +kernel) (pa_cons (pv 4) pa_nil)) pa_nil)))))
 (pss_cons (ps_set (i := 6) sc__law_names.nd rfl (.inl rfl) (pe_ix (kIx (K := K) (r := rIx) rfl ix_seq) pe_str (pv 3) (fun _ _ => rfl)))
 (pss_cons (ps_set (i := 4) sc__law_names.nd rfl (.inl rfl) (pe_op (kOp (K := K) (r := uAdd) rfl opu_add) (pe_op (kOp (K := K) (r := uAdd) rfl opu_add) (pe_slice sl_str (pv 4) po_none (po_some (pv 5))) (pv 6)) (pe_slice sl_str (pv 4) (po_some (pv 5)) po_none)))
 (pss_cons (ps_if (PW.pt (pw_or (pt_cmpR (kOp (K := K) (r := uIn) rfl opu_in) (pv 4) (pv 2) (by rfl)) (pw_or1 (pt_val (pe_calG C__law_barred hr rfl (pa_cons (pv 4) pa_nil)))))) (pss_one (ps_set (i := 4) sc__law_names.nd rfl (.inl rfl) (pe_op (kOp (K := K) (r := uAdd) rfl opu_add) pe_str (pe_op opu_mul (pe_ix (kIx (K := K) (r := rIx) rfl ix_seq) pe_str (pv 3) (fun _ _ => rfl)) pe_int)))) pss_nil)
 (pss_one (ps_expr (kBM (K := K) rfl (pe_bm PySem.F.plainAttrs_list PySem.F.slot_list_append PySem.F.type_list_append mt_append (pv 2) (pa_cons (pv 4) pa_nil)))))))))))
 (pss_one (ps_ret (pv 2))))), rd_start (σ0 := [some (.ref b), some (.int m), none, none, none, none, none]) rfl ?_⟩
 walk_at "q"
 refine ⟨le_of (by simp), fun D hD => ?_⟩
 have f0 : Fr [b] H (upd H D (.lst [])) := Fr.new hD
 have hD0 : (upd H D (.lst [])) D = some (.lst []) := upd_same
 have hB0 := hB.fr0 (Fr.new (M := []) (o := .lst []) hD)
 have hDb := hB.some hD
 generalize upd H D (.lst []) = H0 at *
 walk_at "q"
 refine ⟨m, rfl, by omega, by omega, for_range (lo := 0) (n := m) (fun i σ H' => (∃ z1 z2 z3 z4, σ = [some (.ref b), some (.int m), some (.ref D), z1, z2, z3, z4]) ∧ BagAt H' b cs ∧ Fr [b] H H' ∧ ∃ ws : List Str, H' D = some (.lst (ws.map V.str)) ∧ ws.length = i ∧ ∀ x ∈ ws, VarN x)
  ⟨⟨_, _, _, _, rfl⟩, hB0, f0, [], hD0, rfl, fun _ z => nomatch z⟩ (fun i σ H1 hi h => ?_) (fun σ H1 h => ?_)⟩
 ·obtain ⟨⟨z1, z2, z3, z4, rfl⟩, hB1, hF1, ws, hw, hwl, hwv⟩ := h
  have hi2 : (0 : Int) + (i : Int) < 22 := by omega
  obtain ⟨c1, hc1, hc1b⟩ := sgn22_at (d := 0 + (i : Int)) (by omega) hi2
  obtain ⟨c2, hc2, hc2b⟩ := low22_at (d := 0 + (i : Int)) (by omega) hi2
  walk_at "q"
  refine ⟨b, cs, rfl, hB1, fun x H2 hx hB2 hF2 => ?_⟩
  have hxl := len_le12 hx
  walk_at "q"
  refine g_slS (le_of (by omega)) ?_
  walk_at "q"
  have hyl : (cutS x none (some 10)).length ≤ x.length := cutS_length _ _ _
  have hy1 : 1 ≤ (cutS x none (some 10)).length := by
   obtain ⟨d, r, e, _⟩ := hx
   show 1 ≤ (cutS x none (some ((10 : Nat) : Int))).cps.toList.length
   rw [cut_none, e]
   simp
  refine g_lenS (le_of (by omega)) ?_
  walk_at "q"
  refine ⟨b, cs, _, rfl, hB2, by omega, Int.lt_of_le_of_lt (b := 1000) (by omega) (by decide), fun d H3 d0 d1 hB3 hF3 => ?_⟩
  walk_at "q"
  refine g_ixS (z := sgn22) (le_of (by decide +kernel)) hc1 ?_
  walk_at "q"
  obtain ⟨s, hs⟩ : ∃ s : Nat, 1 + d = (s : Int) := ⟨(1 + d).toNat, by omega⟩
  rw [hs]
  refine g_slS (le_of (by omega)) ?_
  walk_at "q"
  have hcl : ((cutS (cutS x none (some 10)) none (some (s : Int)))).length ≤ 12 := Nat.le_trans (cutS_length _ _ _) (by omega)
  refine g_addS (by show _ + 1 ≤ _; exact le_of (by omega)) ?_
  walk_at "q"
  refine g_slS (le_of (by omega)) ?_
  have hcl2 : ((cutS (cutS x none (some 10)) (some (s : Int)) none)).length ≤ 12 := Nat.le_trans (cutS_length _ _ _) (by omega)
  refine g_addS (by rw [app_len]; show _ + 1 + _ ≤ _; exact le_of (by omega)) ?_
  have hw2 := word_put hx hc1b (n := 10) (s := s) (by decide) (by decide) (by omega)
  have e10 : cutS (cutS x none (some ((10 : Nat) : Int))) none (some (s : Int)) ++ ⟨#[c1]⟩ ++ cutS (cutS x none (some ((10 : Nat) : Int))) (some (s : Int)) none = cutS (cutS x none (some 10)) none (some (s : Int)) ++ ⟨#[c1]⟩ ++ cutS (cutS x none (some 10)) (some (s : Int)) none := rfl
  rw [e10] at hw2
  generalize cutS (cutS x none (some 10)) none (some (s : Int)) ++ ⟨#[c1]⟩ ++ cutS (cutS x none (some 10)) (some (s : Int)) none = y at *
  have hDb' : D ∉ [b] := fun z => hDb.1 (List.mem_singleton.mp z)
  have hw3 := (hF2.trans hF3).at hw hDb'
  walk_at "q"
  refine g_inT (.inl (SqL.of hw3)) (flat_strs _) ?_
  rw [inV_str]
  walk_at "q"
  have hB4 := hB3
  have app : ∀ (y' : Str) (H4 : Hp), VarN y' → BagAt H4 b cs → Fr [b] H H4 → (∃ ws' : List Str, (upd H4 D (.lst (ws.map V.str ++ [.str y']))) D = some (.lst (ws'.map V.str)) ∧ ws'.length = i + 1 ∧ ∀ x ∈ ws', VarN x) ∧ BagAt (upd H4 D (.lst (ws.map V.str ++ [.str y']))) b cs ∧ Fr [b] H (upd H4 D (.lst (ws.map V.str ++ [.str y']))) := by
   intro y' H4 hy hB hF
   refine ⟨⟨ws ++ [y'], by rw [upd_same, List.map_append]; rfl, by rw [List.length_append, hwl]; rfl, fun x hx => ?_⟩, ?_, hF.over hD⟩
   ·rcases List.mem_append.mp hx with hx | hx
    ·exact hwv x hx
    ·rw [List.mem_singleton.mp hx]; exact hy
   ·obtain ⟨cells, i, r, k, h1, h2, h3⟩ := hB.ex
    exact ⟨cells, i, r, k, by rw [upd_ne hDb.1.symm]; exact h1, by rw [upd_ne hDb.2.symm]; exact h2, h3⟩
  have F3 : Fr [b] H H3 := (hF1.trans hF2).trans hF3
  refine g_by (fun c => ?_) (fun c => ?_)
  ·walk_at "q"
   refine g_ixS (z := low22) (le_of (by decide +kernel)) hc2 ?_
   walk_at "q"
   refine g_mulS (by decide) (by decide) (show 0 < 1 by decide) (show 1 ≤ 1000 by decide) ?_
   refine g_addS (by rw [rep11]; exact le_of (show 1 + 11 ≤ 100000 by decide)) ?_
   have hz := word_z hc2b
   walk_at "q"
   refine ⟨D, _, _, rfl, rfl, hw3, lt_of (by rw [List.length_map]; omega), ?_⟩
   obtain ⟨a1, a2, a3⟩ := app _ _ hz hB3 F3
   exact ⟨⟨_, _, _, _, rfl⟩, a2, a3, a1⟩
  ·walk_at "q"
   refine ⟨y, rfl, fun H4 e4 => ?_⟩
   have hw4 := e4.at hw3 (fun z => nomatch z)
   have hB4 := hB3.fr0 e4
   have F4 := F3.trans e4.nil
   walk_at "q"
   refine g_by (fun c2 => ?_) (fun c2 => ?_)
   ·walk_at "q"
    refine g_ixS (z := low22) (le_of (by decide +kernel)) hc2 ?_
    walk_at "q"
    refine g_mulS (by decide) (by decide) (show 0 < 1 by decide) (show 1 ≤ 1000 by decide) ?_
    refine g_addS (by rw [rep11]; exact le_of (show 1 + 11 ≤ 100000 by decide)) ?_
    have hz := word_z hc2b
    walk_at "q"
    refine ⟨D, _, _, rfl, rfl, hw4, lt_of (by rw [List.length_map]; omega), ?_⟩
    obtain ⟨a1, a2, a3⟩ := app _ _ hz hB4 F4
    exact ⟨⟨_, _, _, _, rfl⟩, a2, a3, a1⟩
   ·walk_at "q"
    refine ⟨D, _, _, rfl, rfl, hw4, lt_of (by rw [List.length_map]; omega), ?_⟩
    obtain ⟨a1, a2, a3⟩ := app _ _ ⟨hw2, c2⟩ hB4 F4
    exact ⟨⟨_, _, _, _, rfl⟩, a2, a3, a1⟩
 ·obtain ⟨⟨z1, z2, z3, z4, rfl⟩, hB1, hF1, ws, hw, hwl, hwv⟩ := h
  walk_at "q"
  exact q D ws H1 hD hw hwl hwv hB1 hF1
end
def putS (vd : List (Str × Str)) (x k : Str) : List (Str × Str) := if (vd.any fun p => decide (p.1 = x)) = true then vd.map (fun p => if p.1 = x then (p.1, k) else p) else vd ++ [(x, k)]
theorem kvOf_put (vd : List (Str × Str)) (x k : Str) : putK (kvOf vd) (Sum.inr x) (.str k) = kvOf (putS vd x k) := by
 have ea : ((kvOf vd).any fun kv => decide (kv.1 = (Sum.inr x : Key))) = vd.any fun p => decide (p.1 = x) := by
  unfold kvOf
  rw [List.any_map]
  congr 1
  funext p
  show decide ((Sum.inr p.1 : Key) = Sum.inr x) = decide (p.1 = x)
  by_cases h : p.1 = x
  ·rw [decide_eq_true h, decide_eq_true (by rw [h])]
  ·rw [decide_eq_false h, decide_eq_false fun e => h (Sum.inr.inj e)]
 unfold putK putS
 rw [ea]
 split
 ·unfold kvOf
  rw [List.map_map, List.map_map]
  congr 1
  funext p
  show (if (Sum.inr p.1 : Key) = Sum.inr x then _ else _) = _
  by_cases h : p.1 = x
  ·rw [if_pos (by rw [h])]
   show _ = ((Sum.inr (if p.1 = x then (p.1, k) else p).1 : Key), V.str (if p.1 = x then (p.1, k) else p).2)
   rw [if_pos h]
  ·rw [if_neg fun e => h (Sum.inr.inj e)]
   show _ = ((Sum.inr (if p.1 = x then (p.1, k) else p).1 : Key), V.str (if p.1 = x then (p.1, k) else p).2)
   rw [if_neg h]
 ·unfold kvOf
  rw [List.map_append]
  rfl
structure VdG (vd : List (Str × Str)) : Prop where
 len : vd.length ≤ 12
 ok : ∀ p ∈ vd, VarN p.1 ∧ KindW p.2
theorem putS_mem {vd : List (Str × Str)} {x k : Str} {p : Str × Str} (h : p ∈ putS vd x k) : p ∈ vd ∨ p = (x, k) := by
 unfold putS at h
 split at h
 ·obtain ⟨c, hc, rfl⟩ := List.mem_map.mp h
  split
  ·rename_i e
   exact .inr (by rw [e])
  ·exact .inl hc
 ·rcases List.mem_append.mp h with h | h
  ·exact .inl h
  ·exact .inr (List.mem_singleton.mp h)
theorem putS_len {vd : List (Str × Str)} {x k : Str} : (putS vd x k).length ≤ vd.length + 1 := by
 unfold putS
 split
 ·rw [List.length_map]; omega
 ·rw [List.length_append]; exact Nat.le_refl _
theorem VdG.put {vd : List (Str × Str)} {x k : Str} (h : VdG vd) (hl : vd.length ≤ 11) (hx : VarN x) (hk : KindW k) : VdG (putS vd x k) := by
 refine ⟨Nat.le_trans putS_len (by omega), fun p hp => ?_⟩
 rcases putS_mem hp with hp | rfl
 ·exact h.ok p hp
 ·exact ⟨hx, hk⟩
theorem VdG.lk {vd : List (Str × Str)} {x k : Str} (h : VdG vd) (e : vd.lookup x = some k) : VarN x ∧ KindW k := by
 rw [List.lookup_eq_some_iff] at e
 obtain ⟨l1, l2, e, _⟩ := e
 exact h.ok (x, k) (by rw [e]; simp)
theorem VarN.ok {x : Str} (h : VarN x) : PyData.strOk x = true := by
 unfold PyData.strOk
 rw [← Array.all_toList, List.all_eq_true]
 exact fun c hc => decide_eq_true (h.1.tx.ok c hc)
theorem VarsAt.put {H : Hp} {d : Addr} {vd : List (Str × Str)} {x k : Str} (h : VarsAt H d vd) (hx : VarN x) (hl : vd.length ≤ 50) : VarsAt (upd H d (.dK (kvOf (putS vd x k)))) d (putS vd x k) :=
 ⟨upd_same, Nat.lt_of_le_of_lt putS_len (by omega), fun p hp => by
  rcases putS_mem hp with hp | rfl
  ·exact h.ok p hp
  ·exact hx.ok⟩
def ValW (u : V) : Prop := (∃ i : Int, u = .int i ∧ i.natAbs < 10 ^ 30) ∨ (∃ b, u = .bl b) ∨ ∃ x, u = .str x ∧ WordP x
theorem ValOf.w {k : Str} {u : V} (h : ValOf k u) : ValW u := by
 rcases h with ⟨_, n, rfl, h1, h2⟩ | ⟨_, c, rfl⟩ | ⟨_, x, rfl, hx⟩
 ·exact .inl ⟨n, rfl, by omega⟩
 ·exact .inr (.inl ⟨c, rfl⟩)
 ·exact .inr (.inr ⟨x, rfl, hx⟩)
theorem ValW.g {u : V} (h : ValW u) : ValG u := by
 rcases h with ⟨i, rfl, h⟩ | ⟨b, rfl⟩ | ⟨x, rfl, h⟩
 ·exact .inl ⟨i, rfl, h⟩
 ·exact .inr (.inl ⟨b, rfl⟩)
 ·exact .inr (.inr ⟨x, rfl, h.tx⟩)
theorem ValW.td {K : PySem.W.Frag} {H : Hp} {u : V} (h : ValW u) : Td K H u (scD u) := by
 rcases h with ⟨i, rfl, h⟩ | ⟨b, rfl⟩ | ⟨x, rfl, h⟩
 ·exact .int i
 ·exact .bl b
 ·exact .str x
inductive SumW : Nat → SumE → Prop
 | val {n : Nat} {u : V} : ValW u → SumW n (.val u)
 | var {n : Nat} {x : Str} : VarN x → SumW n (.var x)
 | op {n : Nat} {s : Str} {a b : SumE} : isSg s → SumW n a → SumW n b → SumW (n + 1) (.op s a b)
theorem SumW.up {m n : Nat} {e : SumE} (h : SumW m e) (l : m ≤ n) : SumW n e := by
 induction h generalizing n with
 | val h => exact .val h
 | var h => exact .var h
 | op hs _ _ iha ihb =>
  obtain ⟨k, rfl⟩ : ∃ k, n = k + 1 := ⟨n - 1, by omega⟩
  exact .op hs (iha (by omega)) (ihb (by omega))
theorem SumW.g {n : Nat} {e : SumE} (h : SumW n e) : SumG n e := by
 induction h with
 | val h => exact .val h.g
 | var h => exact .var h.1.tx
 | op hs _ _ h1 h2 => exact .op hs h1 h2
inductive TermW : TermE → Prop
 | any : TermW .any
 | s {e : SumE} : SumW 0 e → TermW (.s e)
theorem TermW.g {t : TermE} (h : TermW t) : TermG t := by
 cases h with
 | any => exact .any
 | s h => exact .s h.g
inductive NameD : Str → Prop
 | one {a : Str} : VarN a → NameD a
 | two {a b : Str} : VarN a → VarN b → NameD (a ++ "." ++ b)
 | three {a b c : Str} : VarN a → VarN b → VarN c → NameD (a ++ "." ++ b ++ "." ++ c)
theorem NameD.tx {x : Str} (h : NameD x) : Tx 38 x := by
 have d : Tx 1 (".": Str) := Tx.lit (by decide +kernel)
 cases h with
 | one h => exact h.1.tx.mono (by decide)
 | two h k => exact ((h.1.tx.app d).app k.1.tx).mono (by decide)
 | three h k l => exact ((((h.1.tx.app d).app k.1.tx).app d).app l.1.tx).mono (by decide)
def testL : List Str := ["=", "!=", "<", "<=", ">", ">="]
inductive PartW : PartE → Prop
 | atom {no : Bool} {x : Str} {ts : List TermE} : Tx 40 x → (∃ y, NameD y ∧ (x = y ∨ x = "q." ++ y)) → 1 ≤ ts.length → ts.length ≤ 4 → (∀ t ∈ ts, TermW t) → PartW (.atom no x ts)
 | lt {x : Str} {e : SumE} : VarN x → SumW 1 e → PartW (.lt x e)
 | test {s : Str} {a b : SumE} : s ∈ testL → SumW 1 a → SumW 1 b → PartW (.test s a b)
theorem testL_tx {s : Str} (h : s ∈ testL) : Tx 2 s := by
 have z : ∀ s ∈ testL, txB 2 s = true := by decide +kernel
 exact Tx.lit (z s h)
theorem PartW.g {p : PartE} (h : PartW p) : PartG p := by
 cases h with
 | atom hx _ _ hl h => exact .atom (hx.mono (by decide)) hl fun t ht => (h t ht).g
 | lt hx h => exact .lt hx.1.tx h.g
 | test hs h k => exact .test (testL_tx hs) h.g k.g
inductive ArgW : ArgE → Prop
 | s {e : SumE} : SumW 0 e → ArgW (.s e)
 | fold0 : ArgW (.fold "count" none)
 | fold {w x : Str} : w ∈ (["sum", "least", "most"] : List Str) → VarN x → ArgW (.fold w (some x))
theorem ArgW.g {a : ArgE} (h : ArgW a) : ArgG a := by
 cases h with
 | s h => exact .s h.g
 | fold0 => exact .fold0 (Tx.lit (by decide +kernel))
 | fold h k =>
  have z : ∀ s ∈ (["sum", "least", "most"] : List Str), txB 5 s = true := by decide +kernel
  exact .fold (Tx.lit (z _ h)) k.1.tx
theorem LeafAt.w {K : PySem.W.Frag} {H : Hp} {vd : List (Str × Str)} {k : Str} {p : Addr} (h : LeafAt K H vd k p) (hv : VdG vd) : ∃ e, SumW 0 e ∧ Td K H (.ref p) e.d := by
 rcases h with ⟨u, h1, h2⟩ | ⟨x, h1, h2⟩
 ·exact ⟨.val u, .val h2.w, .tup h1 (.cons (.str _) (.cons h2.w.td .nil))⟩
 ·exact ⟨.var x, .var (hv.lk h2).1, .tup h1 (.cons (.str _) (.cons (.str _) .nil))⟩
theorem SumN.w {vd : List (Str × Str)} {m : Nat} {e : SumE} (h : SumN vd m e) (hv : VdG vd) : SumW m e := by
 induction h with
 | num h _ => exact .val h.w
 | var h => exact .var (hv.lk h).1
 | op hs _ _ h1 h2 => exact .op hs h1 h2
theorem SumAt.td {K : PySem.W.Frag} {H : Hp} {m : Nat} : ∀ {e : SumE} {v : V}, SumW m e → SumAt K H e v → Td K H v e.d := by
 intro e v hw
 induction hw generalizing v with
 | val h => exact fun ⟨p, e, hp⟩ => by rw [e]; exact .tup hp (.cons (.str _) (.cons h.td .nil))
 | var h => exact fun ⟨p, e, hp⟩ => by rw [e]; exact .tup hp (.cons (.str _) (.cons (.str _) .nil))
 | op hs _ _ h1 h2 => exact fun ⟨p, y, z, e, hp, ha, hb⟩ => by rw [e]; exact .tup hp (.cons (.str _) (.cons (h1 ha) (.cons (h2 hb) .nil)))
def abc10 : Str := "xyuvwabcde"
theorem abc10_at {n : Nat} (h : n < 10) : ∃ c, atI abc10.cps.toList (n : Int) = some c ∧ VarN ⟨#[c]⟩ := by
 have e : abc10.cps.toList = [120, 121, 117, 118, 119, 97, 98, 99, 100, 101] := by decide +kernel
 obtain ⟨c, hc, ha⟩ := atI_in (xs := abc10.cps.toList) (d := (n : Int)) (by omega) (by rw [e]; exact Int.ofNat_lt.mpr h)
 refine ⟨c, ha, ?_⟩
 rw [e] at hc
 have z : ∀ c ∈ ([120, 121, 117, 118, 119, 97, 98, 99, 100, 101] : List Nat), varB ⟨#[c]⟩ = true := by decide +kernel
 exact varB_ok (z c hc)
def spTerms (K : PySem.W.Frag) : Sp := fun vs H Q _ => ∃ (b cs kl d : Addr) (ks : List Str) (vd : List (Str × Str)), vs = [.ref b, .ref kl, .ref d] ∧ BagAt H b cs ∧ H kl = some (.lst (ks.map V.str)) ∧ kl ≠ b ∧ ks.length ≤ 4 ∧ (∀ k ∈ ks, KindW k) ∧ VarsAt H d vd ∧ VdG vd ∧
 ∀ (p : Addr) (us : List V) (ts : List TermE) (vd' : List (Str × Str)) (H' : Hp), SqT K H' p us → TdAll K H' us (ts.map TermE.d) → ts.length = ks.length → (∀ t ∈ ts, TermW t) → VarsAt H' d vd' → VdG vd' → vd'.length ≤ max 8 vd.length → BagAt H' b cs → Fr [b, d] H H' → Q (.ref p) H'
abbrev s__law_terms : Stmt := topS 36
theorem sc__law_terms : FnScope ["_law_bag_here", "_law_kinds", "_law_vars_of", "_law_terms_here", "_law_kind", "_law_fork", "_law_alike", "_law_name"] ["_law_bag_here", "_law_kinds", "_law_vars_of"] (defScope s__law_terms) := ⟨rfl, rfl, rfl, by decide +kernel, rfl, by decide +kernel, by decide +kernel⟩
section
variable {P : Program} {w : World} {K : PySem.W.Frag} {mg : Str → Option Value} {base : Heap}
structure BiR (mg : Str → Option Value) : Prop where
 b_len : mg "len" = none
 b_list : mg "list" = none
 b_sorted : mg "sorted" = none
 b_tuple : mg "tuple" = none
 b_range : mg "range" = none
theorem tda_snoc {K : PySem.W.Frag} {H : Hp} : ∀ {vs : List V} {ds : List PyData} {v : V} {d : PyData}, TdAll K H vs ds → Td K H v d → TdAll K H (vs ++ [v]) (ds ++ [d])
 | _, _, _, _, .nil, h => .cons h .nil
 | _, _, _, _, .cons a b, h => .cons a (tda_snoc b h)
theorem ok__law_terms {f : Addr} {fd : FuncData} (F : FnP K "_law_terms" s__law_terms f fd) (B : BiR mg) (C__law_pull : CalG P w K mg base 10 "_law_pull" spPull) (C__law_one : CalG P w K mg base 20 "_law_one" (spOne K)) (C__law_value : CalG P w K mg base 40 "_law_value" spValue) :
  FnG P w K mg base CX0 60 f fd ["_law_bag_here", "_law_kinds", "_law_vars_of"] (spTerms K) := by
 refine okG F sc__law_terms (fun vs H Q E h => ?_) (fun cdv A outer s H vs Q E hr h => ?_)
 ·obtain ⟨b, cs, kl, d, ks, vd, rfl, _⟩ := h
  rfl
 obtain ⟨b, cs, kl, d, ks, vd, rfl, hB, hkl, hkb, hk4, hkk, hV, hG, q⟩ := h
 have hu := hu_of hr.rm
 have hdb := hV.ne hB
 have hkd : kl ≠ d := fun e => by have z := hV.at_; rw [← e, hkl] at z; cases z
 refine ⟨_, PSs.nox (pss_cons (ps_set (i := 3) sc__law_terms.nd rfl (.inl rfl) (pe_lst pa_nil))
 (pss_cons (ps_for PassesOwn.never rfl (pi_listK (K := K) rfl (pv 1)) (pg_name (i := 4) sc__law_terms.nd rfl (by first | exact Or.inl rfl | exact Or.inr rfl)) (pss_cons (ps_set (i := 5) sc__law_terms.nd rfl (.inl rfl) (pe_calG C__law_pull hr rfl (pa_cons (pv 0) (pa_cons pe_int pa_nil))))
 (pss_cons (ps_setLc (i := 6) (own := [("_law_name", 7)]) (g := gName 7) rfl sc__law_terms.nd rfl rfl (sw_true rfl rfl rfl (by decide +kernel)) (pi_listK (K := K) rfl (pe_callB (kCall (K := K) (r := rSortedS) rfl cr_sortedS) (by rfl) B.b_sorted (by decide +kernel) (pa_cons (pe_callTy (kCall (K := K) (r := uList) rfl callu_list) (by rfl) B.b_list (by decide +kernel) (pa_cons (pv 2) pa_nil)) pa_nil))) (blkOk_by (own := [("_law_name", 7)]) (N := ["_law_bag_here", "_law_kinds", "_law_vars_of", "_law_terms_here", "_law_kind", "_law_fork", "_law_alike", "_law_name"]) (sc := defScope s__law_terms) (by decide +kernel)) (fun _ _ _ _ _ => (by exact (pg_name (i := 7) sc__law_terms.nd rfl (by first | exact Or.inl rfl | exact Or.inr rfl)))) (fun _ _ _ _ _ => (by exact pts_one (pt_cmpR (kOp (K := K) (r := uEq) rfl (opu_eq hr.units)) (pe_dget hu (pv 2) (pv 7) (fun _ _ => rfl)) (pv 4) (nomark _)))) (fun _ _ _ _ _ => (by exact (pv 7))))
 (pss_one (ps_if (PW.pt (pw_and (pt_cmpR (kOp (K := K) (r := uLt) rfl opu_lt) (pv 5) pe_int (nomark _)) (pw_and1 (pt_cmpR (kOp (K := K) (r := uNe) rfl (opu_ne hr.units)) (pv 6) (pe_lst pa_nil) (nomark _))))) (pss_one (ps_expr (kBM (K := K) rfl (pe_bm PySem.F.plainAttrs_list PySem.F.slot_list_append PySem.F.type_list_append mt_append (pv 3) (pa_cons (pe_tup (pa_cons pe_str (pa_cons (pe_calG C__law_one hr rfl (pa_cons (pv 0) (pa_cons (pv 6) pa_nil))) pa_nil))) pa_nil))))) (pss_one (ps_if (PW.pt (pw_and (pt_cmpR (kOp (K := K) (r := uLt) rfl opu_lt) (pv 5) pe_int (nomark _)) (pw_and1 (pt_cmpR (kOp (K := K) (r := uLt) rfl opu_lt) (pe_callB (kCall (K := K) (r := uLen) rfl callu_len) (by rfl) B.b_len (by decide +kernel) (pa_cons (pv 2) pa_nil)) pe_int (nomark _))))) (pss_cons (ps_set (i := 7) sc__law_terms.nd rfl (.inl rfl) (pe_ix (kIx (K := K) (r := rIx) rfl ix_seq) pe_str (pe_callB (kCall (K := K) (r := uLen) rfl callu_len) (by rfl) B.b_len (by decide +kernel) (pa_cons (pv 2) pa_nil)) (fun _ _ => rfl)))
 (pss_cons (ps_dput hu (pv 2) (pv 7) (pv 4) rfl)
 (pss_one (ps_expr (kBM (K := K) rfl (pe_bm PySem.F.plainAttrs_list PySem.F.slot_list_append PySem.F.type_list_append mt_append (pv 3) (pa_cons (pe_tup (pa_cons pe_str (pa_cons (pv 7) pa_nil))) pa_nil))))))) (pss_one (ps_if (pt_cmpR (kOp (K := K) (r := uEq) rfl (opu_eq hr.units)) (pv 5) pe_int (nomark _)) (pss_one (ps_expr (kBM (K := K) rfl (pe_bm PySem.F.plainAttrs_list PySem.F.slot_list_append PySem.F.type_list_append mt_append (pv 3) (pa_cons (pe_tup (pa_cons pe_str (pa_cons (pe_calG C__law_value hr rfl (pa_cons (pv 0) (pa_cons (pv 4) pa_nil))) pa_nil))) pa_nil))))) (pss_one (ps_expr (kBM (K := K) rfl (pe_bm PySem.F.plainAttrs_list PySem.F.slot_list_append PySem.F.type_list_append mt_append (pv 3) (pa_cons (pe_tup (pa_cons pe_str pa_nil)) pa_nil))))))))))))))
 (pss_one (ps_ret (pe_callTy (kCall (K := K) (r := uTuple) rfl callu_tuple) (by rfl) B.b_tuple (by decide +kernel) (pa_cons (pv 3) pa_nil)))))), rd_start (σ0 := [some (.ref b), some (.ref kl), some (.ref d), none, none, none, none, none]) rfl ?_⟩
 walk_at "q"
 refine ⟨le_of (by simp), fun T hT => ?_⟩
 have f0 : Fr [] H (upd H T (.lst [])) := Fr.new hT
 have hT0 : (upd H T (.lst [])) T = some (.lst []) := upd_same
 have hTb := hB.some hT
 have hTd : T ≠ d := fun e => by have z := hV.at_; rw [← e, hT] at z; cases z
 have hTM : T ∉ [b, d] := fun z => by
  rcases List.mem_cons.mp z with z | z
  ·exact hTb.1 z
  ·exact hTd (List.mem_singleton.mp z)
 have hB0 := hB.fr0 f0
 have hV0 := hV.fr f0 (fun z => nomatch z)
 have hkM : kl ∉ [b, d] := fun z => by
  rcases List.mem_cons.mp z with z | z
  ·exact hkb z
  ·exact hkd (List.mem_singleton.mp z)
 generalize upd H T (.lst []) = H0 at *
 have bsub : ∀ {H H' : Hp}, Fr [b] H H' → Fr [b, d] H H' := fun e => e.mono fun a ha => by rw [List.mem_singleton.mp ha]; exact List.mem_cons_self
 walk_at "q"
 refine ⟨kl, rfl, ⟨_, SqL.of (f0.at hkl (fun z => nomatch z))⟩, for_list (xs := ks.map V.str) (fun i σ H' => (∃ z1 z2 z3 z4, σ = [some (.ref b), some (.ref kl), some (.ref d), some (.ref T), z1, z2, z3, z4]) ∧ BagAt H' b cs ∧ Fr [b, d] H H' ∧ ∃ (us : List V) (ts : List TermE) (vd' : List (Str × Str)), H' T = some (.lst us) ∧ TdAll K H' us (ts.map TermE.d) ∧ us.length = i ∧ ts.length = i ∧ (∀ t ∈ ts, TermW t) ∧ VarsAt H' d vd' ∧ VdG vd' ∧ vd'.length ≤ max 8 vd.length)
  ⟨⟨_, _, _, _, rfl⟩, hB0, f0.nil, [], [], vd, hT0, .nil, rfl, rfl, (fun _ z => nomatch z), hV0, hG, Nat.le_max_right _ _⟩ (fun i σ H' _ h => SqL.of (h.2.2.1.at hkl hkM)) (fun i x σ H1 hx h => ?_) (fun σ H1 h => ?_)⟩
 ·obtain ⟨⟨z1, z2, z3, z4, rfl⟩, hB1, hF1, us, ts, vd1, hT1, ht1, hu1, hl1, htw, hV1, hG1, hm1⟩ := h
  obtain ⟨k, hk, rfl⟩ := List.mem_map.mp (List.mem_of_getElem? hx)
  have hkw := hkk k hk
  have hik : i < ks.length := by
   have := (List.getElem?_eq_some_iff.mp hx).1
   rw [List.length_map] at this
   exact this
  walk_at "q"
  refine ⟨b, cs, _, rfl, hB1, by decide, by decide, fun fork H2 d0 d1 hB2 hF2 => ?_⟩
  have hbM : ∀ {a : Addr}, a ∉ [b, d] → a ∉ [b] := fun h z => h (by rw [List.mem_singleton.mp z]; exact List.mem_cons_self)
  have hdM : d ∉ [b] := fun z => hdb.1 (List.mem_singleton.mp z)
  have hT2 := hF2.at hT1 (hbM hTM)
  have hV2 := hV1.fr hF2 hdM
  have F2 := hF1.trans (bsub hF2)
  have ht2 := ht1.fr hF2
  walk_at "q"
  refine g_listD hV2.at_ fun l hl => ?_
  rw [kvOf_keys]
  have f1 : Fr [] H2 (upd H2 l (.lst ((vd1.map (·.1)).map V.str))) := Fr.new hl
  have hla : (upd H2 l (.lst ((vd1.map (·.1)).map V.str))) l = some (.lst ((vd1.map (·.1)).map V.str)) := upd_same
  generalize upd H2 l (.lst ((vd1.map (·.1)).map V.str)) = Ha at *
  walk_at "q"
  refine ⟨l, vd1.map (·.1), rfl, SqL.of hla, by rw [List.length_map]; have := hV2.len; omega, fun ys p2 hperm _ hp2 => ?_⟩
  have f2 : Fr [] H2 (upd Ha p2 (.lst (ys.map V.str))) := f1.trans (Fr.new hp2)
  have hp21 : (upd Ha p2 (.lst (ys.map V.str))) p2 = some (.lst (ys.map V.str)) := upd_same
  generalize upd Ha p2 (.lst (ys.map V.str)) = Hb at *
  have hyl : ys.length < 60 := by rw [hperm.length_eq, List.length_map]; exact hV2.len
  refine ⟨p2, rfl, ⟨_, SqL.of hp21⟩, fun D hD => lc_it (walk_list (xs := ys.map V.str)) (fun i H' => Fr [] Hb H' ∧ ∃ ws : List Str, H' D = some (.lst (ws.map V.str)) ∧ ws.length ≤ i ∧ ∀ x ∈ ws, vd1.lookup x = some k)
   ⟨Fr.new hD, [], upd_same, Nat.le_refl _, (fun _ z => nomatch z)⟩ (fun i H' _ h => h.1.seq (fun z => nomatch z) (SqL.of hp21)) (fun i x H' H'' hi h y => ?_) (fun Hc h => ?_)⟩
  ·obtain ⟨rfl, hx⟩ := y
   obtain ⟨h1, ws, h2, h3, h4⟩ := h
   obtain ⟨z, hz, rfl⟩ := List.mem_map.mp (List.mem_of_getElem? hx)
   obtain ⟨k2, hk2⟩ := lookup_mem (hperm.mem_iff.mp hz)
   walk_at "q"
   refine ⟨rfl, ?_⟩
   walk_at "q"
   have hV' := (hV2.fr f2 (fun z => nomatch z)).fr h1 (fun z => nomatch z)
   refine g_dgetS hV'.at_ (v := V.str k2) (by rw [kvOf_val, hk2]; rfl) ?_
   walk_at "q"
   refine g_by (fun c => ?_) (fun c => ?_)
   ·walk_at "q"
    refine ⟨_, h2, lt_of (by rw [List.length_map]; rw [List.length_map] at hi; omega), h1.over hD, ws ++ [z], ?_, ?_, ?_⟩
    ·rw [upd_same, List.map_append]; rfl
    ·rw [List.length_append]; exact Nat.succ_le_succ h3
    ·intro x hx
     rcases List.mem_append.mp hx with hx | hx
     ·exact h4 x hx
     ·rw [List.mem_singleton.mp hx, hk2, c]
   ·exact ⟨h1, ws, h2, Nat.le_succ_of_le h3, h4⟩
  ·obtain ⟨h1, ws, hws, h3, hwk⟩ := h
   have fc : Fr [] H2 Hc := f2.trans h1
   rw [List.length_map] at h3
   have hwl : ws.length < 60 := by omega
   have hDn : H2 D = none := f2.back (fun z => nomatch z) hD
   have hVc := hV2.fr fc (fun z => nomatch z)
   have hBc := hB2.fr0 fc
   have hTc := fc.at hT2 (fun z => nomatch z)
   have Fc := F2.trans fc.nil
   have htc := ht2.fr fc
   have hDb := hB2.some hDn
   have fin : ∀ (H5 : Hp) (p : Addr) (t : TermE) (vd2 : List (Str × Str)), TermW t → Td K H5 (.ref p) t.d → BagAt H5 b cs → Fr [b, d] H H5 → H5 T = some (.lst us) → VarsAt H5 d vd2 → VdG vd2 → TdAll K H5 us (ts.map TermE.d) → vd2.length ≤ max 8 vd.length →
     BagAt (upd H5 T (.lst (us ++ [.ref p]))) b cs ∧ Fr [b, d] H (upd H5 T (.lst (us ++ [.ref p]))) ∧ ∃ (us' : List V) (ts' : List TermE) (vd' : List (Str × Str)), (upd H5 T (.lst (us ++ [.ref p]))) T = some (.lst us') ∧ TdAll K (upd H5 T (.lst (us ++ [.ref p]))) us' (ts'.map TermE.d) ∧ us'.length = i + 1 ∧ ts'.length = i + 1 ∧ (∀ t ∈ ts', TermW t) ∧ VarsAt (upd H5 T (.lst (us ++ [.ref p]))) d vd' ∧ VdG vd' ∧ vd'.length ≤ max 8 vd.length := by
    intro H5 p t vd2 hw htd hB5 hF5 hT5 hV5 hG5 ht5 hm5
    have e : Fr [T] H5 (upd H5 T (.lst (us ++ [.ref p]))) := Fr.mut (List.mem_singleton.mpr rfl) hT5 nofix_lst
    refine ⟨hB5.fr e (fun z => hTb.1 (List.mem_singleton.mp z).symm) (fun z => hTb.2 (List.mem_singleton.mp z).symm), hF5.over hT, us ++ [.ref p], ts ++ [t], vd2, upd_same, ?_, ?_, ?_, ?_, hV5.fr e (fun z => hTd (List.mem_singleton.mp z).symm), hG5, hm5⟩
    ·rw [List.map_append]
     exact (tda_snoc ht5 htd).fr e
    ·rw [List.length_append, hu1]; rfl
    ·rw [List.length_append, hl1]; rfl
    ·intro x hx
     rcases List.mem_append.mp hx with hx | hx
     ·exact htw x hx
     ·rw [List.mem_singleton.mp hx]; exact hw
   have lus : us.length < sizeLine := lt_of (by omega)
   have put : ∀ (t : V), True := fun _ => trivial
   walk_at "q"
   refine g_by (fun c3 => ?_) (fun c3 => ?_)
   ·walk_at "q"
    refine ⟨le_of (by decide), fun p4 hp4 => ?_⟩
    have e4 : Fr [] Hc (upd Hc p4 (.lst [])) := Fr.new hp4
    have hn4 : (upd Hc p4 (.lst [])) p4 = some (.lst []) := upd_same
    have hw4 := e4.at hws (fun z => nomatch z)
    have hB9 := hBc.fr0 e4
    have hV9 := hVc.fr e4 (fun z => nomatch z)
    have hT9 := e4.at hTc (fun z => nomatch z)
    have ht9 := htc.fr e4
    have F9 := Fc.trans e4.nil
    generalize upd Hc p4 (.lst []) = H9 at *
    refine g_neEL (SqL.of hw4) (SqL.of hn4) ?_
    walk_at "q"
    refine g_byN (fun cw => ?_) (fun cw => ?_)
    ·have hw0 : 0 < ws.length := by
      cases ws with
      | nil => exact absurd rfl cw
      | cons x r => exact Nat.succ_pos _
     walk_at "q"
     refine ⟨b, cs, D, ws.map V.str, rfl, hB9, .inl ⟨SqL.of hw4, hDb.1⟩, by rw [List.length_map]; exact hw0, by rw [List.length_map]; omega, fun v H5 hv hB5 hF5 => ?_⟩
     obtain ⟨x, hx, rfl⟩ := List.mem_map.mp hv
     have hxv := (hG1.lk (hwk x hx)).1
     have hT5 := hF5.at hT9 (hbM hTM)
     have hV5 := hV9.fr hF5 hdM
     have ht5 := ht9.fr hF5
     have F5 := F9.trans (bsub hF5)
     walk_at "q"
     refine ⟨le_of (by simp), fun p hp => ?_⟩
     have e9 : Fr [] H5 (upd H5 p (.tup [.str "var", .str x])) := Fr.new hp
     have hT9' := e9.at hT5 (fun z => nomatch z)
     walk_at "q"
     refine ⟨T, us, .ref p, rfl, rfl, hT9', lus, ?_⟩
     obtain ⟨a1, a2, a3⟩ := fin _ p (.s (.var x)) vd1 (.s (.var hxv)) (.tup (SqT.of upd_same) (.cons (.str _) (.cons (.str _) .nil))) (hB5.fr0 e9) (F5.trans e9.nil) hT9' (hV5.fr e9 (fun z => nomatch z)) hG1 (ht5.fr e9) hm1
     exact ⟨⟨_, _, _, _, rfl⟩, a1, a2, a3⟩
    ·have hB9 := hB9
     walk_at "q"
     refine g_by (fun c6 => ?_) (fun c6 => ?_)
     ·walk_at "q"
      refine g_lenK hV9.at_ ?_
      walk_at "q"
      have elen : ((kvOf vd1).length : Int) = (vd1.length : Int) := by unfold kvOf; rw [List.length_map]
      rw [elen]
      refine g_by (fun c8 => ?_) (fun c8 => ?_)
      ·obtain ⟨c, hc, hcv⟩ := abc10_at (n := vd1.length) (by omega)
       walk_at "q"
       refine g_lenK hV9.at_ ?_
       rw [elen]
       refine g_ixS (z := abc10) (le_of (by decide +kernel)) hc ?_
       walk_at "q"
       refine g_dputS hV9.at_ (by omega) ?_
       rw [kvOf_put]
       have hV10 := hV9.put (k := k) hcv (by omega)
       have hG10 := hG1.put (k := k) (by omega) hcv hkw
       have e10 : Fr [d] H9 (upd H9 d (.dK (kvOf (putS vd1 ⟨#[c]⟩ k)))) := Fr.mut (List.mem_singleton.mpr rfl) hV9.at_ nofix_dK
       have hB10 := hB9.fr e10 (fun z => hdb.1 (List.mem_singleton.mp z).symm) (fun z => hdb.2 (List.mem_singleton.mp z).symm)
       have hT10 := e10.at hT9 (fun z => hTd (List.mem_singleton.mp z))
       have ht10 := ht9.fr e10
       have F10 : Fr [b, d] H _ := F9.trans (e10.mono fun a ha => by rw [List.mem_singleton.mp ha]; exact List.mem_cons_of_mem _ List.mem_cons_self)
       generalize upd H9 d (.dK (kvOf (putS vd1 ⟨#[c]⟩ k))) = H10 at *
       walk_at "q"
       refine ⟨le_of (by simp), fun p hp => ?_⟩
       have e9 : Fr [] H10 (upd H10 p (.tup [.str "var", .str ⟨#[c]⟩])) := Fr.new hp
       have hT9' := e9.at hT10 (fun z => nomatch z)
       walk_at "q"
       refine ⟨T, us, .ref p, rfl, rfl, hT9', lus, ?_⟩
       obtain ⟨a1, a2, a3⟩ := fin _ p (.s (.var ⟨#[c]⟩)) (putS vd1 ⟨#[c]⟩ k) (.s (.var hcv)) (.tup (SqT.of upd_same) (.cons (.str _) (.cons (.str _) .nil))) (hB10.fr0 e9) (F10.trans e9.nil) hT9' (hV10.fr e9 (fun z => nomatch z)) hG10 (ht10.fr e9) (by have := putS_len (vd := vd1) (x := ⟨#[c]⟩) (k := k); omega)
       exact ⟨⟨_, _, _, _, rfl⟩, a1, a2, a3⟩
      ·have hB9 := hB9
       walk_at "q"
       refine g_by (fun c7 => ?_) (fun c7 => ?_)
       ·walk_at "q"
        refine ⟨b, cs, k, rfl, hkw, hB9, fun u H5 hu5 hB5 hF5 => ?_⟩
        have hT5 := hF5.at hT9 (hbM hTM)
        have hV5 := hV9.fr hF5 hdM
        have ht5 := ht9.fr hF5
        have F5 := F9.trans (bsub hF5)
        walk_at "q"
        refine ⟨le_of (by simp), fun p hp => ?_⟩
        have e9 : Fr [] H5 (upd H5 p (.tup [.str "value", u])) := Fr.new hp
        have hT9' := e9.at hT5 (fun z => nomatch z)
        walk_at "q"
        refine ⟨T, us, .ref p, rfl, rfl, hT9', lus, ?_⟩
        obtain ⟨a1, a2, a3⟩ := fin _ p (.s (.val u)) vd1 (.s (.val hu5.w)) (.tup (SqT.of upd_same) (.cons (.str _) (.cons hu5.w.td .nil))) (hB5.fr0 e9) (F5.trans e9.nil) hT9' (hV5.fr e9 (fun z => nomatch z)) hG1 (ht5.fr e9) hm1
        exact ⟨⟨_, _, _, _, rfl⟩, a1, a2, a3⟩
       ·walk_at "q"
        refine ⟨le_of (by simp), fun p hp => ?_⟩
        have e9 : Fr [] H9 (upd H9 p (.tup [.str "any"])) := Fr.new hp
        have hT9' := e9.at hT9 (fun z => nomatch z)
        walk_at "q"
        refine ⟨T, us, .ref p, rfl, rfl, hT9', lus, ?_⟩
        obtain ⟨a1, a2, a3⟩ := fin _ p .any vd1 .any (.tup (SqT.of upd_same) (.cons (.str _) .nil)) (hB9.fr0 e9) (F9.trans e9.nil) hT9' (hV9.fr e9 (fun z => nomatch z)) hG1 (ht9.fr e9) hm1
        exact ⟨⟨_, _, _, _, rfl⟩, a1, a2, a3⟩
     ·have hB9 := hB9
      walk_at "q"
      refine g_by (fun c7 => ?_) (fun c7 => ?_)
      ·walk_at "q"
       refine ⟨b, cs, k, rfl, hkw, hB9, fun u H5 hu5 hB5 hF5 => ?_⟩
       have hT5 := hF5.at hT9 (hbM hTM)
       have hV5 := hV9.fr hF5 hdM
       have ht5 := ht9.fr hF5
       have F5 := F9.trans (bsub hF5)
       walk_at "q"
       refine ⟨le_of (by simp), fun p hp => ?_⟩
       have e9 : Fr [] H5 (upd H5 p (.tup [.str "value", u])) := Fr.new hp
       have hT9' := e9.at hT5 (fun z => nomatch z)
       walk_at "q"
       refine ⟨T, us, .ref p, rfl, rfl, hT9', lus, ?_⟩
       obtain ⟨a1, a2, a3⟩ := fin _ p (.s (.val u)) vd1 (.s (.val hu5.w)) (.tup (SqT.of upd_same) (.cons (.str _) (.cons hu5.w.td .nil))) (hB5.fr0 e9) (F5.trans e9.nil) hT9' (hV5.fr e9 (fun z => nomatch z)) hG1 (ht5.fr e9) hm1
       exact ⟨⟨_, _, _, _, rfl⟩, a1, a2, a3⟩
      ·walk_at "q"
       refine ⟨le_of (by simp), fun p hp => ?_⟩
       have e9 : Fr [] H9 (upd H9 p (.tup [.str "any"])) := Fr.new hp
       have hT9' := e9.at hT9 (fun z => nomatch z)
       walk_at "q"
       refine ⟨T, us, .ref p, rfl, rfl, hT9', lus, ?_⟩
       obtain ⟨a1, a2, a3⟩ := fin _ p .any vd1 .any (.tup (SqT.of upd_same) (.cons (.str _) .nil)) (hB9.fr0 e9) (F9.trans e9.nil) hT9' (hV9.fr e9 (fun z => nomatch z)) hG1 (ht9.fr e9) hm1
       exact ⟨⟨_, _, _, _, rfl⟩, a1, a2, a3⟩
   ·have hB9 := hBc
    have hV9 := hVc
    have hT9 := hTc
    have ht9 := htc
    have F9 := Fc
    generalize Hc = H9 at *
    walk_at "q"
    refine g_by (fun c6 => ?_) (fun c6 => ?_)
    ·walk_at "q"
     refine g_lenK hV9.at_ ?_
     walk_at "q"
     have elen : ((kvOf vd1).length : Int) = (vd1.length : Int) := by unfold kvOf; rw [List.length_map]
     rw [elen]
     refine g_by (fun c8 => ?_) (fun c8 => ?_)
     ·obtain ⟨c, hc, hcv⟩ := abc10_at (n := vd1.length) (by omega)
      walk_at "q"
      refine g_lenK hV9.at_ ?_
      rw [elen]
      refine g_ixS (z := abc10) (le_of (by decide +kernel)) hc ?_
      walk_at "q"
      refine g_dputS hV9.at_ (by omega) ?_
      rw [kvOf_put]
      have hV10 := hV9.put (k := k) hcv (by omega)
      have hG10 := hG1.put (k := k) (by omega) hcv hkw
      have e10 : Fr [d] H9 (upd H9 d (.dK (kvOf (putS vd1 ⟨#[c]⟩ k)))) := Fr.mut (List.mem_singleton.mpr rfl) hV9.at_ nofix_dK
      have hB10 := hB9.fr e10 (fun z => hdb.1 (List.mem_singleton.mp z).symm) (fun z => hdb.2 (List.mem_singleton.mp z).symm)
      have hT10 := e10.at hT9 (fun z => hTd (List.mem_singleton.mp z))
      have ht10 := ht9.fr e10
      have F10 : Fr [b, d] H _ := F9.trans (e10.mono fun a ha => by rw [List.mem_singleton.mp ha]; exact List.mem_cons_of_mem _ List.mem_cons_self)
      generalize upd H9 d (.dK (kvOf (putS vd1 ⟨#[c]⟩ k))) = H10 at *
      walk_at "q"
      refine ⟨le_of (by simp), fun p hp => ?_⟩
      have e9 : Fr [] H10 (upd H10 p (.tup [.str "var", .str ⟨#[c]⟩])) := Fr.new hp
      have hT9' := e9.at hT10 (fun z => nomatch z)
      walk_at "q"
      refine ⟨T, us, .ref p, rfl, rfl, hT9', lus, ?_⟩
      obtain ⟨a1, a2, a3⟩ := fin _ p (.s (.var ⟨#[c]⟩)) (putS vd1 ⟨#[c]⟩ k) (.s (.var hcv)) (.tup (SqT.of upd_same) (.cons (.str _) (.cons (.str _) .nil))) (hB10.fr0 e9) (F10.trans e9.nil) hT9' (hV10.fr e9 (fun z => nomatch z)) hG10 (ht10.fr e9) (by have := putS_len (vd := vd1) (x := ⟨#[c]⟩) (k := k); omega)
      exact ⟨⟨_, _, _, _, rfl⟩, a1, a2, a3⟩
     ·have hB9 := hB9
      walk_at "q"
      refine g_by (fun c7 => ?_) (fun c7 => ?_)
      ·walk_at "q"
       refine ⟨b, cs, k, rfl, hkw, hB9, fun u H5 hu5 hB5 hF5 => ?_⟩
       have hT5 := hF5.at hT9 (hbM hTM)
       have hV5 := hV9.fr hF5 hdM
       have ht5 := ht9.fr hF5
       have F5 := F9.trans (bsub hF5)
       walk_at "q"
       refine ⟨le_of (by simp), fun p hp => ?_⟩
       have e9 : Fr [] H5 (upd H5 p (.tup [.str "value", u])) := Fr.new hp
       have hT9' := e9.at hT5 (fun z => nomatch z)
       walk_at "q"
       refine ⟨T, us, .ref p, rfl, rfl, hT9', lus, ?_⟩
       obtain ⟨a1, a2, a3⟩ := fin _ p (.s (.val u)) vd1 (.s (.val hu5.w)) (.tup (SqT.of upd_same) (.cons (.str _) (.cons hu5.w.td .nil))) (hB5.fr0 e9) (F5.trans e9.nil) hT9' (hV5.fr e9 (fun z => nomatch z)) hG1 (ht5.fr e9) hm1
       exact ⟨⟨_, _, _, _, rfl⟩, a1, a2, a3⟩
      ·walk_at "q"
       refine ⟨le_of (by simp), fun p hp => ?_⟩
       have e9 : Fr [] H9 (upd H9 p (.tup [.str "any"])) := Fr.new hp
       have hT9' := e9.at hT9 (fun z => nomatch z)
       walk_at "q"
       refine ⟨T, us, .ref p, rfl, rfl, hT9', lus, ?_⟩
       obtain ⟨a1, a2, a3⟩ := fin _ p .any vd1 .any (.tup (SqT.of upd_same) (.cons (.str _) .nil)) (hB9.fr0 e9) (F9.trans e9.nil) hT9' (hV9.fr e9 (fun z => nomatch z)) hG1 (ht9.fr e9) hm1
       exact ⟨⟨_, _, _, _, rfl⟩, a1, a2, a3⟩
    ·have hB9 := hB9
     walk_at "q"
     refine g_by (fun c7 => ?_) (fun c7 => ?_)
     ·walk_at "q"
      refine ⟨b, cs, k, rfl, hkw, hB9, fun u H5 hu5 hB5 hF5 => ?_⟩
      have hT5 := hF5.at hT9 (hbM hTM)
      have hV5 := hV9.fr hF5 hdM
      have ht5 := ht9.fr hF5
      have F5 := F9.trans (bsub hF5)
      walk_at "q"
      refine ⟨le_of (by simp), fun p hp => ?_⟩
      have e9 : Fr [] H5 (upd H5 p (.tup [.str "value", u])) := Fr.new hp
      have hT9' := e9.at hT5 (fun z => nomatch z)
      walk_at "q"
      refine ⟨T, us, .ref p, rfl, rfl, hT9', lus, ?_⟩
      obtain ⟨a1, a2, a3⟩ := fin _ p (.s (.val u)) vd1 (.s (.val hu5.w)) (.tup (SqT.of upd_same) (.cons (.str _) (.cons hu5.w.td .nil))) (hB5.fr0 e9) (F5.trans e9.nil) hT9' (hV5.fr e9 (fun z => nomatch z)) hG1 (ht5.fr e9) hm1
      exact ⟨⟨_, _, _, _, rfl⟩, a1, a2, a3⟩
     ·walk_at "q"
      refine ⟨le_of (by simp), fun p hp => ?_⟩
      have e9 : Fr [] H9 (upd H9 p (.tup [.str "any"])) := Fr.new hp
      have hT9' := e9.at hT9 (fun z => nomatch z)
      walk_at "q"
      refine ⟨T, us, .ref p, rfl, rfl, hT9', lus, ?_⟩
      obtain ⟨a1, a2, a3⟩ := fin _ p .any vd1 .any (.tup (SqT.of upd_same) (.cons (.str _) .nil)) (hB9.fr0 e9) (F9.trans e9.nil) hT9' (hV9.fr e9 (fun z => nomatch z)) hG1 (ht9.fr e9) hm1
      exact ⟨⟨_, _, _, _, rfl⟩, a1, a2, a3⟩
 ·obtain ⟨⟨z1, z2, z3, z4, rfl⟩, hB1, hF1, us, ts, vd1, hT1, ht1, hu1, hl1, htw, hV1, hG1, hm1⟩ := h
  walk_at "q"
  refine g_tupleL (SqL.of hT1) fun p hp => ?_
  have e : Fr [] H1 (upd H1 p (.tup us)) := Fr.new hp
  rw [List.length_map] at hl1
  exact q p us ts vd1 _ (SqT.of upd_same) (ht1.fr e) hl1 htw (hV1.fr e (fun z => nomatch z)) hG1 hm1 (hB1.fr0 e) (hF1.trans e.nil)
end
theorem BagAt.nstr {H : Hp} {b cs : Addr} (h : BagAt H b cs) (ks : List Str) : H b ≠ Option.some (.lst (ks.map V.str)) := by
 obtain ⟨cells, i, r, k, h1, h2, h3⟩ := h.ex
 intro e
 rw [h1] at e
 have h3 : [V.ref cs, .int i, .int r, .int k] = ks.map V.str := HO.lst.inj (Option.some.inj e)
 cases ks with
 | nil => cases h3
 | cons c r => cases (List.cons.inj h3).1
theorem VarsAt.nstr {H : Hp} {d : Addr} {vd : List (Str × Str)} (h : VarsAt H d vd) (ks : List Str) : H d ≠ some (.lst (ks.map V.str)) := fun e => by
 rw [h.at_] at e
 cases e
structure KindsAt (H : Hp) (a : Addr) : Prop where
 ex : ∃ kvs : List (Key × V), H a = some (.dK kvs) ∧ kvs.length ≤ 15 ∧ kvs ≠ [] ∧ ∀ kv ∈ kvs, ∃ (x : Str) (l : Addr) (ks : List Str), kv = (Sum.inr x, .ref l) ∧ H l = some (.lst (ks.map V.str)) ∧ NameD x ∧ 1 ≤ ks.length ∧ ks.length ≤ 4 ∧ ∀ k ∈ ks, KindW k
theorem KindsAt.fr {H H' : Hp} {M : List Addr} {a : Addr} (h : KindsAt H a) (e : Fr M H H') (n : a ∉ M) (hM : ∀ l ∈ M, ∀ ks : List Str, H l ≠ some (.lst (ks.map V.str))) : KindsAt H' a := by
 obtain ⟨kvs, h1, h2, h3, h4⟩ := h.ex
 refine ⟨kvs, e.at h1 n, h2, h3, fun kv hkv => ?_⟩
 obtain ⟨x, l, ks, e1, e2, e3⟩ := h4 kv hkv
 exact ⟨x, l, ks, e1, e.at e2 (fun hl => hM l hl ks e2), e3⟩
theorem KindsAt.frb {H H' : Hp} {b cs a : Addr} (h : KindsAt H a) (hB : BagAt H b cs) (e : Fr [b] H H') : KindsAt H' a := by
 obtain ⟨kvs, h1, h2, h3, h4⟩ := h.ex
 refine h.fr e (fun z => ?_) (fun l hl ks => ?_)
 ·rw [List.mem_singleton.mp z] at h1
  obtain ⟨cells, i, r, k, h5, _⟩ := hB.ex
  rw [h5] at h1
  cases h1
 ·rw [List.mem_singleton.mp hl]
  exact hB.nstr ks
theorem KindsAt.frbd {H H' : Hp} {b cs a d : Addr} {vd : List (Str × Str)} (h : KindsAt H a) (hB : BagAt H b cs) (hV : VarsAt H d vd) (n : a ≠ d) (e : Fr [b, d] H H') : KindsAt H' a := by
 obtain ⟨kvs, h1, h2, h3, h4⟩ := h.ex
 refine h.fr e (fun z => ?_) (fun l hl ks => ?_)
 ·rcases List.mem_cons.mp z with z | z
  ·rw [z] at h1
   obtain ⟨cells, i, r, k, h5, _⟩ := hB.ex
   rw [h5] at h1
   cases h1
  ·exact n (List.mem_singleton.mp z)
 ·rcases List.mem_cons.mp hl with z | z
  ·rw [z]; exact hB.nstr ks
  ·rw [List.mem_singleton.mp z]; exact hV.nstr ks
theorem valV_in : ∀ {kvs : List (Key × V)} {k : Key}, k ∈ kvs.map (·.1) → ∃ v, valV kvs k = some v ∧ (k, v) ∈ kvs
 | [], _, h => nomatch h
 | p :: r, k, h => by
  by_cases e : p.1 = k
  ·exact ⟨p.2, valV_pos e, by rw [← e]; exact List.mem_cons_self⟩
  ·obtain ⟨v, h1, h2⟩ := valV_in (k := k) ((List.mem_cons.mp (by simpa using h)).elim (fun z => absurd z.symm e) id)
   exact ⟨v, (valV_neg e).trans h1, List.mem_cons_of_mem _ h2⟩
theorem keys_strs : ∀ {kvs : List (Key × V)}, (∀ kv ∈ kvs, ∃ x : Str, kv.1 = Sum.inr x) → ∃ xs : List Str, kvs.map (fun kv => kV kv.1) = xs.map V.str ∧ xs.length = kvs.length ∧ ∀ x ∈ xs, (Sum.inr x : Key) ∈ kvs.map (·.1)
 | [], _ => ⟨[], rfl, rfl, fun _ z => nomatch z⟩
 | p :: r, h => by
  obtain ⟨xs, h1, h2, h3⟩ := keys_strs fun kv hkv => h kv (List.mem_cons_of_mem _ hkv)
  obtain ⟨x, hx⟩ := h p List.mem_cons_self
  refine ⟨x :: xs, ?_, congrArg Nat.succ h2, fun y hy => ?_⟩
  ·rw [List.map_cons, h1, hx]; rfl
  ·rw [List.map_cons]
   rcases List.mem_cons.mp hy with rfl | hy
   ·rw [hx]; exact List.mem_cons_self
   ·exact List.mem_cons_of_mem _ (h3 y hy)
def spAtom (K : PySem.W.Frag) : Sp := fun vs H Q _ => ∃ (b cs a d : Addr) (vd : List (Str × Str)), vs = [.ref b, .ref a, .ref d] ∧ BagAt H b cs ∧ KindsAt H a ∧ a ≠ d ∧ VarsAt H d vd ∧ VdG vd ∧
 ∀ (v : V) (t : PartE) (vd' : List (Str × Str)) (H' : Hp), Td K H' v t.d → PartW t → VarsAt H' d vd' → VdG vd' → vd'.length ≤ max 8 vd.length → BagAt H' b cs → Fr [b, d] H H' → Q v H'
def spTest (K : PySem.W.Frag) : Sp := fun vs H Q _ => ∃ (b cs d : Addr) (vd : List (Str × Str)), vs = [.ref b, .ref d] ∧ BagAt H b cs ∧ VarsAt H d vd ∧ VdG vd ∧
 ∀ (v : V) (t : PartE) (H' : Hp), Td K H' v t.d → PartW t → BagAt H' b cs → Fr [b] H H' → Q v H'
def spNot (K : PySem.W.Frag) : Sp := fun vs H Q _ => ∃ (b cs a d : Addr) (vd : List (Str × Str)), vs = [.ref b, .ref a, .ref d] ∧ BagAt H b cs ∧ KindsAt H a ∧ VarsAt H d vd ∧ VdG vd ∧
 ∀ (v : V) (t : PartE) (H' : Hp), Td K H' v t.d → PartW t → BagAt H' b cs → Fr [b] H H' → Q v H'
def spFoldA (K : PySem.W.Frag) : Sp := fun vs H Q _ => ∃ (b cs d : Addr) (vd : List (Str × Str)), vs = [.ref b, .ref d] ∧ BagAt H b cs ∧ VarsAt H d vd ∧ VdG vd ∧
 ∀ (v : V) (t : ArgE) (H' : Hp), Td K H' v t.d → ArgW t → BagAt H' b cs → Fr [b] H H' → Q v H'
abbrev s__law_atom : Stmt := topS 37
theorem sc__law_atom : FnScope ["_law_bag_here", "_law_kinds_of", "_law_vars_of", "_law_name"] ["_law_bag_here", "_law_kinds_of", "_law_vars_of"] (defScope s__law_atom) := ⟨rfl, rfl, rfl, by decide +kernel, rfl, by decide +kernel, by decide +kernel⟩
abbrev s__law_test : Stmt := topS 40
theorem sc__law_test : FnScope ["_law_bag_here", "_law_vars_of", "_law_kind", "_law_sign"] ["_law_bag_here", "_law_vars_of"] (defScope s__law_test) := ⟨rfl, rfl, rfl, by decide +kernel, rfl, by decide +kernel, by decide +kernel⟩
abbrev s__law_not : Stmt := topS 41
theorem sc__law_not : FnScope ["_law_bag_here", "_law_kinds_of", "_law_vars_of", "_law_name", "_law_terms_here", "_law_kind", "_law_leaf_here"] ["_law_bag_here", "_law_kinds_of", "_law_vars_of"] (defScope s__law_not) := ⟨rfl, rfl, rfl, by decide +kernel, rfl, by decide +kernel, by decide +kernel⟩
abbrev s__law_fold_arg : Stmt := topS 43
theorem sc__law_fold_arg : FnScope ["_law_bag_here", "_law_vars_of", "_law_numbers", "_law_name"] ["_law_bag_here", "_law_vars_of"] (defScope s__law_fold_arg) := ⟨rfl, rfl, rfl, by decide +kernel, rfl, by decide +kernel, by decide +kernel⟩
section
variable {P : Program} {w : World} {K : PySem.W.Frag} {mg : Str → Option Value} {base : Heap}
theorem ok__law_atom {f : Addr} {fd : FuncData} (F : FnP K "_law_atom" s__law_atom f fd) (B : BiR mg) (C__law_one : CalG P w K mg base 20 "_law_one" (spOne K)) (C__law_terms : CalG P w K mg base 60 "_law_terms" (spTerms K)) :
  FnG P w K mg base CX0 61 f fd ["_law_bag_here", "_law_kinds_of", "_law_vars_of"] (spAtom K) := by
 refine okG F sc__law_atom (fun vs H Q E h => ?_) (fun cdv A outer s H vs Q E hr h => ?_)
 ·obtain ⟨b, cs, a, d, vd, rfl, _⟩ := h
  rfl
 obtain ⟨b, cs, a, d, vd, rfl, hB, hK, had, hV, hG, q⟩ := h
 have hu := hu_of hr.rm
 have hdb := hV.ne hB
 refine ⟨_, PSs.nox (pss_cons (ps_set (i := 3) sc__law_atom.nd rfl (.inl rfl) (pe_calG C__law_one hr rfl (pa_cons (pv 0) (pa_cons (pe_callB (kCall (K := K) (r := rSortedS) rfl cr_sortedS) (by rfl) B.b_sorted (by decide +kernel) (pa_cons (pe_callTy (kCall (K := K) (r := uList) rfl callu_list) (by rfl) B.b_list (by decide +kernel) (pa_cons (pv 1) pa_nil)) pa_nil)) pa_nil))))
 (pss_one (ps_ret (pe_tup (pa_cons pe_str (pa_cons (pv 3) (pa_cons (pe_calG C__law_terms hr rfl (pa_cons (pv 0) (pa_cons (pe_dget hu (pv 1) (pv 3) (fun _ _ => rfl)) (pa_cons (pv 2) pa_nil)))) pa_nil))))))), rd_start (σ0 := [some (.ref b), some (.ref a), some (.ref d), none]) rfl ?_⟩
 obtain ⟨kvs, hk1, hk2, hk3, hk4⟩ := hK.ex
 obtain ⟨xs, hx1, hx2, hx3⟩ := keys_strs fun kv hkv => let ⟨x, _, _, e, _⟩ := hk4 kv hkv; ⟨x, by rw [e]⟩
 have hx0 : 0 < xs.length := by
  rw [hx2]
  cases kvs with
  | nil => exact absurd rfl hk3
  | cons => exact Nat.succ_pos _
 walk_at "q"
 refine g_listD hk1 fun l hl => ?_
 rw [hx1]
 have f1 : Fr [] H (upd H l (.lst (xs.map V.str))) := Fr.new hl
 have hla : (upd H l (.lst (xs.map V.str))) l = some (.lst (xs.map V.str)) := upd_same
 generalize upd H l (.lst (xs.map V.str)) = H1 at *
 walk_at "q"
 refine ⟨l, xs, rfl, SqL.of hla, by omega, fun ys p2 hperm _ hp2 => ?_⟩
 have f2 : Fr [] H (upd H1 p2 (.lst (ys.map V.str))) := f1.trans (Fr.new hp2)
 have hp21 : (upd H1 p2 (.lst (ys.map V.str))) p2 = some (.lst (ys.map V.str)) := upd_same
 have hp2b := (hB.fr0 f1).some hp2
 generalize upd H1 p2 (.lst (ys.map V.str)) = H2 at *
 walk_at "q"
 refine ⟨b, cs, p2, ys.map V.str, rfl, hB.fr0 f2, .inl ⟨SqL.of hp21, hp2b.1⟩, by rw [List.length_map, hperm.length_eq]; exact hx0, by rw [List.length_map, hperm.length_eq]; omega, fun v H3 hv hB3 hF3 => ?_⟩
 obtain ⟨x, hx, rfl⟩ := List.mem_map.mp hv
 obtain ⟨v, hv1, hv2⟩ := valV_in (hx3 x (hperm.mem_iff.mp hx))
 obtain ⟨x', l', ks, ee, hl', hxn, hk5, hk6, hk7⟩ := hk4 _ hv2
 obtain ⟨e1, e2⟩ := Prod.mk.inj ee
 cases Sum.inr.inj e1
 subst e2
 have hdM : d ∉ [b] := fun z => hdb.1 (List.mem_singleton.mp z)
 have hab : a ≠ b := fun e => by
  obtain ⟨cells, i, r, k, h5, _⟩ := hB.ex
  rw [e, h5] at hk1
  cases hk1
 have hlb : l' ≠ b := fun e => hB.nstr ks (e ▸ hl')
 have hk3' := hF3.at (f2.at hk1 (fun z => nomatch z)) (fun z => hab (List.mem_singleton.mp z))
 have hl3 := hF3.at (f2.at hl' (fun z => nomatch z)) (fun z => hlb (List.mem_singleton.mp z))
 have hV3 := (hV.fr f2 (fun z => nomatch z)).fr hF3 hdM
 walk_at "q"
 refine g_dgetS hk3' hv1 ?_
 walk_at "q"
 refine ⟨b, cs, l', d, ks, vd, rfl, hB3, hl3, hlb, hk6, hk7, hV3, hG, fun p us ts vd' H4 hp hts htl htw hV4 hG4 hm4 hB4 hF4 => ?_⟩
 walk_at "q"
 refine ⟨le_of (by simp), fun p6 hp6 => ?_⟩
 have e6 : Fr [] H4 (upd H4 p6 (.tup [.str "atom", .str x, .ref p])) := Fr.new hp6
 have bsub : Fr [b, d] H2 H3 := hF3.mono fun a ha => by rw [List.mem_singleton.mp ha]; exact List.mem_cons_self
 exact q _ (.atom false x ts) vd' _ (.tup (SqT.of upd_same) (.cons (.str _) (.cons (.str _) (.cons (.tup (e6.tup hp) (hts.fr e6)) .nil)))) (.atom (hxn.tx.mono (by decide)) ⟨x, hxn, .inl rfl⟩ (by omega) (by omega) htw) (hV4.fr e6 (fun z => nomatch z)) hG4 hm4 (hB4.fr0 e6) (((f2.nil.trans bsub).trans hF4).trans e6.nil)
theorem ok__law_test {f : Addr} {fd : FuncData} (F : FnP K "_law_test" s__law_test f fd) (C__law_one : CalG P w K mg base 20 "_law_one" (spOne K)) (C__law_sum : CalG P w K mg base 55 "_law_sum" (spSum K 5)) (C__law_leaf : CalG P w K mg base 50 "_law_leaf" (spLeaf K)) :
  FnG P w K mg base CX0 61 f fd ["_law_bag_here", "_law_vars_of"] (spTest K) := by
 refine okG F sc__law_test (fun vs H Q E h => ?_) (fun cdv A outer s H vs Q E hr h => ?_)
 ·obtain ⟨b, cs, d, vd, rfl, _⟩ := h
  rfl
 obtain ⟨b, cs, d, vd, rfl, hB, hV, hG, q⟩ := h
 have hu := hu_of hr.rm
 have hdM : d ∉ [b] := fun z => (hV.ne hB).1 (List.mem_singleton.mp z)
 refine ⟨_, PSs.nox (pss_cons (ps_set (i := 2) sc__law_test.nd rfl (.inl rfl) (pe_calG C__law_one hr rfl (pa_cons (pv 0) (pa_cons (pe_lst (pa_cons pe_str (pa_cons pe_str (pa_cons pe_str (pa_cons pe_str pa_nil))))) pa_nil))))
 (pss_cons (ps_if (pt_cmpR (kOp (K := K) (r := uEq) rfl (opu_eq hr.units)) (pv 2) pe_str (nomark _)) (pss_cons (ps_set (i := 3) sc__law_test.nd rfl (.inl rfl) (pe_calG C__law_one hr rfl (pa_cons (pv 0) (pa_cons (pe_lst (pa_cons pe_str (pa_cons pe_str (pa_cons pe_str (pa_cons pe_str (pa_cons pe_str (pa_cons pe_str pa_nil))))))) pa_nil))))
 (pss_one (ps_ret (pe_tup (pa_cons pe_str (pa_cons (pv 3) (pa_cons (pe_calG C__law_sum hr rfl (pa_cons (pv 0) (pa_cons (pv 1) (pa_cons pe_int pa_nil)))) (pa_cons (pe_calG C__law_sum hr rfl (pa_cons (pv 0) (pa_cons (pv 1) (pa_cons pe_int pa_nil)))) pa_nil)))))))) pss_nil)
 (pss_one (ps_ret (pe_tup (pa_cons pe_str (pa_cons (pe_calG C__law_one hr rfl (pa_cons (pv 0) (pa_cons (pe_lst (pa_cons pe_str (pa_cons pe_str pa_nil))) pa_nil))) (pa_cons (pe_calG C__law_leaf hr rfl (pa_cons (pv 0) (pa_cons (pv 2) (pa_cons (pv 1) pa_nil)))) (pa_cons (pe_calG C__law_leaf hr rfl (pa_cons (pv 0) (pa_cons (pv 2) (pa_cons (pv 1) pa_nil)))) pa_nil))))))))), rd_start (σ0 := [some (.ref b), some (.ref d), none, none]) rfl ?_⟩
 walk_at "q"
 refine ⟨le_of (by simp), fun p1 hp_p1 => ?_⟩
 have e_p1 : Fr [] H (upd H p1 (.lst [V.str "number", .str "number", .str "word", .str "flag"])) := Fr.new hp_p1
 have h_p1 : (upd H p1 (.lst [V.str "number", .str "number", .str "word", .str "flag"])) p1 = some (.lst [V.str "number", .str "number", .str "word", .str "flag"]) := upd_same
 have hb1 := (hB.some hp_p1).1
 have hB1 := hB.fr0 e_p1
 have hV1 := hV.fr e_p1 (fun z => nomatch z)
 generalize upd H p1 (.lst [V.str "number", .str "number", .str "word", .str "flag"]) = H1 at *
 walk_at "q"
 refine ⟨b, cs, p1, _, rfl, hB1, .inl ⟨SqL.of h_p1, hb1⟩, by decide, by decide, fun kv H2 hkv hB2 hF2 => ?_⟩
 obtain ⟨k, rfl, hk⟩ : ∃ k : Str, kv = .str k ∧ KindW k := by
  simp only [List.mem_cons, List.not_mem_nil, or_false] at hkv
  rcases hkv with rfl | rfl | rfl | rfl
  ·exact ⟨_, rfl, .inl rfl⟩
  ·exact ⟨_, rfl, .inl rfl⟩
  ·exact ⟨_, rfl, .inr (.inr rfl)⟩
  ·exact ⟨_, rfl, .inr (.inl rfl)⟩
 have hV2 := hV1.fr hF2 hdM
 walk_at "q"
 refine g_by (fun c => ?_) (fun c => ?_)
 ·walk_at "q"
  refine ⟨le_of (by simp), fun p3 hp_p3 => ?_⟩
  have e_p3 : Fr [] H2 (upd H2 p3 (.lst [V.str "=", .str "!=", .str "<", .str "<=", .str ">", .str ">="])) := Fr.new hp_p3
  have h_p3 : (upd H2 p3 (.lst [V.str "=", .str "!=", .str "<", .str "<=", .str ">", .str ">="])) p3 = some (.lst [V.str "=", .str "!=", .str "<", .str "<=", .str ">", .str ">="]) := upd_same
  have hb3 := (hB2.some hp_p3).1
  have hB3 := hB2.fr0 e_p3
  have hV3 := hV2.fr e_p3 (fun z => nomatch z)
  generalize upd H2 p3 (.lst [V.str "=", .str "!=", .str "<", .str "<=", .str ">", .str ">="]) = H3 at *
  walk_at "q"
  refine ⟨b, cs, p3, testL.map V.str, rfl, hB3, .inl ⟨SqL.of h_p3, hb3⟩, by decide, by decide, fun sv H4 hsv hB4 hF4 => ?_⟩
  obtain ⟨sg, hsg, rfl⟩ := List.mem_map.mp hsv
  have hV4 := hV3.fr hF4 hdM
  walk_at "q"
  refine ⟨b, cs, d, 1, vd, rfl, by decide, hB4, hV4, fun x v H5 hx hxv hB5 hF5 => ?_⟩
  have hV5 := hV4.fr hF5 hdM
  walk_at "q"
  refine ⟨b, cs, d, 1, vd, rfl, by decide, hB5, hV5, fun y u H6 hy hyu hB6 hF6 => ?_⟩
  walk_at "q"
  refine ⟨le_of (by simp), fun p7 hp7 => ?_⟩
  have e7 : Fr [] H6 (upd H6 p7 (.tup [.str "test", .str sg, v, u])) := Fr.new hp7
  exact q _ (.test sg x y) _ (.tup (SqT.of upd_same) (.cons (.str _) (.cons (.str _) (.cons ((((hxv.td (hx.w hG)).fr hF6)).fr e7) (.cons ((hyu.td (hy.w hG)).fr e7) .nil))))) (.test hsg (hx.w hG) (hy.w hG)) (hB6.fr0 e7) (((((e_p1.nil.trans hF2).trans e_p3.nil).trans hF4).trans hF5).trans (hF6.trans e7.nil))
 ·walk_at "q"
  refine ⟨le_of (by simp), fun p3 hp_p3 => ?_⟩
  have e_p3 : Fr [] H2 (upd H2 p3 (.lst [V.str "=", .str "!="])) := Fr.new hp_p3
  have h_p3 : (upd H2 p3 (.lst [V.str "=", .str "!="])) p3 = some (.lst [V.str "=", .str "!="]) := upd_same
  have hb3 := (hB2.some hp_p3).1
  have hB3 := hB2.fr0 e_p3
  have hV3 := hV2.fr e_p3 (fun z => nomatch z)
  generalize upd H2 p3 (.lst [V.str "=", .str "!="]) = H3 at *
  walk_at "q"
  refine ⟨b, cs, p3, (["=", "!="] : List Str).map V.str, rfl, hB3, .inl ⟨SqL.of h_p3, hb3⟩, by decide, by decide, fun sv H4 hsv hB4 hF4 => ?_⟩
  obtain ⟨sg, hsg, rfl⟩ := List.mem_map.mp hsv
  have hsg2 : sg ∈ testL := by
   simp only [List.mem_cons, List.not_mem_nil, or_false] at hsg
   unfold testL
   rcases hsg with rfl | rfl
   ·exact List.mem_cons_self
   ·exact List.mem_cons_of_mem _ List.mem_cons_self
  have hV4 := hV3.fr hF4 hdM
  walk_at "q"
  refine ⟨b, cs, d, k, vd, rfl, hk, hB4, hV4, fun x H5 hx hB5 hF5 => ?_⟩
  have hV5 := hV4.fr hF5 hdM
  walk_at "q"
  refine ⟨b, cs, d, k, vd, rfl, hk, hB5, hV5, fun y H6 hy hB6 hF6 => ?_⟩
  obtain ⟨ex, hex, htx⟩ := hx.w hG
  obtain ⟨ey, hey, hty⟩ := hy.w hG
  walk_at "q"
  refine ⟨le_of (by simp), fun p7 hp7 => ?_⟩
  have e7 : Fr [] H6 (upd H6 p7 (.tup [.str "test", .str sg, .ref x, .ref y])) := Fr.new hp7
  exact q _ (.test sg ex ey) _ (.tup (SqT.of upd_same) (.cons (.str _) (.cons (.str _) (.cons ((htx.fr hF6).fr e7) (.cons (hty.fr e7) .nil))))) (.test hsg2 (hex.up (by decide)) (hey.up (by decide))) (hB6.fr0 e7) (((((e_p1.nil.trans hF2).trans e_p3.nil).trans hF4).trans hF5).trans (hF6.trans e7.nil))
theorem ok__law_fold_arg {f : Addr} {fd : FuncData} (F : FnP K "_law_fold_arg" s__law_fold_arg f fd) (B : BiR mg) (C__law_one : CalG P w K mg base 20 "_law_one" (spOne K)) (C__law_pull : CalG P w K mg base 10 "_law_pull" spPull) :
  FnG P w K mg base CX0 61 f fd ["_law_bag_here", "_law_vars_of"] (spFoldA K) := by
 refine okG F sc__law_fold_arg (fun vs H Q E h => ?_) (fun cdv A outer s H vs Q E hr h => ?_)
 ·obtain ⟨b, cs, d, vd, rfl, _⟩ := h
  rfl
 obtain ⟨b, cs, d, vd, rfl, hB, hV, hG, q⟩ := h
 have hu := hu_of hr.rm
 refine ⟨_, PSs.nox (pss_cons (ps_setLc (i := 2) (own := [("_law_name", 3)]) (g := gName 3) rfl sc__law_fold_arg.nd rfl rfl (sw_true rfl rfl rfl (by decide +kernel)) (pi_listK (K := K) rfl (pe_callB (kCall (K := K) (r := rSortedS) rfl cr_sortedS) (by rfl) B.b_sorted (by decide +kernel) (pa_cons (pe_callTy (kCall (K := K) (r := uList) rfl callu_list) (by rfl) B.b_list (by decide +kernel) (pa_cons (pv 1) pa_nil)) pa_nil))) (blkOk_by (own := [("_law_name", 3)]) (N := ["_law_bag_here", "_law_vars_of", "_law_numbers", "_law_name"]) (sc := defScope s__law_fold_arg) (by decide +kernel)) (fun _ _ _ _ _ => (by exact (pg_name (i := 3) sc__law_fold_arg.nd rfl (by first | exact Or.inl rfl | exact Or.inr rfl)))) (fun _ _ _ _ _ => (by exact pts_one (pt_cmpR (kOp (K := K) (r := uEq) rfl (opu_eq hr.units)) (pe_dget hu (pv 1) (pv 3) (fun _ _ => rfl)) pe_str (nomark _)))) (fun _ _ _ _ _ => (by exact (pv 3))))
 (pss_cons (ps_if (PW.pt (pw_or (pt_cmpR (kOp (K := K) (r := uEq) rfl (opu_eq hr.units)) (pv 2) (pe_lst pa_nil) (nomark _)) (pw_or1 (pt_cmpR (kOp (K := K) (r := uEq) rfl (opu_eq hr.units)) (pe_calG C__law_pull hr rfl (pa_cons (pv 0) (pa_cons pe_int pa_nil))) pe_int (nomark _))))) (pss_one (ps_ret (pe_tup (pa_cons pe_str (pa_cons pe_str (pa_cons pe_non pa_nil)))))) pss_nil)
 (pss_one (ps_ret (pe_tup (pa_cons pe_str (pa_cons (pe_calG C__law_one hr rfl (pa_cons (pv 0) (pa_cons (pe_lst (pa_cons pe_str (pa_cons pe_str (pa_cons pe_str pa_nil)))) pa_nil))) (pa_cons (pe_calG C__law_one hr rfl (pa_cons (pv 0) (pa_cons (pv 2) pa_nil))) pa_nil)))))))), rd_start (σ0 := [some (.ref b), some (.ref d), none, none]) rfl ?_⟩
 walk_at "q"
 refine g_listD hV.at_ fun l hl => ?_
 rw [kvOf_keys]
 have f1 : Fr [] H (upd H l (.lst ((vd.map (·.1)).map V.str))) := Fr.new hl
 have hla : (upd H l (.lst ((vd.map (·.1)).map V.str))) l = some (.lst ((vd.map (·.1)).map V.str)) := upd_same
 generalize upd H l (.lst ((vd.map (·.1)).map V.str)) = Ha at *
 walk_at "q"
 refine ⟨l, vd.map (·.1), rfl, SqL.of hla, by rw [List.length_map]; have := hV.len; omega, fun ys p2 hperm _ hp2 => ?_⟩
 have f2 : Fr [] H (upd Ha p2 (.lst (ys.map V.str))) := f1.trans (Fr.new hp2)
 have hp21 : (upd Ha p2 (.lst (ys.map V.str))) p2 = some (.lst (ys.map V.str)) := upd_same
 generalize upd Ha p2 (.lst (ys.map V.str)) = Hb at *
 have hyl : ys.length < 60 := by rw [hperm.length_eq, List.length_map]; exact hV.len
 refine ⟨p2, rfl, ⟨_, SqL.of hp21⟩, fun D hD => lc_it (walk_list (xs := ys.map V.str)) (fun i H' => Fr [] Hb H' ∧ ∃ ws : List Str, H' D = some (.lst (ws.map V.str)) ∧ ws.length ≤ i ∧ ∀ x ∈ ws, vd.lookup x = some ("number" : Str))
  ⟨Fr.new hD, [], upd_same, Nat.le_refl _, (fun _ z => nomatch z)⟩ (fun i H' _ h => h.1.seq (fun z => nomatch z) (SqL.of hp21)) (fun i x H' H'' hi h y => ?_) (fun Hc h => ?_)⟩
 ·obtain ⟨rfl, hx⟩ := y
  obtain ⟨h1, ws, h2, h3, h4⟩ := h
  obtain ⟨z, hz, rfl⟩ := List.mem_map.mp (List.mem_of_getElem? hx)
  obtain ⟨k2, hk2⟩ := lookup_mem (hperm.mem_iff.mp hz)
  walk_at "q"
  refine ⟨rfl, ?_⟩
  walk_at "q"
  have hV' := (hV.fr f2 (fun z => nomatch z)).fr h1 (fun z => nomatch z)
  refine g_dgetS hV'.at_ (v := V.str k2) (by rw [kvOf_val, hk2]; rfl) ?_
  walk_at "q"
  refine g_by (fun c => ?_) (fun c => ?_)
  ·walk_at "q"
   refine ⟨_, h2, lt_of (by rw [List.length_map]; rw [List.length_map] at hi; omega), h1.over hD, ws ++ [z], ?_, ?_, ?_⟩
   ·rw [upd_same, List.map_append]; rfl
   ·rw [List.length_append]; exact Nat.succ_le_succ h3
   ·intro x hx
    rcases List.mem_append.mp hx with hx | hx
    ·exact h4 x hx
    ·rw [List.mem_singleton.mp hx, hk2, c]
  ·exact ⟨h1, ws, h2, Nat.le_succ_of_le h3, h4⟩
 ·obtain ⟨h1, ws, hws, h3, hwk⟩ := h
  have fc : Fr [] H Hc := f2.trans h1
  rw [List.length_map] at h3
  have hwl : ws.length < 60 := by omega
  have hDn : H D = none := f2.back (fun z => nomatch z) hD
  walk_at "q"
  have hBc := hB.fr0 fc
  have hDb := hB.some hDn
  refine ⟨le_of (by decide), fun p4 hp4 => ?_⟩
  have e4 : Fr [] Hc (upd Hc p4 (.lst [])) := Fr.new hp4
  have hn4 : (upd Hc p4 (.lst [])) p4 = some (.lst []) := upd_same
  have hw4 := e4.at hws (fun z => nomatch z)
  have hB4 := hBc.fr0 e4
  generalize upd Hc p4 (.lst []) = H4 at *
  refine g_eqEL (SqL.of hw4) (SqL.of hn4) ?_
  walk_at "q"
  have cnt : ∀ (H5 : Hp), BagAt H5 b cs → Fr [b] H H5 → ∀ p, H5 p = none → Q (.ref p) (upd H5 p (.tup [.str "fold", .str "count", .non])) := fun H5 hB5 hF5 p hp => by
   have e5 : Fr [] H5 (upd H5 p (.tup [.str "fold", .str "count", .non])) := Fr.new hp
   exact q _ (.fold "count" none) _ (.tup (SqT.of upd_same) (.cons (.str _) (.cons (.str _) (.cons .non .nil)))) .fold0 (hB5.fr0 e5) (hF5.trans e5.nil)
  refine g_by (fun cw => ?_) (fun cw => ?_)
  ·walk_at "q"
   refine ⟨le_of (by simp), cnt _ hB4 (fc.trans e4).nil⟩
  ·have hw0 : 0 < ws.length := by
    cases ws with
    | nil => exact absurd rfl cw
    | cons x r => exact Nat.succ_pos _
   walk_at "q"
   refine ⟨b, cs, _, rfl, hB4, by decide, by decide, fun dd H5 d0 d1 hB5 hF5 => ?_⟩
   have F5 : Fr [b] H H5 := (fc.trans e4).nil.trans hF5
   walk_at "q"
   refine g_by (fun c2 => ?_) (fun c2 => ?_)
   ·walk_at "q"
    refine ⟨le_of (by simp), cnt _ hB5 F5⟩
   ·walk_at "q"
    refine ⟨le_of (by simp), fun p6 hp_p6 => ?_⟩
    have e_p6 : Fr [] H5 (upd H5 p6 (.lst [V.str "sum", .str "least", .str "most"])) := Fr.new hp_p6
    have h_p6 : (upd H5 p6 (.lst [V.str "sum", .str "least", .str "most"])) p6 = some (.lst [V.str "sum", .str "least", .str "most"]) := upd_same
    have hb6 := (hB5.some hp_p6).1
    have hB6 := hB5.fr0 e_p6
    have hw6 := e_p6.at (hF5.at hw4 (fun z => hDb.1 (List.mem_singleton.mp z))) (fun z => nomatch z)
    generalize upd H5 p6 (.lst [V.str "sum", .str "least", .str "most"]) = H6 at *
    walk_at "q"
    refine ⟨b, cs, p6, (["sum", "least", "most"] : List Str).map V.str, rfl, hB6, .inl ⟨SqL.of h_p6, hb6⟩, by decide, by decide, fun sv H7 hsv hB7 hF7 => ?_⟩
    obtain ⟨sg, hsg, rfl⟩ := List.mem_map.mp hsv
    have hw7 := hF7.at hw6 (fun z => hDb.1 (List.mem_singleton.mp z))
    walk_at "q"
    refine ⟨b, cs, D, ws.map V.str, rfl, hB7, .inl ⟨SqL.of hw7, hDb.1⟩, by rw [List.length_map]; exact hw0, by rw [List.length_map]; omega, fun v H8 hv hB8 hF8 => ?_⟩
    obtain ⟨x, hx, rfl⟩ := List.mem_map.mp hv
    have hxv := (hG.lk (hwk x hx)).1
    walk_at "q"
    refine ⟨le_of (by simp), fun p9 hp9 => ?_⟩
    have e9 : Fr [] H8 (upd H8 p9 (.tup [.str "fold", .str sg, .str x])) := Fr.new hp9
    exact q _ (.fold sg (some x)) _ (.tup (SqT.of upd_same) (.cons (.str _) (.cons (.str _) (.cons (.str _) .nil)))) (.fold hsg hxv) (hB8.fr0 e9) ((((F5.trans e_p6.nil).trans hF7).trans hF8).trans e9.nil)
theorem ok__law_not {f : Addr} {fd : FuncData} (F : FnP K "_law_not" s__law_not f fd) (B : BiR mg) (C__law_one : CalG P w K mg base 20 "_law_one" (spOne K)) (C__law_leaf : CalG P w K mg base 50 "_law_leaf" (spLeaf K)) (C__law_pull : CalG P w K mg base 10 "_law_pull" spPull) :
  FnG P w K mg base CX0 61 f fd ["_law_bag_here", "_law_kinds_of", "_law_vars_of"] (spNot K) := by
 refine okG F sc__law_not (fun vs H Q E h => ?_) (fun cdv A outer s H vs Q E hr h => ?_)
 ·obtain ⟨b, cs, a, d, vd, rfl, _⟩ := h
  rfl
 obtain ⟨b, cs, a, d, vd, rfl, hB, hK, hV, hG, q⟩ := h
 have hu := hu_of hr.rm
 have hdb := hV.ne hB
 refine ⟨_, PSs.nox (pss_cons (ps_set (i := 3) sc__law_not.nd rfl (.inl rfl) (pe_calG C__law_one hr rfl (pa_cons (pv 0) (pa_cons (pe_callB (kCall (K := K) (r := rSortedS) rfl cr_sortedS) (by rfl) B.b_sorted (by decide +kernel) (pa_cons (pe_callTy (kCall (K := K) (r := uList) rfl callu_list) (by rfl) B.b_list (by decide +kernel) (pa_cons (pv 1) pa_nil)) pa_nil)) pa_nil))))
 (pss_cons (ps_set (i := 4) sc__law_not.nd rfl (.inl rfl) (pe_lst pa_nil))
 (pss_cons (ps_for PassesOwn.never rfl (pi_listK (K := K) rfl (pe_dget hu (pv 1) (pv 3) (fun _ _ => rfl))) (pg_name (i := 5) sc__law_not.nd rfl (by first | exact Or.inl rfl | exact Or.inr rfl)) (pss_cons (ps_set (i := 6) sc__law_not.nd rfl (.inl rfl) (pe_calG C__law_leaf hr rfl (pa_cons (pv 0) (pa_cons (pv 5) (pa_cons (pv 2) pa_nil)))))
 (pss_one (ps_expr (kBM (K := K) rfl (pe_bm PySem.F.plainAttrs_list PySem.F.slot_list_append PySem.F.type_list_append mt_append (pv 4) (pa_cons (pe_ifExp (pt_cmpR (kOp (K := K) (r := uEq) rfl (opu_eq hr.units)) (pe_calG C__law_pull hr rfl (pa_cons (pv 0) (pa_cons pe_int pa_nil))) pe_int (nomark _)) (pe_tup (pa_cons pe_str pa_nil)) (pv 6)) pa_nil)))))))
 (pss_one (ps_ret (pe_tup (pa_cons pe_str (pa_cons (pv 3) (pa_cons (pe_callTy (kCall (K := K) (r := uTuple) rfl callu_tuple) (by rfl) B.b_tuple (by decide +kernel) (pa_cons (pv 4) pa_nil)) pa_nil))))))))), rd_start (σ0 := [some (.ref b), some (.ref a), some (.ref d), none, none, none, none]) rfl ?_⟩
 obtain ⟨kvs, hk1, hk2, hk3, hk4⟩ := hK.ex
 obtain ⟨xs, hx1, hx2, hx3⟩ := keys_strs fun kv hkv => let ⟨x, _, _, e, _⟩ := hk4 kv hkv; ⟨x, by rw [e]⟩
 have hx0 : 0 < xs.length := by
  rw [hx2]
  cases kvs with
  | nil => exact absurd rfl hk3
  | cons => exact Nat.succ_pos _
 walk_at "q"
 refine g_listD hk1 fun l hl => ?_
 rw [hx1]
 have f1 : Fr [] H (upd H l (.lst (xs.map V.str))) := Fr.new hl
 have hla : (upd H l (.lst (xs.map V.str))) l = some (.lst (xs.map V.str)) := upd_same
 generalize upd H l (.lst (xs.map V.str)) = H1 at *
 walk_at "q"
 refine ⟨l, xs, rfl, SqL.of hla, by omega, fun ys p2 hperm _ hp2 => ?_⟩
 have f2 : Fr [] H (upd H1 p2 (.lst (ys.map V.str))) := f1.trans (Fr.new hp2)
 have hp21 : (upd H1 p2 (.lst (ys.map V.str))) p2 = some (.lst (ys.map V.str)) := upd_same
 have hp2b := (hB.fr0 f1).some hp2
 generalize upd H1 p2 (.lst (ys.map V.str)) = H2 at *
 walk_at "q"
 refine ⟨b, cs, p2, ys.map V.str, rfl, hB.fr0 f2, .inl ⟨SqL.of hp21, hp2b.1⟩, by rw [List.length_map, hperm.length_eq]; exact hx0, by rw [List.length_map, hperm.length_eq]; omega, fun v H3 hv hB3 hF3 => ?_⟩
 obtain ⟨x, hx, rfl⟩ := List.mem_map.mp hv
 obtain ⟨v, hv1, hv2⟩ := valV_in (hx3 x (hperm.mem_iff.mp hx))
 obtain ⟨x', l', ks, ee, hl', hxn, hk5, hk6, hk7⟩ := hk4 _ hv2
 obtain ⟨e1, e2⟩ := Prod.mk.inj ee
 cases Sum.inr.inj e1
 subst e2
 have hdM : d ∉ [b] := fun z => hdb.1 (List.mem_singleton.mp z)
 have hab : a ≠ b := fun e => by
  obtain ⟨cells, i, r, k, h5, _⟩ := hB.ex
  rw [e, h5] at hk1
  cases hk1
 have hlb : l' ≠ b := fun e => hB.nstr ks (e ▸ hl')
 have hlM : l' ∉ [b] := fun z => hlb (List.mem_singleton.mp z)
 have hk3' := hF3.at (f2.at hk1 (fun z => nomatch z)) (fun z => hab (List.mem_singleton.mp z))
 have hl3 := hF3.at (f2.at hl' (fun z => nomatch z)) hlM
 have hV3 := (hV.fr f2 (fun z => nomatch z)).fr hF3 hdM
 have F3 : Fr [b] H H3 := f2.nil.trans hF3
 walk_at "q"
 refine ⟨le_of (by simp), fun T hT => ?_⟩
 have e0 : Fr [] H3 (upd H3 T (.lst [])) := Fr.new hT
 have hT0 : (upd H3 T (.lst [])) T = some (.lst []) := upd_same
 have hTb := hB3.some hT
 have hTM : T ∉ [b] := fun z => hTb.1 (List.mem_singleton.mp z)
 have hTH : H T = none := F3.back (M := [b]) hTM hT
 have hB4 := hB3.fr0 e0
 have hV4 := hV3.fr e0 (fun z => nomatch z)
 have hl4 := e0.at hl3 (fun z => nomatch z)
 have hk4' := e0.at hk3' (fun z => nomatch z)
 have F4 := F3.trans e0.nil
 generalize upd H3 T (.lst []) = H4 at *
 walk_at "q"
 refine g_dgetS hk4' hv1 ?_
 refine ⟨l', rfl, ⟨_, SqL.of hl4⟩, for_list (xs := ks.map V.str) (fun i σ H' => (∃ z1 z2, σ = [some (.ref b), some (.ref a), some (.ref d), some (.str x), some (.ref T), z1, z2]) ∧ BagAt H' b cs ∧ Fr [b] H3 H' ∧ ∃ (us : List V) (ts : List TermE), H' T = some (.lst us) ∧ TdAll K H' us (ts.map TermE.d) ∧ us.length = i ∧ ts.length = i ∧ (∀ t ∈ ts, TermW t))
  ⟨⟨_, _, rfl⟩, hB4, e0.nil, [], [], hT0, .nil, rfl, rfl, (fun _ z => nomatch z)⟩ (fun i σ H' _ h => SqL.of (h.2.2.1.at hl3 hlM)) (fun i x σ H5 hx h => ?_) (fun σ H5 h => ?_)⟩
 ·obtain ⟨⟨z1, z2, rfl⟩, hB5, hF5, us, ts, hT5, ht5, hu5, hl5, htw⟩ := h
  obtain ⟨k, hk, rfl⟩ := List.mem_map.mp (List.mem_of_getElem? hx)
  have hkw := hk7 k hk
  have hik : i < ks.length := by
   have := (List.getElem?_eq_some_iff.mp hx).1
   rw [List.length_map] at this
   exact this
  have hV5 := hV3.fr hF5 hdM
  walk_at "q"
  refine ⟨b, cs, d, k, vd, rfl, hkw, hB5, hV5, fun p H6 hp hB6 hF6 => ?_⟩
  obtain ⟨ex, hex, htx⟩ := hp.w hG
  have hT6 := hF6.at hT5 hTM
  walk_at "q"
  have hT6 := hF6.at hT5 hTM
  refine ⟨b, cs, _, rfl, hB6, by decide, by decide, fun dd H7 d0 d1 hB7 hF7 => ?_⟩
  have hT7 := hF7.at hT6 hTM
  have ht7 := (ht5.fr hF6).fr hF7
  have F7 := (hF5.trans hF6).trans hF7
  have fin : ∀ (H8 : Hp) (p : Addr) (t : TermE), TermW t → Td K H8 (.ref p) t.d → BagAt H8 b cs → Fr [b] H3 H8 → H8 T = some (.lst us) → TdAll K H8 us (ts.map TermE.d) →
    BagAt (upd H8 T (.lst (us ++ [.ref p]))) b cs ∧ Fr [b] H3 (upd H8 T (.lst (us ++ [.ref p]))) ∧ ∃ (us' : List V) (ts' : List TermE), (upd H8 T (.lst (us ++ [.ref p]))) T = some (.lst us') ∧ TdAll K (upd H8 T (.lst (us ++ [.ref p]))) us' (ts'.map TermE.d) ∧ us'.length = i + 1 ∧ ts'.length = i + 1 ∧ (∀ t ∈ ts', TermW t) := by
   intro H8 p t hw htd hB8 hF8 hT8 ht8
   have e : Fr [T] H8 (upd H8 T (.lst (us ++ [.ref p]))) := Fr.mut (List.mem_singleton.mpr rfl) hT8 nofix_lst
   refine ⟨hB8.fr e (fun z => hTb.1 (List.mem_singleton.mp z).symm) (fun z => hTb.2 (List.mem_singleton.mp z).symm), ?_, us ++ [.ref p], ts ++ [t], upd_same, ?_, ?_, ?_, ?_⟩
   ·exact hF8.over hT
   ·rw [List.map_append]
    exact (tda_snoc ht8 htd).fr e
   ·rw [List.length_append, hu5]; rfl
   ·rw [List.length_append, hl5]; rfl
   ·intro x hx
    rcases List.mem_append.mp hx with hx | hx
    ·exact htw x hx
    ·rw [List.mem_singleton.mp hx]; exact hw
  walk_at "q"
  refine g_by (fun c => ?_) (fun c => ?_)
  ·walk_at "q"
   refine ⟨le_of (by simp), fun p8 hp8 => ?_⟩
   have e8 : Fr [] H7 (upd H7 p8 (.tup [.str "any"])) := Fr.new hp8
   have hT8 := e8.at hT7 (fun z => nomatch z)
   walk_at "q"
   refine ⟨T, us, .ref p8, rfl, rfl, hT8, lt_of (by omega), ?_⟩
   obtain ⟨a1, a2, a3⟩ := fin _ p8 .any .any (.tup (SqT.of upd_same) (.cons (.str _) .nil)) (hB7.fr0 e8) (F7.trans e8.nil) hT8 (ht7.fr e8)
   exact ⟨⟨_, _, rfl⟩, a1, a2, a3⟩
  ·walk_at "q"
   refine ⟨T, us, .ref p, rfl, rfl, hT7, lt_of (by omega), ?_⟩
   obtain ⟨a1, a2, a3⟩ := fin _ p (.s ex) (.s hex) (htx.fr hF7) hB7 F7 hT7 ht7
   exact ⟨⟨_, _, rfl⟩, a1, a2, a3⟩
 ·obtain ⟨⟨z1, z2, rfl⟩, hB5, hF5, us, ts, hT5, ht5, hu5, hl5, htw⟩ := h
  walk_at "q"
  refine g_tupleL (SqL.of hT5) fun p hp => ?_
  have e6 : Fr [] H5 (upd H5 p (.tup us)) := Fr.new hp
  have hp6 : (upd H5 p (.tup us)) p = some (.tup us) := upd_same
  have ht6 := ht5.fr e6
  have hB6 := hB5.fr0 e6
  generalize upd H5 p (.tup us) = H6 at *
  walk_at "q"
  refine ⟨le_of (by simp), fun p7 hp7 => ?_⟩
  have e7 : Fr [] H6 (upd H6 p7 (.tup [.str "not", .str x, .ref p])) := Fr.new hp7
  rw [List.length_map] at hl5
  exact q _ (.atom true x ts) _ (.tup (SqT.of upd_same) (.cons (.str _) (.cons (.str _) (.cons (.tup (e7.tup (SqT.of hp6)) (ht6.fr e7)) .nil)))) (.atom (hxn.tx.mono (by decide)) ⟨x, hxn, .inl rfl⟩ (by omega) (by omega) htw) (hB6.fr0 e7) (((F3.trans hF5).trans e6.nil).trans e7.nil)
end
def spBody (K : PySem.W.Frag) : Sp := fun vs H Q _ => ∃ (b cs a lo : Addr) (m : Nat) (made : Bool), vs = [.ref b, .ref a, .ref lo, .int m, .bl made] ∧ m ≤ 3 ∧ BagAt H b cs ∧ KindsAt H a ∧ KindsAt H lo ∧
 ∀ (p pt d : Addr) (us : List V) (ps : List PartE) (vd : List (Str × Str)) (H' : Hp), SqT K H' p [.ref pt, .ref d] → SqT K H' pt us → TdAll K H' us (ps.map PartE.d) → ps.length ≤ 7 → (∀ p ∈ ps, PartW p) → VarsAt H' d vd → VdG vd → H d = none → BagAt H' b cs → Fr [b] H H' → Q (.ref p) H'
abbrev s__law_body : Stmt := topS 42
theorem sc__law_body : FnScope ["_law_bag_here", "_law_kinds_of", "_law_lower", "_law_atoms", "_law_made", "_law_vars_of", "_law_parts", "_law_sign", "_law_spot", "_law_k"] ["_law_bag_here", "_law_kinds_of", "_law_lower", "_law_atoms", "_law_made"] (defScope s__law_body) := ⟨rfl, rfl, rfl, by decide +kernel, rfl, by decide +kernel, by decide +kernel⟩
section
variable {P : Program} {w : World} {K : PySem.W.Frag} {mg : Str → Option Value} {base : Heap}
theorem sum1_ok : VarN "sum1" := varB_ok (by decide +kernel)
theorem sum2_ok : VarN "sum2" := varB_ok (by decide +kernel)
structure Gath (K : PySem.W.Frag) (H0 H : Hp) (T : Addr) (us : List V) (ps : List PartE) : Prop where
 at_ : H T = some (.lst us)
 td : TdAll K H us (ps.map PartE.d)
 len : us.length = ps.length
 ok : ∀ p ∈ ps, PartW p
 new : H0 T = none
theorem Gath.fr {K : PySem.W.Frag} {H0 H H' : Hp} {T : Addr} {us : List V} {ps : List PartE} {M : List Addr} (g : Gath K H0 H T us ps) (e : Fr M H H') (n : T ∉ M) : Gath K H0 H' T us ps := ⟨e.at g.at_ n, g.td.fr e, g.len, g.ok, g.new⟩
theorem Gath.put {K : PySem.W.Frag} {H0 H : Hp} {T : Addr} {us : List V} {ps : List PartE} (g : Gath K H0 H T us ps) {v : V} {p : PartE} (hv : Td K H v p.d) (hp : PartW p) : Gath K H0 (upd H T (.lst (us ++ [v]))) T (us ++ [v]) (ps ++ [p]) := by
 have e : Fr [T] H (upd H T (.lst (us ++ [v]))) := Fr.mut (List.mem_singleton.mpr rfl) g.at_ nofix_lst
 refine ⟨upd_same, ?_, by rw [List.length_append, List.length_append, g.len]; rfl, fun x hx => ?_, g.new⟩
 ·rw [List.map_append]
  exact (tda_snoc g.td hv).fr e
 ·rcases List.mem_append.mp hx with hx | hx
  ·exact g.ok x hx
  ·rw [List.mem_singleton.mp hx]; exact hp
theorem Gath.frT {K : PySem.W.Frag} {H0 H : Hp} {T : Addr} {us : List V} {ps : List PartE} (g : Gath K H0 H T us ps) {o : HO} : Fr [T] H (upd H T o) := Fr.mut (List.mem_singleton.mpr rfl) g.at_ nofix_lst
theorem ok__law_body {f : Addr} {fd : FuncData} (F : FnP K "_law_body" s__law_body f fd) (B : BiR mg) (C__law_atom : CalG P w K mg base 61 "_law_atom" (spAtom K)) (C__law_one : CalG P w K mg base 20 "_law_one" (spOne K)) (C__law_pull : CalG P w K mg base 10 "_law_pull" spPull)
  (C__law_sum : CalG P w K mg base 55 "_law_sum" (spSum K 5)) (C__law_leaf : CalG P w K mg base 50 "_law_leaf" (spLeaf K)) (C__law_test : CalG P w K mg base 61 "_law_test" (spTest K)) (C__law_not : CalG P w K mg base 61 "_law_not" (spNot K)) :
  FnG P w K mg base CX0 62 f fd ["_law_bag_here", "_law_kinds_of", "_law_lower", "_law_atoms", "_law_made"] (spBody K) := by
 refine okG F sc__law_body (fun vs H Q E h => ?_) (fun cdv A outer s H vs Q E hr h => ?_)
 ·obtain ⟨b, cs, a, lo, m, made, rfl, _⟩ := h
  rfl
 obtain ⟨b, cs, a, lo, m, made, rfl, hm, hB, hK, hL, q⟩ := h
 have hu := hu_of hr.rm
 refine ⟨_, PSs.nox (pss_cons (ps_set (i := 5) sc__law_body.nd rfl (.inr rfl) pe_dnewK)
 (pss_cons (ps_setLc (i := 6) (own := [("_law_k", 9)]) (g := gName 9) (tt := tYes) rfl sc__law_body.nd rfl rfl (sw_true rfl rfl rfl (by decide +kernel)) (pi_range1 rfl B.b_range (pa_cons (pv 3) pa_nil)) (blkOk_by (own := [("_law_k", 9)]) (N := ["_law_bag_here", "_law_kinds_of", "_law_lower", "_law_atoms", "_law_made", "_law_vars_of", "_law_parts", "_law_sign", "_law_spot", "_law_k"]) (sc := defScope s__law_body) (by decide +kernel)) (fun _ _ _ _ _ => (by exact (pg_name (i := 9) sc__law_body.nd rfl (by first | exact Or.inl rfl | exact Or.inr rfl)))) (fun _ _ _ _ _ => pts_nil) (fun _ _ _ _ _ => (by exact (pe_calG C__law_atom hr rfl (pa_cons (pv 0) (pa_cons (pv 1) (pa_cons (pv 5) pa_nil)))))))
 (pss_cons (ps_if (PW.pt (pw_and (pt_val (pv 4)) (pw_and1 (pt_cmpR (kOp (K := K) (r := uEq) rfl (opu_eq hr.units)) (pe_calG C__law_pull hr rfl (pa_cons (pv 0) (pa_cons pe_int pa_nil))) pe_int (nomark _))))) (pss_cons (ps_expr (kBM (K := K) rfl (pe_bm PySem.F.plainAttrs_list PySem.F.slot_list_append PySem.F.type_list_append mt_append (pv 6) (pa_cons (pe_tup (pa_cons pe_str (pa_cons pe_str (pa_cons (pe_calG C__law_sum hr rfl (pa_cons (pv 0) (pa_cons (pv 5) (pa_cons pe_int pa_nil)))) pa_nil)))) pa_nil))))
 (pss_cons (ps_dput hu (pv 5) pe_str pe_str rfl)
 (pss_one (ps_if (pt_cmpR (kOp (K := K) (r := uEq) rfl (opu_eq hr.units)) (pe_calG C__law_pull hr rfl (pa_cons (pv 0) (pa_cons pe_int pa_nil))) pe_int (nomark _)) (pss_cons (ps_set (i := 7) sc__law_body.nd rfl (.inl rfl) (pe_calG C__law_one hr rfl (pa_cons (pv 0) (pa_cons (pe_lst (pa_cons pe_str (pa_cons pe_str (pa_cons pe_str pa_nil)))) pa_nil))))
 (pss_cons (ps_expr (kBM (K := K) rfl (pe_bm PySem.F.plainAttrs_list PySem.F.slot_list_append PySem.F.type_list_append mt_append (pv 6) (pa_cons (pe_tup (pa_cons pe_str (pa_cons pe_str (pa_cons (pe_tup (pa_cons (pv 7) (pa_cons (pe_tup (pa_cons pe_str (pa_cons pe_str pa_nil))) (pa_cons (pe_calG C__law_leaf hr rfl (pa_cons (pv 0) (pa_cons pe_str (pa_cons (pv 5) pa_nil)))) pa_nil)))) pa_nil)))) pa_nil))))
 (pss_one (ps_dput hu (pv 5) pe_str pe_str rfl)))) pss_nil)))) pss_nil)
 (pss_cons (ps_if (pt_cmpR (kOp (K := K) (r := uEq) rfl (opu_eq hr.units)) (pe_calG C__law_pull hr rfl (pa_cons (pv 0) (pa_cons pe_int pa_nil))) pe_int (nomark _)) (pss_one (ps_expr (kBM (K := K) rfl (pe_bm PySem.F.plainAttrs_list PySem.F.slot_list_append PySem.F.type_list_append mt_append (pv 6) (pa_cons (pe_calG C__law_test hr rfl (pa_cons (pv 0) (pa_cons (pv 5) pa_nil))) pa_nil))))) pss_nil)
 (pss_cons (ps_if (PW.pt (pw_and (pt_cmpR (kOp (K := K) (r := uNe) rfl (opu_ne hr.units)) (pv 2) pe_dnewK (nomark _)) (pw_and1 (pt_cmpR (kOp (K := K) (r := uEq) rfl (opu_eq hr.units)) (pe_calG C__law_pull hr rfl (pa_cons (pv 0) (pa_cons pe_int pa_nil))) pe_int (nomark _))))) (pss_one (ps_expr (kBM (K := K) rfl (pe_bm PySem.F.plainAttrs_list PySem.F.slot_list_append PySem.F.type_list_append mt_append (pv 6) (pa_cons (pe_calG C__law_not hr rfl (pa_cons (pv 0) (pa_cons (pv 2) (pa_cons (pv 5) pa_nil)))) pa_nil))))) pss_nil)
 (pss_cons (ps_set (i := 8) sc__law_body.nd rfl (.inl rfl) (pe_calG C__law_pull hr rfl (pa_cons (pv 0) (pa_cons (pe_op (kOp (K := K) (r := uAdd) rfl opu_add) (pe_callB (kCall (K := K) (r := uLen) rfl callu_len) (by rfl) B.b_len (by decide +kernel) (pa_cons (pv 6) pa_nil)) pe_int) pa_nil))))
 (pss_one (ps_ret (pe_tup (pa_cons (pe_callTy (kCall (K := K) (r := uTuple) rfl callu_tuple) (by rfl) B.b_tuple (by decide +kernel) (pa_cons (pe_op (kOp (K := K) (r := uAdd) rfl opu_add) (pe_slice (kSl (K := K) (r := rSlL) rfl sl_list) (pv 6) (po_some (pv 8)) po_none) (pe_slice (kSl (K := K) (r := rSlL) rfl sl_list) (pv 6) po_none (po_some (pv 8)))) pa_nil)) (pa_cons (pv 5) pa_nil))))))))))), rd_start (σ0 := [some (.ref b), some (.ref a), some (.ref lo), some (.int m), some (.bl made), none, none, none, none, none]) rfl ?_⟩
 walk_at "q"
 refine g_dnewK fun d hd => ?_
 have f0 : Fr [] H (upd H d (.dK [])) := Fr.new hd
 have hV0 : VarsAt (upd H d (.dK [])) d [] := ⟨upd_same, by decide, fun _ z => nomatch z⟩
 have hB0 := hB.fr0 f0
 have hdb := hB.some hd
 have hK0 := hK.frb hB f0.nil
 have hL0 := hL.frb hB f0.nil
 have had : a ≠ d := fun e => by
  obtain ⟨kvs, h1, _⟩ := hK.ex
  rw [e, hd] at h1
  cases h1
 have hld : lo ≠ d := fun e => by
  obtain ⟨kvs, h1, _⟩ := hL.ex
  rw [e, hd] at h1
  cases h1
 generalize upd H d (.dK []) = H0 at *
 walk_at "q"
 refine ⟨m, rfl, by omega, by omega, fun T hT => lc_it (walk_range (lo := 0) (n := m)) (fun i H' => ∃ us ps vd, Gath K H0 H' T us ps ∧ ps.length = i ∧ BagAt H' b cs ∧ VarsAt H' d vd ∧ VdG vd ∧ vd.length ≤ 8 ∧ Fr [b, d] H0 H')
  ⟨[], [], [], ⟨upd_same, .nil, rfl, (fun _ z => nomatch z), hT⟩, rfl, hB0.fr0 (Fr.new hT), hV0.fr (Fr.new (M := []) hT) (fun z => nomatch z), ⟨by decide, fun _ z => nomatch z⟩, by decide, Fr.new hT⟩ (fun i H' _ h => trivial) (fun i x H' H'' hi h y => ?_) (fun H1 h => ?_)⟩
 ·obtain ⟨rfl, rfl⟩ := y
  obtain ⟨us, ps, vd, hg, hpl, hB1, hV1, hG1, hv8, hF1⟩ := h
  have hTb := hB0.some hT
  have hTd : T ≠ d := fun e => by have z := hV0.at_; rw [← e, hT] at z; cases z
  have hTM : T ∉ [b, d] := fun z => by
   rcases List.mem_cons.mp z with z | z
   ·exact hTb.1 z
   ·exact hTd (List.mem_singleton.mp z)
  have hK1 := hK0.frbd hB0 hV0 had hF1
  walk_at "q"
  refine ⟨rfl, ?_⟩
  walk_at "q"
  refine ⟨b, cs, a, d, vd, rfl, hB1, hK1, had, hV1, hG1, fun v t vd2 H2 ht htw hV2 hG2 hm2 hB2 hF2 => ?_⟩
  have hg2 := hg.fr hF2 hTM
  refine ⟨us, hg2.at_, lt_of (by have := hg2.len; omega), us ++ [v], ps ++ [t], vd2, hg2.put ht htw, ?_, hB2.fr hg2.frT (fun z => hTb.1 (List.mem_singleton.mp z).symm) (fun z => hTb.2 (List.mem_singleton.mp z).symm), hV2.fr hg2.frT (fun z => hTd (List.mem_singleton.mp z).symm), hG2, by omega, (hF1.trans hF2).over hT⟩
  rw [List.length_append, hpl]; rfl
 ·obtain ⟨us, ps, vd, hg, hpl, hB1, hV1, hG1, hv8, hF1⟩ := h
  have hTb := hB0.some hT
  have hTd : T ≠ d := fun e => by have z := hV0.at_; rw [← e, hT] at z; cases z
  have hTM : T ∉ [b, d] := fun z => by
   rcases List.mem_cons.mp z with z | z
   ·exact hTb.1 z
   ·exact hTd (List.mem_singleton.mp z)
  have hTn : H T = none := f0.back (fun z => nomatch z) hT
  have bsub : ∀ {H H' : Hp}, Fr [b] H H' → Fr [b, d] H H' := fun e => e.mono fun a ha => by rw [List.mem_singleton.mp ha]; exact List.mem_cons_self
  have hdM : d ∉ [b] := fun z => hdb.1 (List.mem_singleton.mp z)
  have hTMb : T ∉ [b] := fun z => hTb.1 (List.mem_singleton.mp z)
  let Inv : Nat → L2.St → Hp → Prop := fun n σ H' => ∃ us ps vd z7 z8 z9, σ = [some (.ref b), some (.ref a), some (.ref lo), some (.int m), some (.bl made), some (.ref d), some (.ref T), z7, z8, z9] ∧ Gath K H0 H' T us ps ∧ ps.length ≤ n ∧ BagAt H' b cs ∧ VarsAt H' d vd ∧ VdG vd ∧ vd.length ≤ 10 ∧ Fr [b, d] H0 H'
  have more : ∀ {H' : Hp} {us : List V} {ps : List PartE} {vd : List (Str × Str)} {v : V} {t : PartE}, Gath K H0 H' T us ps → BagAt H' b cs → VarsAt H' d vd → Fr [b, d] H0 H' → Td K H' v t.d → PartW t →
    Gath K H0 (upd H' T (.lst (us ++ [v]))) T (us ++ [v]) (ps ++ [t]) ∧ BagAt (upd H' T (.lst (us ++ [v]))) b cs ∧ VarsAt (upd H' T (.lst (us ++ [v]))) d vd ∧ Fr [b, d] H0 (upd H' T (.lst (us ++ [v]))) :=
   fun hg hB hV hF hv ht => ⟨hg.put hv ht, hB.fr hg.frT (fun z => hTb.1 (List.mem_singleton.mp z).symm) (fun z => hTb.2 (List.mem_singleton.mp z).symm), hV.fr hg.frT (fun z => hTd (List.mem_singleton.mp z).symm), hF.over hT⟩
  have put : ∀ {H' : Hp} {us : List V} {ps : List PartE} {vd : List (Str × Str)} {x : Str}, Gath K H0 H' T us ps → BagAt H' b cs → VarsAt H' d vd → Fr [b, d] H0 H' → VdG vd → VarN x → vd.length ≤ 11 →
    Gath K H0 (upd H' d (.dK (kvOf (putS vd x "number")))) T us ps ∧ BagAt (upd H' d (.dK (kvOf (putS vd x "number")))) b cs ∧ VarsAt (upd H' d (.dK (kvOf (putS vd x "number")))) d (putS vd x "number") ∧ Fr [b, d] H0 (upd H' d (.dK (kvOf (putS vd x "number")))) ∧ VdG (putS vd x "number") ∧ (putS vd x "number").length ≤ vd.length + 1 := by
   intro H' us ps vd x hg hB hV hF hG hx hl
   have e : Fr [d] H' (upd H' d (.dK (kvOf (putS vd x "number")))) := Fr.mut (List.mem_singleton.mpr rfl) hV.at_ nofix_dK
   exact ⟨hg.fr e (fun z => hTd (List.mem_singleton.mp z)), hB.fr e (fun z => hdb.1 (List.mem_singleton.mp z).symm) (fun z => hdb.2 (List.mem_singleton.mp z).symm), hV.put hx (by omega), hF.trans (e.mono fun a ha => by rw [List.mem_singleton.mp ha]; exact List.mem_cons_of_mem _ List.mem_cons_self), hG.put hl hx (.inl rfl), putS_len⟩
  repeat walk_at "if"
  try dsimp only
  with_reducible refine g_cutS (Inv 5) (fun σ H2 h => ?_) (fun N k => ?_)
  ·obtain ⟨us, ps, vd, z7, z8, z9, rfl, hg, hpl, hB1, hV1, hG1, hv8, hF1⟩ := h
   repeat walk_at "if"
   try dsimp only
   with_reducible refine g_cutS (Inv 6) (fun σ H2 h => ?_) (fun N k => ?_)
   ·obtain ⟨us, ps, vd, z7, z8, z9, rfl, hg, hpl, hB1, hV1, hG1, hv8, hF1⟩ := h
    repeat walk_at "if"
    try dsimp only
    with_reducible refine g_cutS (Inv 7) (fun σ H2 h => ?_) (fun N k => ?_)
    ·obtain ⟨us, ps, vd, z7, z8, z9, rfl, hg, hpl, hB1, hV1, hG1, hv8, hF1⟩ := h
     have hT1 := hg.at_
     walk_at "q"
     refine ⟨b, cs, _, rfl, hB1, by omega, Int.lt_of_le_of_lt (b := 1000) (by have := hg.len; omega) (by decide), fun sp H3 d0 d1 hB3 hF3 => ?_⟩
     have hg3 := hg.fr hF3 hTMb
     have hV3 := hV1.fr hF3 hdM
     obtain ⟨n, rfl⟩ : ∃ n : Nat, sp = (n : Int) := ⟨sp.toNat, by omega⟩
     walk_at "q"
     refine g_slL (SqL.of hg3.at_) fun l1 hl1 => ?_
     have e1 : Fr [] H3 (upd H3 l1 (.lst (cutV us (some (n : Int)) none))) := Fr.new hl1
     have h1 : (upd H3 l1 (.lst (cutV us (some (n : Int)) none))) l1 = some (.lst (cutV us (some (n : Int)) none)) := upd_same
     rw [cutA] at e1 h1 ⊢
     generalize upd H3 l1 (.lst (us.drop n)) = H4 at *
     have hg4 := hg3.fr e1 (fun z => nomatch z)
     walk_at "q"
     refine g_slL (SqL.of hg4.at_) fun l2 hl2 => ?_
     have e2 : Fr [] H4 (upd H4 l2 (.lst (cutV us none (some (n : Int))))) := Fr.new hl2
     have h2 : (upd H4 l2 (.lst (cutV us none (some (n : Int))))) l2 = some (.lst (cutV us none (some (n : Int)))) := upd_same
     rw [cut0] at e2 h2 ⊢
     have h1 := e2.at h1 (fun z => nomatch z)
     generalize upd H4 l2 (.lst (us.take n)) = H5 at *
     refine g_addL h1 h2 (le_of (by rw [List.length_drop, List.length_take]; have := hg.len; omega)) fun l3 hl3 => ?_
     have e3 : Fr [] H5 (upd H5 l3 (.lst (us.drop n ++ us.take n))) := Fr.new hl3
     have h3 : (upd H5 l3 (.lst (us.drop n ++ us.take n))) l3 = some (.lst (us.drop n ++ us.take n)) := upd_same
     generalize upd H5 l3 (.lst (us.drop n ++ us.take n)) = H6 at *
     walk_at "q"
     refine g_tupleL (SqL.of h3) fun l4 hl4 => ?_
     have e4 : Fr [] H6 (upd H6 l4 (.tup (us.drop n ++ us.take n))) := Fr.new hl4
     have h4 : (upd H6 l4 (.tup (us.drop n ++ us.take n))) l4 = some (.tup (us.drop n ++ us.take n)) := upd_same
     generalize upd H6 l4 (.tup (us.drop n ++ us.take n)) = H7 at *
     walk_at "q"
     refine ⟨le_of (by simp), fun p hp => ?_⟩
     have e5 : Fr [] H7 (upd H7 p (.tup [.ref l4, .ref d])) := Fr.new hp
     have ee : Fr [] H3 (upd H7 p (.tup [.ref l4, .ref d])) := (((e1.trans e2).trans e3).trans e4).trans e5
     have hbd : Fr [b] H (upd H7 p (.tup [.ref l4, .ref d])) := by
      have z := ((f0.nil.trans hF1).trans (bsub hF3)).trans ee.nil
      intro x o hx hy
      refine z x o hx (hy.imp (fun hn hm => ?_) id)
      rcases List.mem_cons.mp hm with hm | hm
      ·exact hn (by rw [hm]; exact List.mem_cons_self)
      ·rw [List.mem_singleton.mp hm, hd] at hx
       cases hx
     refine q p l4 d _ (ps.drop n ++ ps.take n) vd _ (SqT.of upd_same) (SqT.of (e5.at h4 (fun z => nomatch z))) ?_ ?_ (fun x hx => ?_) (hV3.fr ee (fun z => nomatch z)) hG1 hd (hB3.fr0 ee) hbd
     ·refine tda_mk ?_ fun i x v ex ev => ?_
      ·rw [List.length_append, List.length_append, List.length_drop, List.length_drop, List.length_take, List.length_take, hg.len]
      ·obtain ⟨k1, k2⟩ := tda_get (hg3.td.fr ee)
       have hls := hg.len
       by_cases hi : i < ps.length - n
       ·rw [List.getElem?_append_left (by rw [List.length_drop]; omega), List.getElem?_drop] at ex ev
        obtain ⟨x', ex', hx'⟩ := k2 _ v ev
        rw [ex] at ex'
        cases ex'
        exact hx'
       ·rw [List.getElem?_append_right (by rw [List.length_drop]; omega), List.length_drop, List.getElem?_take] at ex ev
        rw [hls] at ev
        split at ex
        ·rename_i hc
         rw [if_pos hc] at ev
         obtain ⟨x', ex', hx'⟩ := k2 _ v ev
         rw [ex] at ex'
         cases ex'
         exact hx'
        ·cases ex
     ·rw [List.length_append, List.length_drop, List.length_take]; omega
     ·rcases List.mem_append.mp hx with hx | hx
      ·exact hg.ok x (List.mem_of_mem_drop hx)
      ·exact hg.ok x (List.mem_of_mem_take hx)
    ·have hT1 := hg.at_
     have hL1 := hL0.frbd hB0 hV0 hld hF1
     obtain ⟨kvs, hk1, hk2, hk3, hk4⟩ := hL1.ex
     walk_at "q"
     refine g_dnewK fun p1 hp1 => ?_
     have e1 : Fr [] H2 (upd H2 p1 (.dK [])) := Fr.new hp1
     have h1 : (upd H2 p1 (.dK [])) p1 = some (.dK []) := upd_same
     have hk1' := e1.at hk1 (fun z => nomatch z)
     have hg2 := hg.fr e1 (fun z => nomatch z)
     have hB2 := hB1.fr0 e1
     have hV2 := hV1.fr e1 (fun z => nomatch z)
     have hF2 := hF1.trans e1.nil
     have hL2 := hL0.frbd hB0 hV0 hld hF2
     generalize upd H2 p1 (.dK []) = H3 at *
     refine g_neEK hk1' h1 ?_
     rw [decide_eq_false hk3]
     walk_at "q"
     refine ⟨b, cs, _, rfl, hB2, by decide, by decide, fun dd H4 d0 d1 hB4 hF4 => ?_⟩
     have hg4 := hg2.fr hF4 hTMb
     have hV4 := hV2.fr hF4 hdM
     have F4 := hF2.trans (bsub hF4)
     have hL4 := hL0.frbd hB0 hV0 hld F4
     have hT4 := hg4.at_
     walk_at "q"
     refine g_by (fun c => ?_) (fun c => ?_)
     ·walk_at "q"
      refine ⟨b, cs, lo, d, vd, rfl, hB4, hL4, hV4, hG1, fun v t H5 ht htw hB5 hF5 => ?_⟩
      have hg5 := hg4.fr hF5 hTMb
      have hT5 := hg5.at_
      walk_at "q"
      refine ⟨T, us, v, rfl, rfl, hT5, lt_of (by have := hg.len; omega), ?_⟩
      obtain ⟨a1, a2, a3, a4⟩ := more hg5 hB5 (hV4.fr hF5 hdM) (F4.trans (bsub hF5)) ht htw
      exact k _ _ ⟨_, _, _, _, _, _, rfl, a1, by rw [List.length_append]; exact Nat.succ_le_succ hpl, a2, a3, hG1, hv8, a4⟩
     ·walk_at "q"
      exact k _ _ ⟨_, _, _, _, _, _, rfl, hg4, by omega, hB4, hV4, hG1, hv8, F4⟩
   ·have hT1 := hg.at_
    walk_at "q"
    refine ⟨b, cs, _, rfl, hB1, by decide, by decide, fun dd H4 d0 d1 hB4 hF4 => ?_⟩
    have hg4 := hg.fr hF4 hTMb
    have hV4 := hV1.fr hF4 hdM
    have F4 := hF1.trans (bsub hF4)
    have hT4 := hg4.at_
    walk_at "q"
    refine g_by (fun c => ?_) (fun c => ?_)
    ·walk_at "q"
     refine ⟨b, cs, d, vd, rfl, hB4, hV4, hG1, fun v t H5 ht htw hB5 hF5 => ?_⟩
     have hg5 := hg4.fr hF5 hTMb
     have hT5 := hg5.at_
     walk_at "q"
     refine ⟨T, us, v, rfl, rfl, hT5, lt_of (by have := hg.len; omega), ?_⟩
     obtain ⟨a1, a2, a3, a4⟩ := more hg5 hB5 (hV4.fr hF5 hdM) (F4.trans (bsub hF5)) ht htw
     exact k _ _ ⟨_, _, _, _, _, _, rfl, a1, by rw [List.length_append]; exact Nat.succ_le_succ hpl, a2, a3, hG1, hv8, a4⟩
    ·walk_at "q"
     exact k _ _ ⟨_, _, _, _, _, _, rfl, hg4, by omega, hB4, hV4, hG1, hv8, F4⟩
  ·have hT1 := hg.at_
   have stay : ∀ (H4 : Hp) z7 z8 z9, Fr [b] H1 H4 → BagAt H4 b cs → N [some (.ref b), some (.ref a), some (.ref lo), some (.int m), some (.bl made), some (.ref d), some (.ref T), z7, z8, z9] H4 := fun H4 z7 z8 z9 e hB4 =>
    k _ _ ⟨us, ps, vd, z7, z8, z9, rfl, hg.fr e hTMb, by omega, hB4, hV1.fr e hdM, hG1, by omega, hF1.trans (bsub e)⟩
   walk_at "q"
   refine g_byB (fun c => ?_) (fun c => ?_)
   ·walk_at "q"
    refine ⟨b, cs, _, rfl, hB1, by decide, by decide, fun dd H4 d0 d1 hB4 hF4 => ?_⟩
    have hg4 := hg.fr hF4 hTMb
    have hV4 := hV1.fr hF4 hdM
    have F4 := hF1.trans (bsub hF4)
    have hT4 := hg4.at_
    walk_at "q"
    refine g_by (fun c => ?_) (fun c => ?_)
    ·walk_at "q"
     refine ⟨b, cs, d, 1, vd, rfl, by decide, hB4, hV4, fun x v H5 hx hxv hB5 hF5 => ?_⟩
     have hg5 := hg4.fr hF5 hTMb
     have hV5 := hV4.fr hF5 hdM
     have F5 := F4.trans (bsub hF5)
     walk_at "q"
     refine ⟨le_of (by simp), fun p6 hp6 => ?_⟩
     have e6 : Fr [] H5 (upd H5 p6 (.tup [.str "let", .str "sum1", v])) := Fr.new hp6
     have ht6 : Td K (upd H5 p6 (.tup [.str "let", .str "sum1", v])) (.ref p6) (PartE.lt "sum1" x).d := .tup (SqT.of upd_same) (.cons (.str _) (.cons (.str _) (.cons ((hxv.td (hx.w hG1)).fr e6) .nil)))
     have hg6 := hg5.fr e6 (fun z => nomatch z)
     have hV6 := hV5.fr e6 (fun z => nomatch z)
     have F6 := F5.trans e6.nil
     have hB6 := hB5.fr0 e6
     have hT6 := hg6.at_
     generalize upd H5 p6 (.tup [.str "let", .str "sum1", v]) = H6 at *
     walk_at "q"
     refine ⟨T, us, .ref p6, rfl, rfl, hT6, lt_of (by have := hg.len; omega), ?_⟩
     obtain ⟨a1, a2, a3, a4⟩ := more hg6 hB6 hV6 F6 ht6 (.lt sum1_ok (hx.w hG1))
     generalize upd H6 T (.lst (us ++ [.ref p6])) = H7 at *
     walk_at "q"
     refine g_dputS a3.at_ (by unfold kvOf; rw [List.length_map]; omega) ?_
     rw [kvOf_put]
     obtain ⟨b1, b2, b3, b4, b5, b6⟩ := put a1 a2 a3 a4 hG1 sum1_ok (by omega)
     have hdl : (putS vd "sum1" "number").length ≤ 9 := by omega
     generalize upd H7 d (.dK (kvOf (putS vd "sum1" "number"))) = H8 at *
     have hpl2 : (ps ++ [PartE.lt "sum1" x]).length ≤ 4 := by rw [List.length_append]; exact Nat.succ_le_succ (by omega)
     walk_at "q"
     refine ⟨b, cs, _, rfl, b2, by decide, by decide, fun dd H9 d0 d1 hB9 hF9 => ?_⟩
     have hg9 := b1.fr hF9 hTMb
     have hV9 := b3.fr hF9 hdM
     have F9 := b4.trans (bsub hF9)
     have hT9 := hg9.at_
     walk_at "q"
     refine g_by (fun c => ?_) (fun c => ?_)
     ·walk_at "q"
      refine ⟨le_of (by simp), fun p7 hp7 => ?_⟩
      have e7 : Fr [] H9 (upd H9 p7 (.lst [.str "+", .str "-", .str "*"])) := Fr.new hp7
      have h7 : (upd H9 p7 (.lst [V.str "+", .str "-", .str "*"])) p7 = some (.lst [.str "+", .str "-", .str "*"]) := upd_same
      have hb7 := (hB9.some hp7).1
      have hg10 := hg9.fr e7 (fun z => nomatch z)
      have hV10 := hV9.fr e7 (fun z => nomatch z)
      have F10 := F9.trans e7.nil
      have hB10 := hB9.fr0 e7
      generalize upd H9 p7 (.lst [V.str "+", .str "-", .str "*"]) = H10 at *
      walk_at "q"
      refine ⟨b, cs, p7, _, rfl, hB10, .inl ⟨SqL.of h7, hb7⟩, by decide, by decide, fun sv H11 hsv hB11 hF11 => ?_⟩
      obtain ⟨sg, hsg, rfl⟩ : ∃ sg, isSg sg ∧ sv = .str sg := by
       simp only [List.mem_cons, List.not_mem_nil, or_false] at hsv
       rcases hsv with rfl | rfl | rfl
       ·exact ⟨_, .inl rfl, rfl⟩
       ·exact ⟨_, .inr (.inl rfl), rfl⟩
       ·exact ⟨_, .inr (.inr rfl), rfl⟩
      have hg11 := hg10.fr hF11 hTMb
      have hV11 := hV10.fr hF11 hdM
      have F11 := F10.trans (bsub hF11)
      have hT11 := hg11.at_
      walk_at "q"
      refine ⟨le_of (by simp), fun p12 hp12 => ?_⟩
      have e12 : Fr [] H11 (upd H11 p12 (.tup [.str "var", .str "sum1"])) := Fr.new hp12
      have h12 : (upd H11 p12 (.tup [V.str "var", .str "sum1"])) p12 = some (.tup [.str "var", .str "sum1"]) := upd_same
      have hg12 := hg11.fr e12 (fun z => nomatch z)
      have hV12 := hV11.fr e12 (fun z => nomatch z)
      have F12 := F11.trans e12.nil
      have hB12 := hB11.fr0 e12
      generalize upd H11 p12 (.tup [V.str "var", .str "sum1"]) = H12 at *
      walk_at "q"
      refine ⟨b, cs, d, "number", _, rfl, .inl rfl, hB12, hV12, fun p13 H13 hp13 hB13 hF13 => ?_⟩
      obtain ⟨ey, hey, hty⟩ := hp13.w b5
      have hg13 := hg12.fr hF13 hTMb
      have hV13 := hV12.fr hF13 hdM
      have F13 := F12.trans (bsub hF13)
      have h12' := hF13.tup (K := K) (SqT.of h12)
      walk_at "q"
      refine ⟨le_of (by simp), fun p14 hp14 => ?_⟩
      have e14 : Fr [] H13 (upd H13 p14 (.tup [.str sg, .ref p12, .ref p13])) := Fr.new hp14
      have t14 : Td K (upd H13 p14 (.tup [.str sg, .ref p12, .ref p13])) (.ref p14) (SumE.op sg (.var "sum1") ey).d := .tup (SqT.of upd_same) (.cons (.str _) (.cons (.tup (e14.tup h12') (.cons (.str _) (.cons (.str _) .nil))) (.cons (hty.fr e14) .nil)))
      have hg14 := hg13.fr e14 (fun z => nomatch z)
      have hV14 := hV13.fr e14 (fun z => nomatch z)
      have F14 := F13.trans e14.nil
      have hB14 := hB13.fr0 e14
      generalize upd H13 p14 (.tup [.str sg, .ref p12, .ref p13]) = H14 at *
      walk_at "q"
      refine ⟨le_of (by simp), fun p15 hp15 => ?_⟩
      have e15 : Fr [] H14 (upd H14 p15 (.tup [.str "let", .str "sum2", .ref p14])) := Fr.new hp15
      have t15 : Td K (upd H14 p15 (.tup [.str "let", .str "sum2", .ref p14])) (.ref p15) (PartE.lt "sum2" (.op sg (.var "sum1") ey)).d := .tup (SqT.of upd_same) (.cons (.str _) (.cons (.str _) (.cons (t14.fr e15) .nil)))
      have hg15 := hg14.fr e15 (fun z => nomatch z)
      have hV15 := hV14.fr e15 (fun z => nomatch z)
      have F15 := F14.trans e15.nil
      have hB15 := hB14.fr0 e15
      have hT15 := hg15.at_
      generalize upd H14 p15 (.tup [.str "let", .str "sum2", .ref p14]) = H15 at *
      walk_at "q"
      refine ⟨T, _, .ref p15, rfl, rfl, hT15, lt_of (by have := hg15.len; omega), ?_⟩
      obtain ⟨c1, c2, c3, c4⟩ := more hg15 hB15 hV15 F15 t15 (.lt sum2_ok (.op hsg (.var sum1_ok) hey))
      generalize upd H15 T (.lst (us ++ [.ref p6] ++ [.ref p15])) = H16 at *
      walk_at "q"
      refine g_dputS c3.at_ (by unfold kvOf; rw [List.length_map]; omega) ?_
      rw [kvOf_put]
      obtain ⟨d1, d2, d3, d4, d5, d6⟩ := put c1 c2 c3 c4 b5 sum2_ok (by omega)
      exact k _ _ ⟨_, _, _, _, _, _, rfl, d1, by rw [List.length_append]; exact Nat.succ_le_succ hpl2, d2, d3, d5, by omega, d4⟩
     ·walk_at "q"
      exact k _ _ ⟨_, _, _, _, _, _, rfl, hg9, by omega, hB9, hV9, b5, by omega, F9⟩
    ·walk_at "q"
     exact stay _ _ _ _ hF4 hB4
   ·walk_at "q"
    exact stay _ _ _ _ Fr.refl hB1
end
def tightKvs : List (Str × Option V) := [("+", some (.int 1)), ("-", some (.int 1)), ("*", some (.int 2)), ("value", none), ("var", none)]
theorem head_tight {m : Nat} {e : SumE} (h : SumG m e) : ∃ o, (headE e, o) ∈ tightKvs ∧ o.getD (.int 3) = .int (tightE e) := by
 cases h with
 | val => exact ⟨none, (show (("value" : Str), (none : Option V)) ∈ tightKvs by unfold tightKvs; simp), rfl⟩
 | var => exact ⟨none, (show (("var" : Str), (none : Option V)) ∈ tightKvs by unfold tightKvs; simp), rfl⟩
 | op hs _ _ =>
  rcases hs with rfl | rfl | rfl
  ·exact ⟨some (.int 1), (show (("+" : Str), some (V.int 1)) ∈ tightKvs by unfold tightKvs; simp), rfl⟩
  ·exact ⟨some (.int 1), (show (("-" : Str), some (V.int 1)) ∈ tightKvs by unfold tightKvs; simp), rfl⟩
  ·exact ⟨some (.int 2), (show (("*" : Str), some (V.int 2)) ∈ tightKvs by unfold tightKvs; simp), rfl⟩
def spValT : Sp := fun vs H Q _ => ∃ u, vs = [u] ∧ ValG u ∧ Q (.str (valT u)) H
def spTight (K : PySem.W.Frag) : Sp := fun vs H Q _ => ∃ v e m, vs = [v] ∧ Td K H v (SumE.d e) ∧ SumG m e ∧ ∀ H', Fr [] H H' → Q (.int (tightE e)) H'
def spWrap (K : PySem.W.Frag) (n : Nat) : Sp := fun vs H Q _ => ∃ v e m, ∃ k : Nat, vs = [v, .int k] ∧ Td K H v (SumE.d e) ∧ SumG m e ∧ m ≤ 4 ∧ e.deep < n ∧ ∀ H', Fr [] H H' → Q (.str (wrapS k e (sumT e))) H'
def spSumT (K : PySem.W.Frag) (n : Nat) : Sp := fun vs H Q _ => ∃ v e m, vs = [v] ∧ Td K H v (SumE.d e) ∧ SumG m e ∧ m ≤ 4 ∧ e.deep < n ∧ ∀ H', Fr [] H H' → Q (.str (sumT e)) H'
theorem log1920 {i : Int} (h : i.natAbs < 10 ^ 30) : i.natAbs.log2 < 1920 := PySem.Flt.log2_lt_of (by decide) (Nat.lt_of_lt_of_le h (by decide))
abbrev s_value_text : Stmt := topS 1
theorem sc_value_text : FnScope ["value"] ["value"] (defScope s_value_text) := ⟨rfl, rfl, rfl, by decide +kernel, rfl, by decide +kernel, by decide +kernel⟩
abbrev s_tightness : Stmt := topS 4
theorem sc_tightness : FnScope ["thing"] ["thing"] (defScope s_tightness) := ⟨rfl, rfl, rfl, by decide +kernel, rfl, by decide +kernel, by decide +kernel⟩
abbrev s_wrapped : Stmt := topS 5
theorem sc_wrapped : FnScope ["thing", "least", "text"] ["thing", "least"] (defScope s_wrapped) := ⟨rfl, rfl, rfl, by decide +kernel, rfl, by decide +kernel, by decide +kernel⟩
abbrev s_sum_text : Stmt := topS 6
theorem sc_sum_text : FnScope ["thing", "sign", "one", "other", "least", "left", "right"] ["thing"] (defScope s_sum_text) := ⟨rfl, rfl, rfl, by decide +kernel, rfl, by decide +kernel, by decide +kernel⟩
section
variable {P : Program} {w : World} {K : PySem.W.Frag} {mg : Str → Option Value} {base : Heap} {a_TIGHT : Addr}
theorem ok_value_text {f : Addr} {fd : FuncData} (F : FnP K "value_text" s_value_text f fd) (B : BiT mg) : FnG P w K mg base CX0 1 f fd ["value"] spValT := by
 refine okG F sc_value_text (fun vs H Q E h => ?_) (fun cdv A outer s H vs Q E hr h => ?_)
 ·obtain ⟨u, rfl, _⟩ := h
  rfl
 obtain ⟨u, rfl, hu, q⟩ := h
 refine ⟨_, PSs.nox (pss_cons (ps_if (pt_val (pe_callB (kCall (K := K) (r := uIsi) rfl callu_isi) (by rfl) B.b_isinstance (by decide +kernel) (pa_cons (pv 0) (pa_cons (pe_bltn (v := .ty "bool") (by rfl) B.b_bool (by decide +kernel) rfl) pa_nil)))) (pss_one (ps_ret (pe_ifExp (pt_val (pv 0)) pe_str pe_str))) pss_nil)
 (pss_one (ps_ret (pe_ifExp (pt_val (pe_callB (kCall (K := K) (r := uIsi) rfl callu_isi) (by rfl) B.b_isinstance (by decide +kernel) (pa_cons (pv 0) (pa_cons (pe_bltn (v := .ty "int") (by rfl) B.b_int (by decide +kernel) rfl) pa_nil)))) (pe_callTy callu_str (by rfl) B.b_str (by decide +kernel) (pa_cons (pv 0) pa_nil)) (pe_fs (.cons pe_str (.cons (pe_fmt (pv 0)) (.cons pe_str .nil)))))))), rd_start (σ0 := [some u]) rfl ?_⟩
 walk_at "q"
 rcases hu with ⟨i, rfl, hi⟩ | ⟨b, rfl⟩ | ⟨x, rfl, hx⟩
 ·refine g_isi (.base (.int i)) (b := false) (by decide +kernel) ?_
  walk_at "q"
  refine g_isi (.base (.int i)) (b := true) (by decide +kernel) ?_
  walk_at "q"
  refine g_strI (log1920 hi) ?_
  exact q
 ·refine g_isi (.base (.bl b)) (b := true) (by decide +kernel) ?_
  walk_at "q"
  refine g_byB (fun e => ?_) (fun e => ?_)
  ·subst e; exact q
  ·subst e; exact q
 ·refine g_isi (.base (.str x)) (b := false) (by decide +kernel) ?_
  walk_at "q"
  refine g_isi (.base (.str x)) (b := false) (by decide +kernel) ?_
  walk_at "q"
  have hl := hx.len
  repeat walk_at "fs"
  rw [empty_app]
  exact q
theorem ok_tightness {f : Addr} {fd : FuncData} (F : FnP K "tightness" s_tightness f fd) (g_TIGHT : mg "TIGHT" = some (.ref a_TIGHT)) (d_TIGHT : WD K w a_TIGHT tightKvs) : FnG P w K mg base CX0 1 f fd ["thing"] (spTight K) := by
 refine okG F sc_tightness (fun vs H Q E h => ?_) (fun cdv A outer s H vs Q E hr h => ?_)
 ·obtain ⟨v, e, m, rfl, _⟩ := h
  rfl
 obtain ⟨v, e, m, rfl, hv, he, q⟩ := h
 have hu := hu_of hr.rm
 refine ⟨_, PSs.nox (pss_one (ps_ret (pe_kget2 (pe_glob (v := .ref a_TIGHT) rfl g_TIGHT rfl) (pe_ix (kIx (K := K) (r := rIx) rfl ix_seq) (pv 0) pe_int (fun _ _ => rfl)) pe_int ⟨rfl, rfl, rfl, rfl⟩))), rd_start (σ0 := [some v]) rfl ?_⟩
 obtain ⟨p, xs, rfl, hp⟩ := td_head hv
 obtain ⟨o, ho, hv⟩ := head_tight he
 walk_at "q"
 refine g_kget2 (g_c ⟨_, _, rfl, d_TIGHT, ?_⟩)
 walk_at "q"
 refine g_ixT hp (atI_nat (j := 0) rfl) ?_
 walk_at "q"
 refine ⟨_, o, rfl, ho, ?_⟩
 rw [hv]
 exact q _ Fr.refl
theorem ok_wrapped {n k : Nat} {f : Addr} {fd : FuncData} (F : FnP K "wrapped" s_wrapped f fd) (C_sum_text : CalG P w K mg base k "sum_text" (spSumT K n)) (C_tightness : CalG P w K mg base 1 "tightness" (spTight K)) (hk : 1 ≤ k) : FnG P w K mg base CX0 (k + 1) f fd ["thing", "least"] (spWrap K n) := by
 refine okG F sc_wrapped (fun vs H Q E h => ?_) (fun cdv A outer s H vs Q E hr h => ?_)
 ·obtain ⟨v, e, m, j, rfl, _⟩ := h
  rfl
 obtain ⟨v, e, m, j, rfl, hv, he, hm, hn, q⟩ := h
 have hu := hu_of hr.rm
 refine ⟨_, PSs.nox (pss_cons (ps_set (i := 2) sc_wrapped.nd rfl (.inl rfl) (pe_calG C_sum_text hr rfl (pa_cons (pv 0) pa_nil)))
 (pss_one (ps_ret (pe_ifExp (pt_cmpR (kOp (K := K) (r := uLt) rfl opu_lt) (pe_calG C_tightness hr rfl (pa_cons (pv 0) pa_nil)) (pv 1) (nomark _)) (pe_fs (.cons pe_str (.cons (pe_fmt (pv 2)) (.cons pe_str .nil)))) (pv 2))))), rd_start (σ0 := [some v, some (.int j), none]) rfl ?_⟩
 walk_at "q"
 refine ⟨v, e, m, rfl, hv, he, hm, hn, fun H1 e1 => ?_⟩
 walk_at "q"
 refine ⟨v, e, m, rfl, hv.fr e1, he, fun H2 e2 => ?_⟩
 walk_at "q"
 have hl := (he.tx4 hm).len
 refine g_by (fun c => ?_) (fun c => ?_)
 ·repeat walk_at "fs"
  rw [empty_app]
  have z := q _ (e1.trans e2)
  unfold wrapS at z
  rw [if_pos (by omega)] at z
  exact z
 ·walk_at "q"
  have z := q _ (e1.trans e2)
  unfold wrapS at z
  rw [if_neg (by omega)] at z
  exact z
theorem ok_sum_text {n k : Nat} {f : Addr} {fd : FuncData} (F : FnP K "sum_text" s_sum_text f fd) (C_value_text : CalG P w K mg base 1 "value_text" spValT) (C_wrapped : CalG P w K mg base k "wrapped" (spWrap K n)) (hk : 1 ≤ k)
  (g_TIGHT : mg "TIGHT" = some (.ref a_TIGHT)) (d_TIGHT : WD K w a_TIGHT tightKvs) : FnG P w K mg base CX0 (k + 1) f fd ["thing"] (spSumT K (n + 1)) := by
 refine okG F sc_sum_text (fun vs H Q E h => ?_) (fun cdv A outer s H vs Q E hr h => ?_)
 ·obtain ⟨v, e, m, rfl, _⟩ := h
  rfl
 obtain ⟨v, e, m, rfl, hv, he, hm, hn, q⟩ := h
 have hu := hu_of hr.rm
 refine ⟨_, PSs.nox (pss_cons (ps_if (pt_cmpR (kOp (K := K) (r := uEq) rfl (opu_eq hr.units)) (pe_ix (kIx (K := K) (r := rIx) rfl ix_seq) (pv 0) pe_int (fun _ _ => rfl)) pe_str (nomark _)) (pss_one (ps_ret (pe_calG C_value_text hr rfl (pa_cons (pe_ix (kIx (K := K) (r := rIx) rfl ix_seq) (pv 0) pe_int (fun _ _ => rfl)) pa_nil)))) pss_nil)
 (pss_cons (ps_if (pt_cmpR (kOp (K := K) (r := uEq) rfl (opu_eq hr.units)) (pe_ix (kIx (K := K) (r := rIx) rfl ix_seq) (pv 0) pe_int (fun _ _ => rfl)) pe_str (nomark _)) (pss_one (ps_ret (pe_ix (kIx (K := K) (r := rIx) rfl ix_seq) (pv 0) pe_int (fun _ _ => rfl)))) pss_nil)
 (pss_cons (ps_asg (pv 0) (pg_tupK (K := K) rfl rfl (pgs_cons (pg_name (i := 1) sc_sum_text.nd rfl (by first | exact Or.inl rfl | exact Or.inr rfl)) (pgs_cons (pg_name (i := 2) sc_sum_text.nd rfl (by first | exact Or.inl rfl | exact Or.inr rfl)) (pgs_cons (pg_name (i := 3) sc_sum_text.nd rfl (by first | exact Or.inl rfl | exact Or.inr rfl)) pgs_nil)))))
 (pss_cons (ps_set (i := 4) sc_sum_text.nd rfl (.inl rfl) (pe_ix (kIxW (K := K) (w := w) rfl rfl ix_wd) (pe_glob (v := .ref a_TIGHT) rfl g_TIGHT rfl) (pv 1) (fun _ _ => rfl)))
 (pss_cons (ps_set (i := 5) sc_sum_text.nd rfl (.inl rfl) (pe_calG C_wrapped hr rfl (pa_cons (pv 2) (pa_cons (pv 4) pa_nil))))
 (pss_cons (ps_set (i := 6) sc_sum_text.nd rfl (.inl rfl) (pe_calG C_wrapped hr rfl (pa_cons (pv 3) (pa_cons (pe_op (kOp (K := K) (r := uAdd) rfl opu_add) (pv 4) pe_int) pa_nil))))
 (pss_one (ps_ret (pe_fs (.cons (pe_fmt (pv 5)) (.cons pe_str (.cons (pe_fmt (pv 1)) (.cons pe_str (.cons (pe_fmt (pv 6)) .nil)))))))))))))), rd_start (σ0 := [some v, none, none, none, none, none, none]) rfl ?_⟩
 cases he with
 | @val m u hu =>
  obtain ⟨p, rfl, hp⟩ := td_val hu hv
  walk_at "q"
  refine ⟨u, rfl, hu, ?_⟩
  exact q _ Fr.refl
 | @var m x hx =>
  obtain ⟨p, x', y, rfl, hp, hx', hy⟩ := Td.t2 (show Td K H v (.tuple [.str "var", .str x]) from hv)
  cases hx'.str_inv
  cases hy.str_inv
  walk_at "q"
  exact q _ Fr.refl
 | @op m s a b hs ha hb =>
  obtain ⟨p, x, y, z, rfl, hp, hx, hy, hz⟩ := Td.t3 (show Td K H v (.tuple [.str s, a.d, b.d]) from hv)
  cases hx.str_inv
  have hdeep : max a.deep b.deep + 1 < n + 1 := hn
  walk_at "q"
  refine g_ff (decide_eq_false (sg_ne hs).1) ?_
  walk_at "q"
  refine g_ff (decide_eq_false (sg_ne hs).2) ?_
  have ht : ((s, some (.int (tightE (.op s a b)))) : Str × Option V) ∈ tightKvs := by
   rcases hs with rfl | rfl | rfl
   ·exact (show ((("+" : Str), some (V.int 1)) ∈ tightKvs) by unfold tightKvs; simp)
   ·exact (show ((("-" : Str), some (V.int 1)) ∈ tightKvs) by unfold tightKvs; simp)
   ·exact (show ((("*" : Str), some (V.int 2)) ∈ tightKvs) by unfold tightKvs; simp)
  walk_at "q"
  refine g_ixW d_TIGHT ht ?_
  walk_at "q"
  have e1 : (((tightE (.op s a b) : Nat) : Int) + 1) = ((tightE (.op s a b) + 1 : Nat) : Int) := rfl
  refine ⟨y, a, m, _, rfl, hy, ha, by omega, by omega, fun H1 f1 => ?_⟩
  walk_at "q"
  refine ⟨z, b, m, _, rfl, hz.fr f1, hb, by omega, by omega, fun H2 f2 => ?_⟩
  have l1 := (ha.tx4 (by omega)).wrap (k := tightE (.op s a b)) (e := a) |>.len
  have l2 := (hb.tx4 (by omega)).wrap (k := tightE (.op s a b) + 1) (e := b) |>.len
  have l3 := hs.tx.len
  repeat walk_at "fs"
  rw [empty_app]
  exact q _ (f1.trans f2)
end
abbrev s_term_text : Stmt := topS 7
theorem sc_term_text : FnScope ["term"] ["term"] (defScope s_term_text) := ⟨rfl, rfl, rfl, by decide +kernel, rfl, by decide +kernel, by decide +kernel⟩
abbrev s_atom_text : Stmt := topS 8
theorem sc_atom_text : FnScope ["part", "word", "name", "terms", "told", "term"] ["part"] (defScope s_atom_text) := ⟨rfl, rfl, rfl, by decide +kernel, rfl, by decide +kernel, by decide +kernel⟩
abbrev s_part_text : Stmt := topS 9
theorem sc_part_text : FnScope ["part"] ["part"] (defScope s_part_text) := ⟨rfl, rfl, rfl, by decide +kernel, rfl, by decide +kernel, by decide +kernel⟩
abbrev s_arg_text : Stmt := topS 10
theorem sc_arg_text : FnScope ["arg"] ["arg"] (defScope s_arg_text) := ⟨rfl, rfl, rfl, by decide +kernel, rfl, by decide +kernel, by decide +kernel⟩
abbrev s_args_text : Stmt := topS 11
theorem sc_args_text : FnScope ["args", "arg"] ["args"] (defScope s_args_text) := ⟨rfl, rfl, rfl, by decide +kernel, rfl, by decide +kernel, by decide +kernel⟩
abbrev s_parts_text : Stmt := topS 12
theorem sc_parts_text : FnScope ["parts", "part"] ["parts"] (defScope s_parts_text) := ⟨rfl, rfl, rfl, by decide +kernel, rfl, by decide +kernel, by decide +kernel⟩
abbrev s_rule_text : Stmt := topS 13
theorem sc_rule_text : FnScope ["rule", "head", "args", "parts", "told"] ["rule"] (defScope s_rule_text) := ⟨rfl, rfl, rfl, by decide +kernel, rfl, by decide +kernel, by decide +kernel⟩
abbrev s_question_text : Stmt := topS 14
theorem sc_question_text : FnScope ["question", "args", "parts"] ["question"] (defScope s_question_text) := ⟨rfl, rfl, rfl, by decide +kernel, rfl, by decide +kernel, by decide +kernel⟩
abbrev s_tests_text : Stmt := topS 15
theorem sc_tests_text : FnScope ["tests"] ["tests"] (defScope s_tests_text) := ⟨rfl, rfl, rfl, by decide +kernel, rfl, by decide +kernel, by decide +kernel⟩
section
variable {P : Program} {w : World} {K : PySem.W.Frag} {mg : Str → Option Value} {base : Heap}
theorem SumG.head_ne {m : Nat} {e : SumE} (h : SumG m e) : headE e ≠ "any" ∧ headE e ≠ "fold" := by
 cases h with
 | val => exact ⟨by show ¬ (("value" : Str) = "any"); decide +kernel, by show ¬ (("value" : Str) = "fold"); decide +kernel⟩
 | var => exact ⟨by show ¬ (("var" : Str) = "any"); decide +kernel, by show ¬ (("var" : Str) = "fold"); decide +kernel⟩
 | op hs _ _ =>
  rcases hs with rfl | rfl | rfl
  ·exact ⟨by show ¬ (("+" : Str) = "any"); decide +kernel, by show ¬ (("+" : Str) = "fold"); decide +kernel⟩
  ·exact ⟨by show ¬ (("-" : Str) = "any"); decide +kernel, by show ¬ (("-" : Str) = "fold"); decide +kernel⟩
  ·exact ⟨by show ¬ (("*" : Str) = "any"); decide +kernel, by show ¬ (("*" : Str) = "fold"); decide +kernel⟩
theorem ok_term_text {f : Addr} {fd : FuncData} (F : FnP K "term_text" s_term_text f fd) (C_sum_text : CalG P w K mg base 11 "sum_text" (spSumT K 5)) : FnG P w K mg base CX0 12 f fd ["term"] (spTx K TermE.d TermG termT) := by
 refine okG F sc_term_text (fun vs H Q E h => ?_) (fun cdv A outer s H vs Q E hr h => ?_)
 ·obtain ⟨v, a, rfl, _⟩ := h
  rfl
 obtain ⟨v, a, rfl, hv, ha, q⟩ := h
 refine ⟨_, PSs.nox (pss_one (ps_ret (pe_ifExp (pt_cmpR (kOp (K := K) (r := uEq) rfl (opu_eq hr.units)) (pe_ix (kIx (K := K) (r := rIx) rfl ix_seq) (pv 0) pe_int (fun _ _ => rfl)) pe_str (nomark _)) pe_str (pe_calG C_sum_text hr rfl (pa_cons (pv 0) pa_nil))))), rd_start (σ0 := [some v]) rfl ?_⟩
 cases ha with
 | any =>
  obtain ⟨p, x, rfl, hp, hx⟩ := Td.t1 (show Td K H v (.tuple [.str "any"]) from hv)
  cases hx.str_inv
  walk_at "q"
  exact q _ Fr.refl
 | @s e he =>
  have hv : Td K H v e.d := hv
  obtain ⟨p, xs, rfl, hp⟩ := td_head hv
  walk_at "q"
  refine g_ixT hp (atI_nat (j := 0) rfl) ?_
  walk_at "q"
  refine g_ff (decide_eq_false he.head_ne.1) ?_
  walk_at "q"
  exact ⟨_, e, 0, rfl, hv, he, by decide, by have := sum_deep he; omega, q⟩
theorem ok_atom_text {f : Addr} {fd : FuncData} (F : FnP K "atom_text" s_atom_text f fd) (C_term_text : CalG P w K mg base 12 "term_text" (spTx K TermE.d TermG termT)) : FnG P w K mg base CX0 13 f fd ["part"] (spTx K atomD atomG fun a => atomT a.2.1 a.2.2) := by
 refine okG F sc_atom_text (fun vs H Q E h => ?_) (fun cdv A outer s H vs Q E hr h => ?_)
 ·obtain ⟨v, a, rfl, _⟩ := h
  rfl
 obtain ⟨v, ⟨no, x, ts⟩, rfl, hv, ha, q⟩ := h
 obtain ⟨p, y1, y2, y3, rfl, hp, h1, h2, h3⟩ := Td.t3 (show Td K H v (.tuple [.str (if no then "not" else "atom"), .str x, .tuple (ts.map TermE.d)]) from hv)
 cases h1.str_inv
 cases h2.str_inv
 obtain ⟨r, us, rfl, hr3, ht⟩ := h3.tuple_inv
 obtain ⟨hx, hl, hts⟩ : Tx 44 x ∧ ts.length ≤ 4 ∧ ∀ t ∈ ts, TermG t := by
  cases ha with
  | atom a b c => exact ⟨a, b, c⟩
 refine ⟨_, PSs.nox (pss_cons (ps_asg (pv 0) (pg_tupK (K := K) rfl rfl (pgs_cons (pg_name (i := 1) sc_atom_text.nd rfl (by first | exact Or.inl rfl | exact Or.inr rfl)) (pgs_cons (pg_name (i := 2) sc_atom_text.nd rfl (by first | exact Or.inl rfl | exact Or.inr rfl)) (pgs_cons (pg_name (i := 3) sc_atom_text.nd rfl (by first | exact Or.inl rfl | exact Or.inr rfl)) pgs_nil)))))
 (pss_cons (ps_set (i := 4) sc_atom_text.nd rfl (.inl rfl) (kBM (K := K) rfl (pe_bm PySem.F.plainAttrs_str PySem.F.slot_str_join PySem.F.type_str_join (kMt (K := K) (r := rJoin) rfl mt_joinU) pe_str (pa_cons (pe_lc (own := [("term", 5)]) (g := gName 5) (tt := tYes) rfl sc_atom_text.nd (pi_tupK (K := K) rfl (pv 3)) (blkOk_by (own := [("term", 5)]) (N := ["part", "word", "name", "terms", "told", "term"]) (sc := defScope s_atom_text) (by decide +kernel)) (fun _ _ _ _ _ => (by exact (pg_name (i := 5) sc_atom_text.nd rfl (by first | exact Or.inl rfl | exact Or.inr rfl)))) (fun _ _ _ _ _ => pts_nil) (fun _ _ _ _ _ => (by exact (pe_calG C_term_text hr rfl (pa_cons (pv 5) pa_nil))))) pa_nil))))
 (pss_one (ps_ret (pe_fs (.cons (pe_fmt (pv 2)) (.cons pe_str (.cons (pe_fmt (pv 4)) (.cons pe_str .nil))))))))), rd_start (σ0 := [some (.ref p), none, none, none, none, none]) rfl ?_⟩
 walk_at "q"
 refine ⟨r, rfl, ⟨_, hr3⟩, fun D hD => lc_td (T := termT) (walk_tup (xs := us)) (fun H' e => e.tup hr3) rfl ht (by omega) hD (fun y c H' A hc hy e k => ?_) (fun H' e hD' => ?_)⟩
 ·walk_at "q"
  refine ⟨rfl, ?_⟩
  walk_at "q"
  exact ⟨y, c, rfl, hy, hts c hc, k⟩
 ·walk_at "q"
  refine ⟨_, D, ts.map termT, rfl, rfl, .inl (SqL.of hD'), join_fits (fun t ht => (hts t ht).tx) hl (by decide), ?_⟩
  have l1 := join_len (fun t ht => (hts t ht).tx) hl
  have l2 := hx.len
  repeat walk_at "fs"
  rw [show Str.empty ++ x = x from empty_app x]
  exact q _ e
theorem ok_part_text {f : Addr} {fd : FuncData} (F : FnP K "part_text" s_part_text f fd) (C_sum_text : CalG P w K mg base 11 "sum_text" (spSumT K 5)) (C_atom_text : CalG P w K mg base 13 "atom_text" (spTx K atomD atomG fun a => atomT a.2.1 a.2.2)) : FnG P w K mg base CX0 14 f fd ["part"] (spTx K PartE.d PartG partT) := by
 refine okG F sc_part_text (fun vs H Q E h => ?_) (fun cdv A outer s H vs Q E hr h => ?_)
 ·obtain ⟨v, a, rfl, _⟩ := h
  rfl
 obtain ⟨v, a, rfl, hv, ha, q⟩ := h
 refine ⟨_, PSs.nox (pss_cons (ps_if (pt_cmpR (kOp (K := K) (r := uEq) rfl (opu_eq hr.units)) (pe_ix (kIx (K := K) (r := rIx) rfl ix_seq) (pv 0) pe_int (fun _ _ => rfl)) pe_str (nomark _)) (pss_one (ps_ret (pe_calG C_atom_text hr rfl (pa_cons (pv 0) pa_nil)))) pss_nil)
 (pss_cons (ps_if (pt_cmpR (kOp (K := K) (r := uEq) rfl (opu_eq hr.units)) (pe_ix (kIx (K := K) (r := rIx) rfl ix_seq) (pv 0) pe_int (fun _ _ => rfl)) pe_str (nomark _)) (pss_one (ps_ret (pe_fs (.cons pe_str (.cons (pe_fmt (pe_calG C_atom_text hr rfl (pa_cons (pv 0) pa_nil))) .nil))))) pss_nil)
 (pss_cons (ps_if (pt_cmpR (kOp (K := K) (r := uEq) rfl (opu_eq hr.units)) (pe_ix (kIx (K := K) (r := rIx) rfl ix_seq) (pv 0) pe_int (fun _ _ => rfl)) pe_str (nomark _)) (pss_one (ps_ret (pe_fs (.cons (pe_fmt (pe_ix (kIx (K := K) (r := rIx) rfl ix_seq) (pv 0) pe_int (fun _ _ => rfl))) (.cons pe_str (.cons (pe_fmt (pe_calG C_sum_text hr rfl (pa_cons (pe_ix (kIx (K := K) (r := rIx) rfl ix_seq) (pv 0) pe_int (fun _ _ => rfl)) pa_nil))) .nil)))))) pss_nil)
 (pss_one (ps_ret (pe_fs (.cons (pe_fmt (pe_calG C_sum_text hr rfl (pa_cons (pe_ix (kIx (K := K) (r := rIx) rfl ix_seq) (pv 0) pe_int (fun _ _ => rfl)) pa_nil))) (.cons pe_str (.cons (pe_fmt (pe_ix (kIx (K := K) (r := rIx) rfl ix_seq) (pv 0) pe_int (fun _ _ => rfl))) (.cons pe_str (.cons (pe_fmt (pe_calG C_sum_text hr rfl (pa_cons (pe_ix (kIx (K := K) (r := rIx) rfl ix_seq) (pv 0) pe_int (fun _ _ => rfl)) pa_nil))) .nil))))))))))), rd_start (σ0 := [some v]) rfl ?_⟩
 cases ha with
 | @atom no x ts hx hl hts =>
  have hG : atomG (no, x, ts) := .atom hx hl hts
  have hA : Tx 218 (atomT x ts) := Tx.atom hx hl hts
  obtain ⟨p, y1, y2, y3, rfl, hp, h1, h2, h3⟩ := Td.t3 (show Td K H v (.tuple [.str (if no then "not" else "atom"), .str x, .tuple (ts.map TermE.d)]) from hv)
  cases h1.str_inv
  cases no with
  | false =>
   walk_at "q"
   exact ⟨_, (false, x, ts), rfl, hv, hG, q⟩
  | true =>
   repeat walk_at "fs"
   refine ⟨_, (true, x, ts), rfl, hv, hG, fun H1 e1 => ?_⟩
   have l1 := hA.len
   repeat walk_at "fs"
   exact q _ e1
 | @lt x e hx he =>
  obtain ⟨p, y1, y2, y3, rfl, hp, h1, h2, h3⟩ := Td.t3 (show Td K H v (.tuple [.str "let", .str x, e.d]) from hv)
  cases h1.str_inv
  cases h2.str_inv
  have l1 := hx.len
  have l2 := he.tx.len
  repeat walk_at "fs"
  refine ⟨_, e, 1, rfl, h3, he, by decide, by have := sum_deep he; omega, fun H1 e1 => ?_⟩
  repeat walk_at "fs"
  rw [show Str.empty ++ x = x from empty_app x]
  exact q _ e1
 | @test sg a b hs ha hb =>
  obtain ⟨p, y1, y2, y3, y4, rfl, hp, h1, h2, h3, h4⟩ := Td.t4 (show Td K H v (.tuple [.str "test", .str sg, a.d, b.d]) from hv)
  cases h1.str_inv
  cases h2.str_inv
  have l1 := hs.len
  have l2 := ha.tx.len
  have l3 := hb.tx.len
  repeat walk_at "fs"
  refine ⟨_, a, 1, rfl, h3, ha, by decide, by have := sum_deep ha; omega, fun H1 e1 => ?_⟩
  have hp1 := e1.tup hp
  repeat walk_at "fs"
  refine ⟨_, b, 1, rfl, h4.fr e1, hb, by decide, by have := sum_deep hb; omega, fun H2 e2 => ?_⟩
  repeat walk_at "fs"
  rw [show Str.empty ++ sumT a = sumT a from empty_app _]
  exact q _ (e1.trans e2)
theorem ok_arg_text {f : Addr} {fd : FuncData} (F : FnP K "arg_text" s_arg_text f fd) (C_sum_text : CalG P w K mg base 11 "sum_text" (spSumT K 5)) : FnG P w K mg base CX0 14 f fd ["arg"] (spTx K ArgE.d ArgG argT) := by
 refine okG F sc_arg_text (fun vs H Q E h => ?_) (fun cdv A outer s H vs Q E hr h => ?_)
 ·obtain ⟨v, a, rfl, _⟩ := h
  rfl
 obtain ⟨v, a, rfl, hv, ha, q⟩ := h
 refine ⟨_, PSs.nox (pss_cons (ps_if (pt_cmpR (kOp (K := K) (r := uNe) rfl (opu_ne hr.units)) (pe_ix (kIx (K := K) (r := rIx) rfl ix_seq) (pv 0) pe_int (fun _ _ => rfl)) pe_str (nomark _)) (pss_one (ps_ret (pe_calG C_sum_text hr rfl (pa_cons (pv 0) pa_nil)))) pss_nil)
 (pss_one (ps_ret (pe_ifExp (pt_cmpR opu_is (pe_ix (kIx (K := K) (r := rIx) rfl ix_seq) (pv 0) pe_int (fun _ _ => rfl)) pe_non (nomark _)) (pe_ix (kIx (K := K) (r := rIx) rfl ix_seq) (pv 0) pe_int (fun _ _ => rfl)) (pe_fs (.cons (pe_fmt (pe_ix (kIx (K := K) (r := rIx) rfl ix_seq) (pv 0) pe_int (fun _ _ => rfl))) (.cons pe_str (.cons (pe_fmt (pe_ix (kIx (K := K) (r := rIx) rfl ix_seq) (pv 0) pe_int (fun _ _ => rfl))) .nil)))))))), rd_start (σ0 := [some v]) rfl ?_⟩
 cases ha with
 | @s e he =>
  have hv : Td K H v e.d := hv
  obtain ⟨p, xs, rfl, hp⟩ := td_head hv
  walk_at "q"
  refine g_ixT hp (atI_nat (j := 0) rfl) ?_
  walk_at "q"
  refine g_tt (by rw [decide_eq_false he.head_ne.2]; rfl) ?_
  walk_at "q"
  exact ⟨_, e, 0, rfl, hv, he, by decide, by have := sum_deep he; omega, q⟩
 | @fold0 x hx =>
  obtain ⟨p, y1, y2, y3, rfl, hp, h1, h2, h3⟩ := Td.t3 (show Td K H v (.tuple [.str "fold", .str x, .none]) from hv)
  cases h1.str_inv
  cases h2.str_inv
  cases h3.non_inv
  walk_at "q"
  exact q _ Fr.refl
 | @fold x y hx hy =>
  obtain ⟨p, y1, y2, y3, rfl, hp, h1, h2, h3⟩ := Td.t3 (show Td K H v (.tuple [.str "fold", .str x, .str y]) from hv)
  cases h1.str_inv
  cases h2.str_inv
  cases h3.str_inv
  have l1 := hx.len
  have l2 := hy.len
  walk_at "q"
  refine g_ff (decide_eq_false (fun z => nomatch z)) ?_
  repeat walk_at "fs"
  rw [show Str.empty ++ x = x from empty_app x]
  exact q _ Fr.refl
theorem ok_args_text {f : Addr} {fd : FuncData} (F : FnP K "args_text" s_args_text f fd) (C_arg_text : CalG P w K mg base 14 "arg_text" (spTx K ArgE.d ArgG argT)) : FnG P w K mg base CX0 15 f fd ["args"] (spTx K argsD argsG argsT) := by
 refine okG F sc_args_text (fun vs H Q E h => ?_) (fun cdv A outer s H vs Q E hr h => ?_)
 ·obtain ⟨v, a, rfl, _⟩ := h
  rfl
 obtain ⟨v, as, rfl, hv, ha, q⟩ := h
 obtain ⟨r, us, rfl, hr3, ht⟩ := Td.tuple_inv (show Td K H v (.tuple (as.map ArgE.d)) from hv)
 refine ⟨_, PSs.nox (pss_one (ps_ret (kBM (K := K) rfl (pe_bm PySem.F.plainAttrs_str PySem.F.slot_str_join PySem.F.type_str_join (kMt (K := K) (r := rJoin) rfl mt_joinU) pe_str (pa_cons (pe_lc (own := [("arg", 1)]) (g := gName 1) (tt := tYes) rfl sc_args_text.nd (pi_tupK (K := K) rfl (pv 0)) (blkOk_by (own := [("arg", 1)]) (N := ["args", "arg"]) (sc := defScope s_args_text) (by decide +kernel)) (fun _ _ _ _ _ => (by exact (pg_name (i := 1) sc_args_text.nd rfl (by first | exact Or.inl rfl | exact Or.inr rfl)))) (fun _ _ _ _ _ => pts_nil) (fun _ _ _ _ _ => (by exact (pe_calG C_arg_text hr rfl (pa_cons (pv 1) pa_nil))))) pa_nil))))), rd_start (σ0 := [some (.ref r), none]) rfl ?_⟩
 walk_at "q"
 refine ⟨r, rfl, ⟨_, hr3⟩, fun D hD => lc_td (T := argT) (walk_tup (xs := us)) (fun H' e => e.tup hr3) rfl ht (by have := ha.1; omega) hD (fun y c H' A hc hy e k => ?_) (fun H' e hD' => ?_)⟩
 ·walk_at "q"
  refine ⟨rfl, ?_⟩
  walk_at "q"
  exact ⟨y, c, rfl, hy, ha.2 c hc, k⟩
 ·walk_at "q"
  refine ⟨_, D, as.map argT, rfl, rfl, .inl (SqL.of hD'), join_fits (fun t ht => (ha.2 t ht).tx) ha.1 (by decide), ?_⟩
  exact q _ e
theorem ok_parts_text {f : Addr} {fd : FuncData} (F : FnP K "parts_text" s_parts_text f fd) (C_part_text : CalG P w K mg base 14 "part_text" (spTx K PartE.d PartG partT)) : FnG P w K mg base CX0 15 f fd ["parts"] (spTx K partsD partsG partsT) := by
 refine okG F sc_parts_text (fun vs H Q E h => ?_) (fun cdv A outer s H vs Q E hr h => ?_)
 ·obtain ⟨v, a, rfl, _⟩ := h
  rfl
 obtain ⟨v, as, rfl, hv, ha, q⟩ := h
 obtain ⟨r, us, rfl, hr3, ht⟩ := Td.tuple_inv (show Td K H v (.tuple (as.map PartE.d)) from hv)
 refine ⟨_, PSs.nox (pss_one (ps_ret (kBM (K := K) rfl (pe_bm PySem.F.plainAttrs_str PySem.F.slot_str_join PySem.F.type_str_join (kMt (K := K) (r := rJoin) rfl mt_joinU) pe_str (pa_cons (pe_lc (own := [("part", 1)]) (g := gName 1) (tt := tYes) rfl sc_parts_text.nd (pi_tupK (K := K) rfl (pv 0)) (blkOk_by (own := [("part", 1)]) (N := ["parts", "part"]) (sc := defScope s_parts_text) (by decide +kernel)) (fun _ _ _ _ _ => (by exact (pg_name (i := 1) sc_parts_text.nd rfl (by first | exact Or.inl rfl | exact Or.inr rfl)))) (fun _ _ _ _ _ => pts_nil) (fun _ _ _ _ _ => (by exact (pe_calG C_part_text hr rfl (pa_cons (pv 1) pa_nil))))) pa_nil))))), rd_start (σ0 := [some (.ref r), none]) rfl ?_⟩
 walk_at "q"
 refine ⟨r, rfl, ⟨_, hr3⟩, fun D hD => lc_td (T := partT) (walk_tup (xs := us)) (fun H' e => e.tup hr3) rfl ht (by have := ha.1; omega) hD (fun y c H' A hc hy e k => ?_) (fun H' e hD' => ?_)⟩
 ·walk_at "q"
  refine ⟨rfl, ?_⟩
  walk_at "q"
  exact ⟨y, c, rfl, hy, ha.2 c hc, k⟩
 ·walk_at "q"
  refine ⟨_, D, as.map partT, rfl, rfl, .inl (SqL.of hD'), join_fits (fun t ht => (ha.2 t ht).tx) ha.1 (by decide), ?_⟩
  exact q _ e
theorem ok_tests_text {f : Addr} {fd : FuncData} (F : FnP K "tests_text" s_tests_text f fd) (C_parts_text : CalG P w K mg base 15 "parts_text" (spTx K partsD partsG partsT)) : FnG P w K mg base CX0 16 f fd ["tests"] (spTx K partsD partsG partsT) := by
 refine okG F sc_tests_text (fun vs H Q E h => ?_) (fun cdv A outer s H vs Q E hr h => ?_)
 ·obtain ⟨v, a, rfl, _⟩ := h
  rfl
 obtain ⟨v, as, rfl, hv, ha, q⟩ := h
 refine ⟨_, PSs.nox (pss_one (ps_ret (pe_calG C_parts_text hr rfl (pa_cons (pv 0) pa_nil)))), rd_start (σ0 := [some v]) rfl ?_⟩
 walk_at "q"
 exact ⟨v, as, rfl, hv, ha, q⟩
theorem ok_question_text {f : Addr} {fd : FuncData} (F : FnP K "question_text" s_question_text f fd) (C_parts_text : CalG P w K mg base 15 "parts_text" (spTx K partsD partsG partsT)) (C_args_text : CalG P w K mg base 15 "args_text" (spTx K argsD argsG argsT)) :
  FnG P w K mg base CX0 16 f fd ["question"] (spTx K questD questG fun r => questT r.1 r.2) := by
 refine okG F sc_question_text (fun vs H Q E h => ?_) (fun cdv A outer s H vs Q E hr h => ?_)
 ·obtain ⟨v, a, rfl, _⟩ := h
  rfl
 obtain ⟨v, ⟨as, ps⟩, rfl, hv, ha, q⟩ := h
 obtain ⟨p, y1, y2, rfl, hp, h1, h2⟩ := Td.t2 (show Td K H v (.tuple [argsD as, partsD ps]) from hv)
 refine ⟨_, PSs.nox (pss_cons (ps_asg (pv 0) (pg_tupK (K := K) rfl rfl (pgs_cons (pg_name (i := 1) sc_question_text.nd rfl (by first | exact Or.inl rfl | exact Or.inr rfl)) (pgs_cons (pg_name (i := 2) sc_question_text.nd rfl (by first | exact Or.inl rfl | exact Or.inr rfl)) pgs_nil))))
 (pss_one (ps_ret (pe_fs (.cons (pe_fmt (pe_calG C_args_text hr rfl (pa_cons (pv 1) pa_nil))) (.cons pe_str (.cons (pe_fmt (pe_calG C_parts_text hr rfl (pa_cons (pv 2) pa_nil))) .nil))))))), rd_start (σ0 := [some (.ref p), none, none]) rfl ?_⟩
 have l1 : (argsT as).length ≤ 344 := ha.1.tx.len
 have l2 : (partsT ps).length ≤ 1936 := ha.2.tx.len
 repeat walk_at "fs"
 refine ⟨y1, as, rfl, h1, ha.1, fun H1 e1 => ?_⟩
 repeat walk_at "fs"
 refine ⟨y2, ps, rfl, h2.fr e1, ha.2, fun H2 e2 => ?_⟩
 repeat walk_at "fs"
 rw [show Str.empty ++ argsT as = argsT as from empty_app _]
 exact q _ (e1.trans e2)
theorem ok_rule_text {f : Addr} {fd : FuncData} (F : FnP K "rule_text" s_rule_text f fd) (C_parts_text : CalG P w K mg base 15 "parts_text" (spTx K partsD partsG partsT)) (C_args_text : CalG P w K mg base 15 "args_text" (spTx K argsD argsG argsT)) :
  FnG P w K mg base CX0 16 f fd ["rule"] (spTx K ruleD ruleG fun r => ruleT r.1 r.2.1 r.2.2) := by
 refine okG F sc_rule_text (fun vs H Q E h => ?_) (fun cdv A outer s H vs Q E hr h => ?_)
 ·obtain ⟨v, a, rfl, _⟩ := h
  rfl
 obtain ⟨v, ⟨hd, as, ps⟩, rfl, hv, ⟨ha1, ha2, ha3⟩, q⟩ := h
 obtain ⟨p, y1, y2, y3, rfl, hp, h1, h2, h3⟩ := Td.t3 (show Td K H v (.tuple [.str hd, argsD as, partsD ps]) from hv)
 cases h1.str_inv
 obtain ⟨r, us, rfl, hr3, ht⟩ := Td.tuple_inv (show Td K H y3 (.tuple (ps.map PartE.d)) from h3)
 refine ⟨_, PSs.nox (pss_cons (ps_asg (pv 0) (pg_tupK (K := K) rfl rfl (pgs_cons (pg_name (i := 1) sc_rule_text.nd rfl (by first | exact Or.inl rfl | exact Or.inr rfl)) (pgs_cons (pg_name (i := 2) sc_rule_text.nd rfl (by first | exact Or.inl rfl | exact Or.inr rfl)) (pgs_cons (pg_name (i := 3) sc_rule_text.nd rfl (by first | exact Or.inl rfl | exact Or.inr rfl)) pgs_nil)))))
 (pss_cons (ps_set (i := 4) sc_rule_text.nd rfl (.inl rfl) (pe_fs (.cons (pe_fmt (pv 1)) (.cons pe_str (.cons (pe_fmt (pe_calG C_args_text hr rfl (pa_cons (pv 2) pa_nil))) (.cons pe_str .nil))))))
 (pss_one (ps_ret (pe_ifExp (pt_cmpR (kOp (K := K) (r := uEq) rfl (opu_eq hr.units)) (pv 3) (pe_tup pa_nil) (nomark _)) (pv 4) (pe_fs (.cons (pe_fmt (pv 4)) (.cons pe_str (.cons (pe_fmt (pe_calG C_parts_text hr rfl (pa_cons (pv 3) pa_nil))) .nil))))))))), rd_start (σ0 := [some (.ref p), none, none, none, none]) rfl ?_⟩
 have l0 : hd.length ≤ 12 := ha1.len
 have l1 : (argsT as).length ≤ 344 := ha2.tx.len
 have l2 : (partsT ps).length ≤ 1936 := ha3.tx.len
 repeat walk_at "fs"
 refine ⟨y2, as, rfl, h2, ha2, fun H1 e1 => ?_⟩
 repeat walk_at "fs"
 refine ⟨le_of (by decide), fun p2 hp2 => ?_⟩
 have e2 : Fr [] H1 (upd H1 p2 (.tup [])) := Fr.new hp2
 have hp2' : (upd H1 p2 (.tup [])) p2 = some (.tup []) := upd_same
 generalize upd H1 p2 (.tup []) = H2 at *
 refine g_eqET ((e1.trans e2).tup hr3) (SqT.of hp2') ?_
 have en : decide (us = []) = decide (ps = []) := by
  have := (tda_get ht).1
  cases us with
  | nil => cases ps with
   | nil => rfl
   | cons => simp at this
  | cons => cases ps with
   | nil => simp at this
   | cons => rfl
 rw [en]
 repeat walk_at "fs"
 rw [show Str.empty ++ hd = hd from empty_app _]
 refine g_by (fun c => ?_) (fun c => ?_)
 ·walk_at "q"
  have z : Q (.str (ruleT hd as ps)) H2 := q _ (e1.trans e2)
  unfold ruleT at z
  rw [if_pos c] at z
  exact z
 ·repeat walk_at "fs"
  refine ⟨_, ps, rfl, h3.fr (e1.trans e2), ha3, fun H3 e3 => ?_⟩
  repeat walk_at "fs"
  rw [show ∀ a : Str, Str.empty ++ a = a from empty_app]
  have z : Q (.str (ruleT hd as ps)) H3 := q _ ((e1.trans e2).trans e3)
  unfold ruleT at z
  rw [if_neg c] at z
  exact z
end
abbrev s__law_value_text : Stmt := topS 26
theorem sc__law_value_text : FnScope ["_law_value_here"] ["_law_value_here"] (defScope s__law_value_text) := ⟨rfl, rfl, rfl, by decide +kernel, rfl, by decide +kernel, by decide +kernel⟩
abbrev s__law_close : Stmt := topS 27
theorem sc__law_close : FnScope ["_law_thing"] ["_law_thing"] (defScope s__law_close) := ⟨rfl, rfl, rfl, by decide +kernel, rfl, by decide +kernel, by decide +kernel⟩
abbrev s__law_within : Stmt := topS 28
theorem sc__law_within : FnScope ["_law_thing", "_law_least_close", "_law_text"] ["_law_thing", "_law_least_close"] (defScope s__law_within) := ⟨rfl, rfl, rfl, by decide +kernel, rfl, by decide +kernel, by decide +kernel⟩
abbrev s__law_sum_text : Stmt := topS 29
theorem sc__law_sum_text : FnScope ["_law_thing", "_law_close_by"] ["_law_thing"] (defScope s__law_sum_text) := ⟨rfl, rfl, rfl, by decide +kernel, rfl, by decide +kernel, by decide +kernel⟩
abbrev s__law_term_text : Stmt := topS 30
theorem sc__law_term_text : FnScope ["_law_term"] ["_law_term"] (defScope s__law_term_text) := ⟨rfl, rfl, rfl, by decide +kernel, rfl, by decide +kernel, by decide +kernel⟩
abbrev s__law_part_text : Stmt := topS 31
theorem sc__law_part_text : FnScope ["_law_part", "_law_text", "_law_term"] ["_law_part"] (defScope s__law_part_text) := ⟨rfl, rfl, rfl, by decide +kernel, rfl, by decide +kernel, by decide +kernel⟩
abbrev s__law_arg_text : Stmt := topS 32
theorem sc__law_arg_text : FnScope ["_law_arg"] ["_law_arg"] (defScope s__law_arg_text) := ⟨rfl, rfl, rfl, by decide +kernel, rfl, by decide +kernel, by decide +kernel⟩
abbrev s__law_listed : Stmt := topS 33
theorem sc__law_listed : FnScope ["_law_things", "_law_parts", "_law_thing"] ["_law_things", "_law_parts"] (defScope s__law_listed) := ⟨rfl, rfl, rfl, by decide +kernel, rfl, by decide +kernel, by decide +kernel⟩
def closeKvs : List (Key × V) := [(Sum.inr "+", .int 1), (Sum.inr "-", .int 1), (Sum.inr "*", .int 2)]
theorem close_merge : mergeK [] closeKvs = closeKvs := mergeK_nd (acc := []) (by
 show ([(Sum.inr "+" : Key), Sum.inr "-", Sum.inr "*"]).Nodup
 decide +kernel)
theorem close_at {m : Nat} {e : SumE} (h : SumG m e) : (valV closeKvs (Sum.inr (headE e))).getD (.int 3) = .int (tightE e) := by
 have n1 : ∀ x y : Str, ¬ x = y → ¬ ((Sum.inr x : Key) = Sum.inr y) := fun x y h e => h (Sum.inr.inj e)
 cases h with
 | val =>
  have : valV closeKvs (Sum.inr ("value" : Str)) = none := valV_out fun h => by
   have h2 : (Sum.inr "value" : Key) ∈ [(Sum.inr "+" : Key), Sum.inr "-", Sum.inr "*"] := h
   simp only [List.mem_cons, List.not_mem_nil, or_false] at h2
   rcases h2 with h2 | h2 | h2
   ·exact absurd (Sum.inr.inj h2) (by decide +kernel)
   ·exact absurd (Sum.inr.inj h2) (by decide +kernel)
   ·exact absurd (Sum.inr.inj h2) (by decide +kernel)
  rw [show headE (.val _) = "value" from rfl, this]; rfl
 | var =>
  have : valV closeKvs (Sum.inr ("var" : Str)) = none := valV_out fun h => by
   have h2 : (Sum.inr "var" : Key) ∈ [(Sum.inr "+" : Key), Sum.inr "-", Sum.inr "*"] := h
   simp only [List.mem_cons, List.not_mem_nil, or_false] at h2
   rcases h2 with h2 | h2 | h2
   ·exact absurd (Sum.inr.inj h2) (by decide +kernel)
   ·exact absurd (Sum.inr.inj h2) (by decide +kernel)
   ·exact absurd (Sum.inr.inj h2) (by decide +kernel)
  rw [show headE (.var _) = "var" from rfl, this]; rfl
 | op hs _ _ =>
  unfold closeKvs
  rcases hs with rfl | rfl | rfl
  ·show (valV _ (Sum.inr ("+" : Str))).getD _ = _
   rw [valV_pos rfl]; rfl
  ·show (valV _ (Sum.inr ("-" : Str))).getD _ = _
   rw [valV_neg (n1 _ _ (by decide +kernel)), valV_pos rfl]; rfl
  ·show (valV _ (Sum.inr ("*" : Str))).getD _ = _
   rw [valV_neg (n1 _ _ (by decide +kernel)), valV_neg (n1 _ _ (by decide +kernel)), valV_pos rfl]; rfl
def spListed (K : PySem.W.Frag) : Sp := fun vs H Q _ => (∃ v as, vs = [v, .bl false] ∧ Td K H v (argsD as) ∧ argsG as ∧ ∀ H', Fr [] H H' → Q (.str (argsT as)) H') ∨
 ∃ v ps, vs = [v, .bl true] ∧ Td K H v (partsD ps) ∧ partsG ps ∧ ∀ H', Fr [] H H' → Q (.str (partsT ps)) H'
section
variable {P : Program} {w : World} {K : PySem.W.Frag} {mg : Str → Option Value} {base : Heap}
def spValTL : Sp := fun vs H Q _ => ∃ u, vs = [u] ∧ ValG u ∧ ∀ H', Fr [] H H' → Q (.str (valT u)) H'
theorem ok__law_value_text {f : Addr} {fd : FuncData} (F : FnP K "_law_value_text" s__law_value_text f fd) (B : BiT mg) : FnG P w K mg base CX0 1 f fd ["_law_value_here"] spValTL := by
 refine okG F sc__law_value_text (fun vs H Q E h => ?_) (fun cdv A outer s H vs Q E hr h => ?_)
 ·obtain ⟨u, rfl, _⟩ := h
  rfl
 obtain ⟨u, rfl, hu, q⟩ := h
 refine ⟨_, PSs.nox (pss_cons (ps_if (pt_val (pe_callB (kCall (K := K) (r := uIsi) rfl callu_isi) (by rfl) B.b_isinstance (by decide +kernel) (pa_cons (pv 0) (pa_cons (pe_bltn (v := .ty "bool") (by rfl) B.b_bool (by decide +kernel) rfl) pa_nil)))) (pss_one (ps_ret (pe_ix (kIx (K := K) (r := rIx) rfl ix_seq) (pe_lst (pa_cons pe_str (pa_cons pe_str pa_nil))) (pe_callTy callu_int (by rfl) B.b_int (by decide +kernel) (pa_cons (pv 0) pa_nil)) (fun _ _ => rfl)))) pss_nil)
 (pss_one (ps_ret (pe_ifExp (pt_val (pe_callB (kCall (K := K) (r := uIsi) rfl callu_isi) (by rfl) B.b_isinstance (by decide +kernel) (pa_cons (pv 0) (pa_cons (pe_bltn (v := .ty "int") (by rfl) B.b_int (by decide +kernel) rfl) pa_nil)))) (pe_callTy callu_str (by rfl) B.b_str (by decide +kernel) (pa_cons (pv 0) pa_nil)) (pe_op (kOp (K := K) (r := uAdd) rfl opu_add) (pe_op (kOp (K := K) (r := uAdd) rfl opu_add) pe_str (pv 0)) pe_str))))), rd_start (σ0 := [some u]) rfl ?_⟩
 walk_at "q"
 rcases hu with ⟨i, rfl, hi⟩ | ⟨b, rfl⟩ | ⟨x, rfl, hx⟩
 ·refine g_isi (.base (.int i)) (b := false) (by decide +kernel) ?_
  walk_at "q"
  refine g_isi (.base (.int i)) (b := true) (by decide +kernel) ?_
  walk_at "q"
  refine g_strI (log1920 hi) ?_
  exact q _ Fr.refl
 ·refine g_isi (.base (.bl b)) (b := true) (by decide +kernel) ?_
  walk_at "q"
  refine ⟨le_of (by simp), fun p hp => ?_⟩
  have e1 : Fr [] H (upd H p (.lst [V.str "no", .str "yes"])) := Fr.new hp
  have h1 : (upd H p (.lst [V.str "no", .str "yes"])) p = some (.lst [.str "no", .str "yes"]) := upd_same
  generalize upd H p (.lst [V.str "no", .str "yes"]) = H1 at *
  walk_at "q"
  refine g_intB ?_
  cases b with
  | true => exact g_ixL (SqL.of h1) (v := .str "yes") rfl (q _ e1)
  | false => exact g_ixL (SqL.of h1) (v := .str "no") rfl (q _ e1)
 ·refine g_isi (.base (.str x)) (b := false) (by decide +kernel) ?_
  walk_at "q"
  refine g_isi (.base (.str x)) (b := false) (by decide +kernel) ?_
  have hl := hx.len
  repeat walk_at "fs"
  exact q _ Fr.refl
theorem ok__law_close {f : Addr} {fd : FuncData} (F : FnP K "_law_close" s__law_close f fd) : FnG P w K mg base CX0 1 f fd ["_law_thing"] (spTight K) := by
 refine okG F sc__law_close (fun vs H Q E h => ?_) (fun cdv A outer s H vs Q E hr h => ?_)
 ·obtain ⟨v, e, m, rfl, _⟩ := h
  rfl
 obtain ⟨v, e, m, rfl, hv, he, q⟩ := h
 have hu := hu_of hr.rm
 refine ⟨_, PSs.nox (pss_one (ps_ret (pe_dget2 hu (pe_disp (pps_cons pe_str pe_int (pps_cons pe_str pe_int (pps_cons pe_str pe_int pps_nil))) (by rfl) (by rfl) (fun z => by cases z) (by decide)) (pe_ix (kIx (K := K) (r := rIx) rfl ix_seq) (pv 0) pe_int (fun _ _ => rfl)) pe_int ⟨rfl, rfl, rfl, rfl⟩))), rd_start (σ0 := [some v]) rfl ?_⟩
 obtain ⟨p, xs, rfl, hp⟩ := td_head hv
 walk_at "q"
 refine g_dget2 (g_disp fun p2 hp2 => ?_)
 walk_at "q"
 refine ⟨upd_same, closeKvs, rfl, (show 3 ≤ 15 by decide), ?_⟩
 rw [close_merge, upd_upd]
 have e1 : Fr [] H (upd H p2 (.dK closeKvs)) := Fr.new hp2
 have h2 : (upd H p2 (.dK closeKvs)) p2 = some (.dK closeKvs) := upd_same
 generalize upd H p2 (.dK closeKvs) = H1 at *
 refine ⟨p2, rfl, .inl ⟨_, .inl h2⟩, ?_⟩
 walk_at "q"
 refine g_ixT (e1.tup hp) (atI_nat (j := 0) rfl) ?_
 walk_at "q"
 have g := DGet.k (k := (Sum.inr (headE e) : Key)) h2
 refine ⟨_, g, ?_⟩
 rw [close_at he]
 exact q _ e1
theorem ok__law_within {n k : Nat} {f : Addr} {fd : FuncData} (F : FnP K "_law_within" s__law_within f fd) (C__law_sum_text : CalG P w K mg base k "_law_sum_text" (spSumT K n)) (C__law_close : CalG P w K mg base 1 "_law_close" (spTight K)) (hk : 1 ≤ k) : FnG P w K mg base CX0 (k + 1) f fd ["_law_thing", "_law_least_close"] (spWrap K n) := by
 refine okG F sc__law_within (fun vs H Q E h => ?_) (fun cdv A outer s H vs Q E hr h => ?_)
 ·obtain ⟨v, e, m, j, rfl, _⟩ := h
  rfl
 obtain ⟨v, e, m, j, rfl, hv, he, hm, hn, q⟩ := h
 have hu := hu_of hr.rm
 refine ⟨_, PSs.nox (pss_cons (ps_set (i := 2) sc__law_within.nd rfl (.inl rfl) (pe_calG C__law_sum_text hr rfl (pa_cons (pv 0) pa_nil)))
 (pss_one (ps_ret (pe_ifExp (pt_cmpR (kOp (K := K) (r := uLt) rfl opu_lt) (pe_calG C__law_close hr rfl (pa_cons (pv 0) pa_nil)) (pv 1) (nomark _)) (pe_op (kOp (K := K) (r := uAdd) rfl opu_add) (pe_op (kOp (K := K) (r := uAdd) rfl opu_add) pe_str (pv 2)) pe_str) (pv 2))))), rd_start (σ0 := [some v, some (.int j), none]) rfl ?_⟩
 walk_at "q"
 refine ⟨v, e, m, rfl, hv, he, hm, hn, fun H1 e1 => ?_⟩
 walk_at "q"
 refine ⟨v, e, m, rfl, hv.fr e1, he, fun H2 e2 => ?_⟩
 walk_at "q"
 have hl := (he.tx4 hm).len
 refine g_by (fun c => ?_) (fun c => ?_)
 ·repeat walk_at "fs"
  have z := q _ (e1.trans e2)
  unfold wrapS at z
  rw [if_pos (by omega)] at z
  exact z
 ·walk_at "q"
  have z := q _ (e1.trans e2)
  unfold wrapS at z
  rw [if_neg (by omega)] at z
  exact z
theorem ok__law_sum_text {n k : Nat} {f : Addr} {fd : FuncData} (F : FnP K "_law_sum_text" s__law_sum_text f fd) (C__law_value_text : CalG P w K mg base 1 "_law_value_text" spValTL) (C__law_close : CalG P w K mg base 1 "_law_close" (spTight K)) (C__law_within : CalG P w K mg base k "_law_within" (spWrap K n)) (hk : 1 ≤ k) :
  FnG P w K mg base CX0 (k + 1) f fd ["_law_thing"] (spSumT K (n + 1)) := by
 refine okG F sc__law_sum_text (fun vs H Q E h => ?_) (fun cdv A outer s H vs Q E hr h => ?_)
 ·obtain ⟨v, e, m, rfl, _⟩ := h
  rfl
 obtain ⟨v, e, m, rfl, hv, he, hm, hn, q⟩ := h
 have hu := hu_of hr.rm
 refine ⟨_, PSs.nox (pss_cons (ps_if (pt_cmpR (kOp (K := K) (r := uEq) rfl (opu_eq hr.units)) (pe_ix (kIx (K := K) (r := rIx) rfl ix_seq) (pv 0) pe_int (fun _ _ => rfl)) pe_str (nomark _)) (pss_one (ps_ret (pe_calG C__law_value_text hr rfl (pa_cons (pe_ix (kIx (K := K) (r := rIx) rfl ix_seq) (pv 0) pe_int (fun _ _ => rfl)) pa_nil)))) pss_nil)
 (pss_cons (ps_if (pt_cmpR (kOp (K := K) (r := uEq) rfl (opu_eq hr.units)) (pe_ix (kIx (K := K) (r := rIx) rfl ix_seq) (pv 0) pe_int (fun _ _ => rfl)) pe_str (nomark _)) (pss_one (ps_ret (pe_ix (kIx (K := K) (r := rIx) rfl ix_seq) (pv 0) pe_int (fun _ _ => rfl)))) pss_nil)
 (pss_cons (ps_set (i := 1) sc__law_sum_text.nd rfl (.inl rfl) (pe_calG C__law_close hr rfl (pa_cons (pv 0) pa_nil)))
 (pss_one (ps_ret (pe_op (kOp (K := K) (r := uAdd) rfl opu_add) (pe_op (kOp (K := K) (r := uAdd) rfl opu_add) (pe_op (kOp (K := K) (r := uAdd) rfl opu_add) (pe_op (kOp (K := K) (r := uAdd) rfl opu_add) (pe_calG C__law_within hr rfl (pa_cons (pe_ix (kIx (K := K) (r := rIx) rfl ix_seq) (pv 0) pe_int (fun _ _ => rfl)) (pa_cons (pv 1) pa_nil))) pe_str) (pe_ix (kIx (K := K) (r := rIx) rfl ix_seq) (pv 0) pe_int (fun _ _ => rfl))) pe_str) (pe_calG C__law_within hr rfl (pa_cons (pe_ix (kIx (K := K) (r := rIx) rfl ix_seq) (pv 0) pe_int (fun _ _ => rfl)) (pa_cons (pe_op (kOp (K := K) (r := uAdd) rfl opu_add) (pv 1) pe_int) pa_nil))))))))), rd_start (σ0 := [some v, none]) rfl ?_⟩
 cases he with
 | @val m u hu =>
  obtain ⟨p, rfl, hp⟩ := td_val hu hv
  walk_at "q"
  exact ⟨u, rfl, hu, q⟩
 | @var m x hx =>
  obtain ⟨p, x', y, rfl, hp, hx', hy⟩ := Td.t2 (show Td K H v (.tuple [.str "var", .str x]) from hv)
  cases hx'.str_inv
  cases hy.str_inv
  walk_at "q"
  exact q _ Fr.refl
 | @op m s a b hs ha hb =>
  obtain ⟨p, x, y, z, rfl, hp, hx, hy, hz⟩ := Td.t3 (show Td K H v (.tuple [.str s, a.d, b.d]) from hv)
  cases hx.str_inv
  have hdeep : max a.deep b.deep + 1 < n + 1 := hn
  walk_at "q"
  refine g_ff (decide_eq_false (sg_ne hs).1) ?_
  walk_at "q"
  refine g_ff (decide_eq_false (sg_ne hs).2) ?_
  walk_at "q"
  refine ⟨_, _, m + 1, rfl, hv, .op hs ha hb, fun H0 f0 => ?_⟩
  have hp0 := f0.tup hp
  have hy0 := hy.fr f0
  have hz0 := hz.fr f0
  walk_at "q"
  refine ⟨y, a, m, _, rfl, hy0, ha, by omega, by omega, fun H1 f1 => ?_⟩
  have l1 := (ha.tx4 (by omega)).wrap (k := tightE (.op s a b)) (e := a) |>.len
  have l2 := (hb.tx4 (by omega)).wrap (k := tightE (.op s a b) + 1) (e := b) |>.len
  have l3 := hs.tx.len
  have hp1 := f1.tup hp0
  have e1 : (((tightE (.op s a b) : Nat) : Int) + 1) = ((tightE (.op s a b) + 1 : Nat) : Int) := rfl
  repeat walk_at "fs"
  refine ⟨z, b, m, _, rfl, hz0.fr f1, hb, by omega, by omega, fun H2 f2 => ?_⟩
  repeat walk_at "fs"
  exact q _ ((f0.trans f1).trans f2)
theorem ok__law_term_text {f : Addr} {fd : FuncData} (F : FnP K "_law_term_text" s__law_term_text f fd) (C__law_sum_text : CalG P w K mg base 11 "_law_sum_text" (spSumT K 5)) : FnG P w K mg base CX0 12 f fd ["_law_term"] (spTx K TermE.d TermG termT) := by
 refine okG F sc__law_term_text (fun vs H Q E h => ?_) (fun cdv A outer s H vs Q E hr h => ?_)
 ·obtain ⟨v, a, rfl, _⟩ := h
  rfl
 obtain ⟨v, a, rfl, hv, ha, q⟩ := h
 refine ⟨_, PSs.nox (pss_one (ps_ret (pe_ifExp (pt_cmpR (kOp (K := K) (r := uEq) rfl (opu_eq hr.units)) (pe_ix (kIx (K := K) (r := rIx) rfl ix_seq) (pv 0) pe_int (fun _ _ => rfl)) pe_str (nomark _)) pe_str (pe_calG C__law_sum_text hr rfl (pa_cons (pv 0) pa_nil))))), rd_start (σ0 := [some v]) rfl ?_⟩
 cases ha with
 | any =>
  obtain ⟨p, x, rfl, hp, hx⟩ := Td.t1 (show Td K H v (.tuple [.str "any"]) from hv)
  cases hx.str_inv
  walk_at "q"
  exact q _ Fr.refl
 | @s e he =>
  have hv : Td K H v e.d := hv
  obtain ⟨p, xs, rfl, hp⟩ := td_head hv
  walk_at "q"
  refine g_ixT hp (atI_nat (j := 0) rfl) ?_
  walk_at "q"
  refine g_ff (decide_eq_false he.head_ne.1) ?_
  walk_at "q"
  exact ⟨_, e, 0, rfl, hv, he, by decide, by have := sum_deep he; omega, q⟩
theorem ok__law_arg_text {f : Addr} {fd : FuncData} (F : FnP K "_law_arg_text" s__law_arg_text f fd) (C__law_sum_text : CalG P w K mg base 11 "_law_sum_text" (spSumT K 5)) : FnG P w K mg base CX0 14 f fd ["_law_arg"] (spTx K ArgE.d ArgG argT) := by
 refine okG F sc__law_arg_text (fun vs H Q E h => ?_) (fun cdv A outer s H vs Q E hr h => ?_)
 ·obtain ⟨v, a, rfl, _⟩ := h
  rfl
 obtain ⟨v, a, rfl, hv, ha, q⟩ := h
 refine ⟨_, PSs.nox (pss_cons (ps_if (pt_cmpR (kOp (K := K) (r := uNe) rfl (opu_ne hr.units)) (pe_ix (kIx (K := K) (r := rIx) rfl ix_seq) (pv 0) pe_int (fun _ _ => rfl)) pe_str (nomark _)) (pss_one (ps_ret (pe_calG C__law_sum_text hr rfl (pa_cons (pv 0) pa_nil)))) pss_nil)
 (pss_one (ps_ret (pe_ifExp (pt_cmpR opu_is (pe_ix (kIx (K := K) (r := rIx) rfl ix_seq) (pv 0) pe_int (fun _ _ => rfl)) pe_non (nomark _)) (pe_ix (kIx (K := K) (r := rIx) rfl ix_seq) (pv 0) pe_int (fun _ _ => rfl)) (pe_op (kOp (K := K) (r := uAdd) rfl opu_add) (pe_op (kOp (K := K) (r := uAdd) rfl opu_add) (pe_ix (kIx (K := K) (r := rIx) rfl ix_seq) (pv 0) pe_int (fun _ _ => rfl)) pe_str) (pe_ix (kIx (K := K) (r := rIx) rfl ix_seq) (pv 0) pe_int (fun _ _ => rfl))))))), rd_start (σ0 := [some v]) rfl ?_⟩
 cases ha with
 | @s e he =>
  have hv : Td K H v e.d := hv
  obtain ⟨p, xs, rfl, hp⟩ := td_head hv
  walk_at "q"
  refine g_ixT hp (atI_nat (j := 0) rfl) ?_
  walk_at "q"
  refine g_tt (by rw [decide_eq_false he.head_ne.2]; rfl) ?_
  walk_at "q"
  exact ⟨_, e, 0, rfl, hv, he, by decide, by have := sum_deep he; omega, q⟩
 | @fold0 x hx =>
  obtain ⟨p, y1, y2, y3, rfl, hp, h1, h2, h3⟩ := Td.t3 (show Td K H v (.tuple [.str "fold", .str x, .none]) from hv)
  cases h1.str_inv
  cases h2.str_inv
  cases h3.non_inv
  walk_at "q"
  exact q _ Fr.refl
 | @fold x y hx hy =>
  obtain ⟨p, y1, y2, y3, rfl, hp, h1, h2, h3⟩ := Td.t3 (show Td K H v (.tuple [.str "fold", .str x, .str y]) from hv)
  cases h1.str_inv
  cases h2.str_inv
  cases h3.str_inv
  have l1 := hx.len
  have l2 := hy.len
  walk_at "q"
  refine g_ff (decide_eq_false (fun z => nomatch z)) ?_
  repeat walk_at "fs"
  exact q _ Fr.refl
theorem ok__law_part_text {f : Addr} {fd : FuncData} (F : FnP K "_law_part_text" s__law_part_text f fd) (C__law_sum_text : CalG P w K mg base 11 "_law_sum_text" (spSumT K 5)) (C__law_term_text : CalG P w K mg base 12 "_law_term_text" (spTx K TermE.d TermG termT)) : FnG P w K mg base CX0 14 f fd ["_law_part"] (spTx K PartE.d PartG partT) := by
 refine okG F sc__law_part_text (fun vs H Q E h => ?_) (fun cdv A outer s H vs Q E hr h => ?_)
 ·obtain ⟨v, a, rfl, _⟩ := h
  rfl
 obtain ⟨v, a, rfl, hv, ha, q⟩ := h
 refine ⟨_, PSs.nox (pss_cons (ps_if (pt_cmpR (kOp (K := K) (r := uIn) rfl opu_in) (pe_ix (kIx (K := K) (r := rIx) rfl ix_seq) (pv 0) pe_int (fun _ _ => rfl)) (pe_tup (pa_cons pe_str (pa_cons pe_str pa_nil))) (by rfl)) (pss_cons (ps_set (i := 1) sc__law_part_text.nd rfl (.inl rfl) (pe_op (kOp (K := K) (r := uAdd) rfl opu_add) (pe_op (kOp (K := K) (r := uAdd) rfl opu_add) (pe_op (kOp (K := K) (r := uAdd) rfl opu_add) (pe_ix (kIx (K := K) (r := rIx) rfl ix_seq) (pv 0) pe_int (fun _ _ => rfl)) pe_str) (kBM (K := K) rfl (pe_bm PySem.F.plainAttrs_str PySem.F.slot_str_join PySem.F.type_str_join (kMt (K := K) (r := rJoin) rfl mt_joinU) pe_str (pa_cons (pe_lc (own := [("_law_term", 2)]) (g := gName 2) (tt := tYes) rfl sc__law_part_text.nd (pi_tupK (K := K) rfl (pe_ix (kIx (K := K) (r := rIx) rfl ix_seq) (pv 0) pe_int (fun _ _ => rfl))) (blkOk_by (own := [("_law_term", 2)]) (N := ["_law_part", "_law_text", "_law_term"]) (sc := defScope s__law_part_text) (by decide +kernel)) (fun _ _ _ _ _ => (by exact (pg_name (i := 2) sc__law_part_text.nd rfl (by first | exact Or.inl rfl | exact Or.inr rfl)))) (fun _ _ _ _ _ => pts_nil) (fun _ _ _ _ _ => (by exact (pe_calG C__law_term_text hr rfl (pa_cons (pv 2) pa_nil))))) pa_nil)))) pe_str))
 (pss_one (ps_ret (pe_ifExp (pt_cmpR (kOp (K := K) (r := uEq) rfl (opu_eq hr.units)) (pe_ix (kIx (K := K) (r := rIx) rfl ix_seq) (pv 0) pe_int (fun _ _ => rfl)) pe_str (nomark _)) (pe_op (kOp (K := K) (r := uAdd) rfl opu_add) pe_str (pv 1)) (pv 1))))) pss_nil)
 (pss_cons (ps_if (pt_cmpR (kOp (K := K) (r := uEq) rfl (opu_eq hr.units)) (pe_ix (kIx (K := K) (r := rIx) rfl ix_seq) (pv 0) pe_int (fun _ _ => rfl)) pe_str (nomark _)) (pss_one (ps_ret (pe_op (kOp (K := K) (r := uAdd) rfl opu_add) (pe_op (kOp (K := K) (r := uAdd) rfl opu_add) (pe_ix (kIx (K := K) (r := rIx) rfl ix_seq) (pv 0) pe_int (fun _ _ => rfl)) pe_str) (pe_calG C__law_sum_text hr rfl (pa_cons (pe_ix (kIx (K := K) (r := rIx) rfl ix_seq) (pv 0) pe_int (fun _ _ => rfl)) pa_nil))))) pss_nil)
 (pss_one (ps_ret (pe_op (kOp (K := K) (r := uAdd) rfl opu_add) (pe_op (kOp (K := K) (r := uAdd) rfl opu_add) (pe_op (kOp (K := K) (r := uAdd) rfl opu_add) (pe_op (kOp (K := K) (r := uAdd) rfl opu_add) (pe_calG C__law_sum_text hr rfl (pa_cons (pe_ix (kIx (K := K) (r := rIx) rfl ix_seq) (pv 0) pe_int (fun _ _ => rfl)) pa_nil)) pe_str) (pe_ix (kIx (K := K) (r := rIx) rfl ix_seq) (pv 0) pe_int (fun _ _ => rfl))) pe_str) (pe_calG C__law_sum_text hr rfl (pa_cons (pe_ix (kIx (K := K) (r := rIx) rfl ix_seq) (pv 0) pe_int (fun _ _ => rfl)) pa_nil))))))), rd_start (σ0 := [some v, none, none]) rfl ?_⟩
 have two : ∀ (H : Hp) (z : Str) (A : V → Hp → Prop), (∀ H', Fr [] H H' → A (.bl (decide (z ∈ (["atom", "not"] : List Str)))) H') → ∀ p, H p = none → uIn K (.str z) (.ref p) (upd H p (.tup [.str "atom", .str "not"])) A := fun H z A k p hp => by
  refine g_inT (xs := (["atom", "not"] : List Str).map V.str) (.inr (SqT.of upd_same)) (flat_strs _) ?_
  rw [inV_str]
  exact k _ (Fr.new hp)
 cases ha with
 | @atom no x ts hx hl hts =>
  have hA : Tx 218 (atomT x ts) := Tx.atom hx hl hts
  obtain ⟨p, y1, y2, y3, rfl, hp, h1, h2, h3⟩ := Td.t3 (show Td K H v (.tuple [.str (if no then "not" else "atom"), .str x, .tuple (ts.map TermE.d)]) from hv)
  cases h1.str_inv
  cases h2.str_inv
  obtain ⟨r, us, rfl, hr3, ht⟩ := h3.tuple_inv
  walk_at "q"
  refine ⟨le_of (by simp), two _ _ _ fun H1 e1 => ?_⟩
  walk_at "q"
  refine g_tt (by cases no <;> decide +kernel) ?_
  have hp1 := e1.tup hp
  have hr1 := e1.tup hr3
  have ht1 := ht.fr e1
  have l1 := join_len (fun t ht => (hts t ht).tx) hl
  have l2 := hx.len
  repeat walk_at "fs"
  refine ⟨r, rfl, ⟨_, hr1⟩, fun D hD => lc_td (T := termT) (walk_tup (xs := us)) (fun H' e => e.tup hr1) rfl ht1 (by omega) hD (fun y c H' A hc hy e k => ?_) (fun H' e hD' => ?_)⟩
  ·walk_at "q"
   refine ⟨rfl, ?_⟩
   walk_at "q"
   exact ⟨y, c, rfl, hy, hts c hc, k⟩
  ·walk_at "q"
   refine ⟨_, D, ts.map termT, rfl, rfl, .inl (SqL.of hD'), join_fits (fun t ht => (hts t ht).tx) hl (by decide), ?_⟩
   have hp2 := e.tup hp1
   repeat walk_at "fs"
   have l3 := hA.len
   cases no with
   | true =>
    refine g_tt (by decide +kernel) ?_
    have l4 : (x ++ "(" ++ Txt.join ", " (ts.map termT) ++ ")").length ≤ 218 := l3
    walk_at "q"
    refine g_addS (by rw [lit_not]; exact le_of (by omega)) ?_
    exact q _ (e1.trans e)
   | false =>
    refine g_ff (by decide +kernel) ?_
    walk_at "q"
    exact q _ (e1.trans e)
 | @lt x e hx he =>
  obtain ⟨p, y1, y2, y3, rfl, hp, h1, h2, h3⟩ := Td.t3 (show Td K H v (.tuple [.str "let", .str x, e.d]) from hv)
  cases h1.str_inv
  cases h2.str_inv
  have l1 := hx.len
  have l2 := he.tx.len
  repeat walk_at "fs"
  refine ⟨le_of (by simp), two _ _ _ fun H1 e1 => ?_⟩
  have hp1 := e1.tup hp
  repeat walk_at "fs"
  refine ⟨_, e, 1, rfl, h3.fr e1, he, by decide, by have := sum_deep he; omega, fun H2 e2 => ?_⟩
  repeat walk_at "fs"
  exact q _ (e1.trans e2)
 | @test sg a b hs ha hb =>
  obtain ⟨p, y1, y2, y3, y4, rfl, hp, h1, h2, h3, h4⟩ := Td.t4 (show Td K H v (.tuple [.str "test", .str sg, a.d, b.d]) from hv)
  cases h1.str_inv
  cases h2.str_inv
  have l1 := hs.len
  have l2 := ha.tx.len
  have l3 := hb.tx.len
  repeat walk_at "fs"
  refine ⟨le_of (by simp), two _ _ _ fun H0 e0 => ?_⟩
  have hp0 := e0.tup hp
  repeat walk_at "fs"
  refine ⟨_, a, 1, rfl, h3.fr e0, ha, by decide, by have := sum_deep ha; omega, fun H1 e1 => ?_⟩
  have hp1 := e1.tup hp0
  repeat walk_at "fs"
  refine ⟨_, b, 1, rfl, (h4.fr e0).fr e1, hb, by decide, by have := sum_deep hb; omega, fun H2 e2 => ?_⟩
  repeat walk_at "fs"
  exact q _ ((e0.trans e1).trans e2)
theorem ok__law_listed {f : Addr} {fd : FuncData} (F : FnP K "_law_listed" s__law_listed f fd) (C__law_part_text : CalG P w K mg base 14 "_law_part_text" (spTx K PartE.d PartG partT)) (C__law_arg_text : CalG P w K mg base 14 "_law_arg_text" (spTx K ArgE.d ArgG argT)) :
  FnG P w K mg base CX0 15 f fd ["_law_things", "_law_parts"] (spListed K) := by
 refine okG F sc__law_listed (fun vs H Q E h => ?_) (fun cdv A outer s H vs Q E hr h => ?_)
 ·rcases h with ⟨v, as, rfl, _⟩ | ⟨v, as, rfl, _⟩
  ·rfl
  ·rfl
 rcases h with ⟨v, as, rfl, hv, ha, q⟩ | ⟨v, as, rfl, hv, ha, q⟩
 ·obtain ⟨r, us, rfl, hr3, ht⟩ := Td.tuple_inv (show Td K H v (.tuple (as.map ArgE.d)) from hv)
  refine ⟨_, PSs.nox (pss_one (ps_ret (kBM (K := K) rfl (pe_bm PySem.F.plainAttrs_str PySem.F.slot_str_join PySem.F.type_str_join (kMt (K := K) (r := rJoin) rfl mt_joinU) pe_str (pa_cons (pe_lc (own := [("_law_thing", 2)]) (g := gName 2) (tt := tYes) rfl sc__law_listed.nd (pi_tupK (K := K) rfl (pv 0)) (blkOk_by (own := [("_law_thing", 2)]) (N := ["_law_things", "_law_parts", "_law_thing"]) (sc := defScope s__law_listed) (by decide +kernel)) (fun _ _ _ _ _ => (by exact (pg_name (i := 2) sc__law_listed.nd rfl (by first | exact Or.inl rfl | exact Or.inr rfl)))) (fun _ _ _ _ _ => pts_nil) (fun _ _ _ _ _ => (by exact (pe_ifExp (pt_val (pv 1)) (pe_calG C__law_part_text hr rfl (pa_cons (pv 2) pa_nil)) (pe_calG C__law_arg_text hr rfl (pa_cons (pv 2) pa_nil)))))) pa_nil))))), rd_start (σ0 := [some (.ref r), some (.bl false), none]) rfl ?_⟩
  walk_at "q"
  refine ⟨r, rfl, ⟨_, hr3⟩, fun D hD => lc_td (T := argT) (walk_tup (xs := us)) (fun H' e => e.tup hr3) rfl ht (by have := ha.1; omega) hD (fun y c H' A hc hy e k => ?_) (fun H' e hD' => ?_)⟩
  ·walk_at "q"
   refine ⟨rfl, ?_⟩
   walk_at "q"
   exact ⟨y, c, rfl, hy, ha.2 c hc, k⟩
  ·walk_at "q"
   refine ⟨_, D, as.map argT, rfl, rfl, .inl (SqL.of hD'), join_fits (fun t ht => (ha.2 t ht).tx) ha.1 (by decide), ?_⟩
   exact q _ e
 ·obtain ⟨r, us, rfl, hr3, ht⟩ := Td.tuple_inv (show Td K H v (.tuple (as.map PartE.d)) from hv)
  refine ⟨_, PSs.nox (pss_one (ps_ret (kBM (K := K) rfl (pe_bm PySem.F.plainAttrs_str PySem.F.slot_str_join PySem.F.type_str_join (kMt (K := K) (r := rJoin) rfl mt_joinU) pe_str (pa_cons (pe_lc (own := [("_law_thing", 2)]) (g := gName 2) (tt := tYes) rfl sc__law_listed.nd (pi_tupK (K := K) rfl (pv 0)) (blkOk_by (own := [("_law_thing", 2)]) (N := ["_law_things", "_law_parts", "_law_thing"]) (sc := defScope s__law_listed) (by decide +kernel)) (fun _ _ _ _ _ => (by exact (pg_name (i := 2) sc__law_listed.nd rfl (by first | exact Or.inl rfl | exact Or.inr rfl)))) (fun _ _ _ _ _ => pts_nil) (fun _ _ _ _ _ => (by exact (pe_ifExp (pt_val (pv 1)) (pe_calG C__law_part_text hr rfl (pa_cons (pv 2) pa_nil)) (pe_calG C__law_arg_text hr rfl (pa_cons (pv 2) pa_nil)))))) pa_nil))))), rd_start (σ0 := [some (.ref r), some (.bl true), none]) rfl ?_⟩
  walk_at "q"
  refine ⟨r, rfl, ⟨_, hr3⟩, fun D hD => lc_td (T := partT) (walk_tup (xs := us)) (fun H' e => e.tup hr3) rfl ht (by have := ha.1; omega) hD (fun y c H' A hc hy e k => ?_) (fun H' e hD' => ?_)⟩
  ·walk_at "q"
   refine ⟨rfl, ?_⟩
   walk_at "q"
   exact ⟨y, c, rfl, hy, ha.2 c hc, k⟩
  ·walk_at "q"
   refine ⟨_, D, as.map partT, rfl, rfl, .inl (SqL.of hD'), join_fits (fun t ht => (ha.2 t ht).tx) ha.1 (by decide), ?_⟩
   exact q _ e
end
def RuleW (r : Str × List ArgE × List PartE) : Prop := VarN r.1 ∧ 1 ≤ r.2.1.length ∧ r.2.1.length ≤ 4 ∧ (∀ a ∈ r.2.1, ArgW a) ∧ r.2.2.length ≤ 6 ∧ ∀ p ∈ r.2.2, PartW p
theorem RuleW.g {r : Str × List ArgE × List PartE} (h : RuleW r) : ruleG r := ⟨h.1.1.tx, ⟨by have := h.2.2.1; omega, fun a ha => (h.2.2.2.1 a ha).g⟩, ⟨by have := h.2.2.2.2.1; omega, fun a ha => (h.2.2.2.2.2 a ha).g⟩⟩
def spAnyRule (K : PySem.W.Frag) : Sp := fun vs H Q _ => ∃ (b cs : Addr), vs = [.ref b] ∧ BagAt H b cs ∧ ∀ (v : V) (r : Str × List ArgE × List PartE) (H' : Hp), Td K H' v (ruleD r) → RuleW r → BagAt H' b cs → Fr [b] H H' → Q v H'
theorem tda_set {α : Type} {K : PySem.W.Frag} {H : Hp} {f : α → PyData} {xs : List α} {vs : List V} (h : TdAll K H vs (xs.map f)) {j : Nat} {v : V} {x : α} (hv : Td K H v (f x)) : TdAll K H (vs.set j v) ((xs.set j x).map f) := by
 obtain ⟨k1, k2⟩ := tda_get h
 refine tda_mk (by rw [List.length_set, List.length_set, k1]) fun i y u ey eu => ?_
 rw [List.getElem?_set] at ey eu
 split at ey
 ·rename_i c
  rw [if_pos c] at eu
  split at ey
  ·rename_i c2
   rw [if_pos (by omega)] at eu
   cases ey
   cases eu
   exact hv
  ·cases ey
 ·rename_i c
  rw [if_neg c] at eu
  obtain ⟨z, hz, hd⟩ := k2 i u eu
  rw [ey] at hz
  cases hz
  exact hd
theorem tda_take {α : Type} {K : PySem.W.Frag} {H : Hp} {f : α → PyData} {xs : List α} {vs : List V} (h : TdAll K H vs (xs.map f)) (n : Nat) : TdAll K H (vs.take n) ((xs.take n).map f) := by
 obtain ⟨k1, k2⟩ := tda_get h
 refine tda_mk (by rw [List.length_take, List.length_take, k1]) fun i y u ey eu => ?_
 rw [List.getElem?_take] at ey eu
 split at ey
 ·rename_i c
  rw [if_pos c] at eu
  obtain ⟨z, hz, hd⟩ := k2 i u eu
  rw [ey] at hz
  cases hz
  exact hd
 ·cases ey
abbrev s__law_any_rule : Stmt := topS 44
theorem sc__law_any_rule : FnScope ["_law_bag_here", "_law_names_here", "_law_kinds_of", "_law_parts", "_law_vars_of", "_law_args", "_law_k"] ["_law_bag_here"] (defScope s__law_any_rule) := ⟨rfl, rfl, rfl, by decide +kernel, rfl, by decide +kernel, by decide +kernel⟩
section
variable {P : Program} {w : World} {K : PySem.W.Frag} {mg : Str → Option Value} {base : Heap}
theorem ok__law_any_rule {f : Addr} {fd : FuncData} (F : FnP K "_law_any_rule" s__law_any_rule f fd) (B : BiR mg) (C__law_names : CalG P w K mg base 40 "_law_names" spNames) (C__law_body : CalG P w K mg base 62 "_law_body" (spBody K)) (C__law_one : CalG P w K mg base 20 "_law_one" (spOne K)) (C__law_pull : CalG P w K mg base 10 "_law_pull" spPull)
  (C__law_leaf : CalG P w K mg base 50 "_law_leaf" (spLeaf K)) (C__law_fold_arg : CalG P w K mg base 61 "_law_fold_arg" (spFoldA K)) :
  FnG P w K mg base CX0 63 f fd ["_law_bag_here"] (spAnyRule K) := by
 refine okG F sc__law_any_rule (fun vs H Q E h => ?_) (fun cdv A outer s H vs Q E hr h => ?_)
 ·obtain ⟨b, cs, rfl, _⟩ := h
  rfl
 obtain ⟨b, cs, rfl, hB, q⟩ := h
 have hu := hu_of hr.rm
 refine ⟨_, PSs.nox (pss_cons (ps_set (i := 1) sc__law_any_rule.nd rfl (.inl rfl) (pe_calG C__law_names hr rfl (pa_cons (pv 0) (pa_cons pe_int pa_nil))))
 (pss_cons (ps_set (i := 2) sc__law_any_rule.nd rfl (.inl rfl) (pe_disp (pps_cons (pe_op (kOp (K := K) (r := uAdd) rfl opu_add) (pe_op (kOp (K := K) (r := uAdd) rfl opu_add) (pe_ix (kIx (K := K) (r := rIx) rfl ix_seq) (pv 1) pe_int (fun _ _ => rfl)) pe_str) (pe_ix (kIx (K := K) (r := rIx) rfl ix_seq) (pv 1) pe_int (fun _ _ => rfl))) (pe_lst (pa_cons pe_str (pa_cons pe_str pa_nil))) (pps_cons (pe_ix (kIx (K := K) (r := rIx) rfl ix_seq) (pv 1) pe_int (fun _ _ => rfl)) (pe_lst (pa_cons pe_str pa_nil)) pps_nil)) (by rfl) (by rfl) (fun z => by cases z) (by decide)))
 (pss_cons (ps_dput hu (pv 2) (pe_op (kOp (K := K) (r := uAdd) rfl opu_add) (pe_op (kOp (K := K) (r := uAdd) rfl opu_add) (pe_op (kOp (K := K) (r := uAdd) rfl opu_add) (pe_op (kOp (K := K) (r := uAdd) rfl opu_add) (pe_ix (kIx (K := K) (r := rIx) rfl ix_seq) (pv 1) pe_int (fun _ _ => rfl)) pe_str) (pe_ix (kIx (K := K) (r := rIx) rfl ix_seq) (pv 1) pe_int (fun _ _ => rfl))) pe_str) (pe_ix (kIx (K := K) (r := rIx) rfl ix_seq) (pv 1) pe_int (fun _ _ => rfl))) (pe_lst (pa_cons pe_str (pa_cons pe_str (pa_cons pe_str (pa_cons pe_str pa_nil))))) rfl)
 (pss_cons (ps_asg (pe_calG C__law_body hr rfl (pa_cons (pv 0) (pa_cons (pv 2) (pa_cons (pv 2) (pa_cons (pe_calG C__law_pull hr rfl (pa_cons (pv 0) (pa_cons pe_int pa_nil))) (pa_cons pe_bl pa_nil)))))) (pg_tupK (K := K) rfl rfl (pgs_cons (pg_name (i := 3) sc__law_any_rule.nd rfl (by first | exact Or.inl rfl | exact Or.inr rfl)) (pgs_cons (pg_name (i := 4) sc__law_any_rule.nd rfl (by first | exact Or.inl rfl | exact Or.inr rfl)) pgs_nil))))
 (pss_cons (ps_setLc (i := 5) (own := [("_law_k", 6)]) (g := gName 6) (tt := tYes) rfl sc__law_any_rule.nd rfl rfl (sw_true rfl rfl rfl (by decide +kernel)) (pi_range1 rfl B.b_range (pa_cons (pe_op (kOp (K := K) (r := uAdd) rfl opu_add) pe_int (pe_calG C__law_pull hr rfl (pa_cons (pv 0) (pa_cons pe_int pa_nil)))) pa_nil)) (blkOk_by (own := [("_law_k", 6)]) (N := ["_law_bag_here", "_law_names_here", "_law_kinds_of", "_law_parts", "_law_vars_of", "_law_args", "_law_k"]) (sc := defScope s__law_any_rule) (by decide +kernel)) (fun _ _ _ _ _ => (by exact (pg_name (i := 6) sc__law_any_rule.nd rfl (by first | exact Or.inl rfl | exact Or.inr rfl)))) (fun _ _ _ _ _ => pts_nil) (fun _ _ _ _ _ => (by exact (pe_calG C__law_leaf hr rfl (pa_cons (pv 0) (pa_cons (pe_calG C__law_one hr rfl (pa_cons (pv 0) (pa_cons (pe_lst (pa_cons pe_str (pa_cons pe_str (pa_cons pe_str pa_nil)))) pa_nil))) (pa_cons (pv 4) pa_nil)))))))
 (pss_cons (ps_if (pt_cmpR (kOp (K := K) (r := uEq) rfl (opu_eq hr.units)) (pe_calG C__law_pull hr rfl (pa_cons (pv 0) (pa_cons pe_int pa_nil))) pe_int (nomark _)) (pss_one (ps_asg (pe_calG C__law_fold_arg hr rfl (pa_cons (pv 0) (pa_cons (pv 4) pa_nil))) (pg_sub (pv 5) (pe_calG C__law_pull hr rfl (pa_cons (pv 0) (pa_cons (pe_callB (kCall (K := K) (r := uLen) rfl callu_len) (by rfl) B.b_len (by decide +kernel) (pa_cons (pv 5) pa_nil)) pa_nil))) set_list))) pss_nil)
 (pss_one (ps_ret (pe_tup (pa_cons (pe_ix (kIx (K := K) (r := rIx) rfl ix_seq) (pv 1) pe_int (fun _ _ => rfl)) (pa_cons (pe_callTy (kCall (K := K) (r := uTuple) rfl callu_tuple) (by rfl) B.b_tuple (by decide +kernel) (pa_cons (pv 5) pa_nil)) (pa_cons (pe_slice (kSl (K := K) (r := rSlA) rfl sl_tupA) (pv 3) po_none (po_some pe_int)) pa_nil)))))))))))), rd_start (σ0 := [some (.ref b), none, none, none, none, none, none]) rfl ?_⟩
 walk_at "q"
 refine ⟨b, cs, 6, rfl, by decide, hB, fun pn ws H1 hpn hn hwl hwv hB1 hF1 => ?_⟩
 obtain ⟨w0, w1, w2, w3, w4, w5, rfl⟩ : ∃ w0 w1 w2 w3 w4 w5, ws = [w0, w1, w2, w3, w4, w5] := by
  match ws, hwl with
  | [w0, w1, w2, w3, w4, w5], _ => exact ⟨_, _, _, _, _, _, rfl⟩
 have hn : H1 pn = some (.lst [.str w0, .str w1, .str w2, .str w3, .str w4, .str w5]) := hn
 have v0 : VarN w0 := hwv _ (by simp)
 have v1 : VarN w1 := hwv _ (by simp)
 have v2 : VarN w2 := hwv _ (by simp)
 have v3 : VarN w3 := hwv _ (by simp)
 have v4 : VarN w4 := hwv _ (by simp)
 have v5 : VarN w5 := hwv _ (by simp)
 have l0 := v0.1.tx.len
 have l1 := v1.1.tx.len
 have l2 := v2.1.tx.len
 have l3 := v3.1.tx.len
 have l4 := v4.1.tx.len
 have hpnb : pn ∉ [b] := fun z => (hB.some hpn).1 (List.mem_singleton.mp z)
 repeat walk_at "fs"
 refine g_disp fun pk hpk => ?_
 have e2 : Fr [] H1 (upd H1 pk (.dK [])) := Fr.new hpk
 have h2 : (upd H1 pk (.dK [])) pk = some (.dK []) := upd_same
 have hpkb := hB1.some hpk
 have hn2 := e2.at hn (fun z => nomatch z)
 have hB2 := hB1.fr0 e2
 have F2 := hF1.trans e2.nil
 generalize upd H1 pk (.dK []) = H2 at *
 repeat walk_at "fs"
 refine ⟨le_of (by simp), fun pl1 hpl1 => ?_⟩
 have e3 : Fr [] H2 (upd H2 pl1 (.lst [.str "number", .str "word"])) := Fr.new hpl1
 have h3 : (upd H2 pl1 (.lst [V.str "number", .str "word"])) pl1 = some (.lst [.str "number", .str "word"]) := upd_same
 have h2' := e3.at h2 (fun z => nomatch z)
 have hn3 := e3.at hn2 (fun z => nomatch z)
 have hB3 := hB2.fr0 e3
 have F3 := F2.trans e3.nil
 generalize upd H2 pl1 (.lst [V.str "number", .str "word"]) = H3 at *
 repeat walk_at "fs"
 refine ⟨le_of (by simp), fun pl2 hpl2 => ?_⟩
 have e4 : Fr [] H3 (upd H3 pl2 (.lst [.str "number"])) := Fr.new hpl2
 have h4 : (upd H3 pl2 (.lst [V.str "number"])) pl2 = some (.lst [.str "number"]) := upd_same
 have h24 := e4.at h2' (fun z => nomatch z)
 have h34 := e4.at h3 (fun z => nomatch z)
 have hn4 := e4.at hn3 (fun z => nomatch z)
 have hB4 := hB3.fr0 e4
 have F4 := F3.trans e4.nil
 generalize upd H3 pl2 (.lst [V.str "number"]) = H4 at *
 repeat walk_at "fs"
 refine ⟨h24, [(Sum.inr (w0 ++ "." ++ w1), .ref pl1), (Sum.inr w2, .ref pl2)], rfl, (show 2 ≤ 15 by decide), ?_⟩
 obtain ⟨kv1, hkv1⟩ : ∃ kv1, kv1 = mergeK [] [((Sum.inr (w0 ++ "." ++ w1) : Key), V.ref pl1), (Sum.inr w2, V.ref pl2)] := ⟨_, rfl⟩
 rw [← hkv1]
 have hk1l : kv1.length ≤ 2 := by rw [hkv1]; exact mergeK_len
 have nopk : ∀ {l : Addr} {xs : List V}, H4 l = some (.lst xs) → l ≠ pk := fun h e => by rw [e, h24] at h; cases h
 have e5 : Fr [pk] H4 (upd H4 pk (.dK kv1)) := Fr.mut (List.mem_singleton.mpr rfl) h24 nofix_dK
 have h5 : (upd H4 pk (.dK kv1)) pk = some (.dK kv1) := upd_same
 have h35 := e5.at h34 (fun z => nopk h34 (List.mem_singleton.mp z))
 have h45 := e5.at h4 (fun z => nopk h4 (List.mem_singleton.mp z))
 have hn5 := e5.at hn4 (fun z => nopk hn4 (List.mem_singleton.mp z))
 have hB5 := hB4.fr e5 (fun z => hpkb.1 (List.mem_singleton.mp z).symm) (fun z => hpkb.2 (List.mem_singleton.mp z).symm)
 have hpkH : H pk = none := hF1.back (M := [b]) (fun z => hpkb.1 (List.mem_singleton.mp z)) hpk
 have F5 : Fr [b] H (upd H4 pk (.dK kv1)) := F4.over hpkH
 generalize upd H4 pk (.dK kv1) = H5 at *
 repeat walk_at "fs"
 refine ⟨le_of (by simp), fun pl3 hpl3 => ?_⟩
 have e6 : Fr [] H5 (upd H5 pl3 (.lst [.str "number", .str "flag", .str "word", .str "number"])) := Fr.new hpl3
 have h6 : (upd H5 pl3 (.lst [V.str "number", .str "flag", .str "word", .str "number"])) pl3 = some (.lst [.str "number", .str "flag", .str "word", .str "number"]) := upd_same
 have h56 := e6.at h5 (fun z => nomatch z)
 have h36 := e6.at h35 (fun z => nomatch z)
 have h46 := e6.at h45 (fun z => nomatch z)
 have hn6 := e6.at hn5 (fun z => nomatch z)
 have hB6 := hB5.fr0 e6
 have F6 := F5.trans e6.nil
 generalize upd H5 pl3 (.lst [V.str "number", .str "flag", .str "word", .str "number"]) = H6 at *
 try dsimp only
 repeat walk_at "fs"
 refine g_dputS h56 (by omega) ?_
 have nopk6 : ∀ {l : Addr} {xs : List V}, H6 l = some (.lst xs) → l ≠ pk := fun h e => by rw [e, h56] at h; cases h
 have e7 : Fr [pk] H6 (upd H6 pk (.dK (putK kv1 (Sum.inr (w0 ++ "." ++ w3 ++ "." ++ w4)) (.ref pl3)))) := Fr.mut (List.mem_singleton.mpr rfl) h56 nofix_dK
 have h7 : (upd H6 pk (.dK (putK kv1 (Sum.inr (w0 ++ "." ++ w3 ++ "." ++ w4)) (.ref pl3)))) pk = some (.dK (putK kv1 (Sum.inr (w0 ++ "." ++ w3 ++ "." ++ w4)) (.ref pl3))) := upd_same
 have h37 := e7.at h36 (fun z => nopk6 h36 (List.mem_singleton.mp z))
 have h47 := e7.at h46 (fun z => nopk6 h46 (List.mem_singleton.mp z))
 have h67 := e7.at h6 (fun z => nopk6 h6 (List.mem_singleton.mp z))
 have hn7 := e7.at hn6 (fun z => nopk6 hn6 (List.mem_singleton.mp z))
 have hB7 := hB6.fr e7 (fun z => hpkb.1 (List.mem_singleton.mp z).symm) (fun z => hpkb.2 (List.mem_singleton.mp z).symm)
 have F7 : Fr [b] H (upd H6 pk (.dK (putK kv1 (Sum.inr (w0 ++ "." ++ w3 ++ "." ++ w4)) (.ref pl3)))) := F6.over hpkH
 have hK7 : KindsAt (upd H6 pk (.dK (putK kv1 (Sum.inr (w0 ++ "." ++ w3 ++ "." ++ w4)) (.ref pl3)))) pk := by
  refine ⟨_, h7, Nat.le_trans putK_len (by omega), putK_ne, fun kv hkv => ?_⟩
  rcases putK_mem hkv with hkv | rfl
  ·rw [hkv1] at hkv
   rcases mergeK_mem hkv with hkv | hkv
   ·cases hkv
   ·simp only [List.mem_cons, List.not_mem_nil, or_false] at hkv
    rcases hkv with rfl | rfl
    ·exact ⟨_, pl1, ["number", "word"], rfl, h37, .two v0 v1, by decide, by decide, fun k hk => by
     simp only [List.mem_cons, List.not_mem_nil, or_false] at hk
     exact hk.elim (fun e => .inl e) (fun e => .inr (.inr e))⟩
    ·exact ⟨_, pl2, ["number"], rfl, h47, .one v2, by decide, by decide, fun k hk => .inl (List.mem_singleton.mp hk)⟩
  ·exact ⟨_, pl3, ["number", "flag", "word", "number"], rfl, h67, .three v0 v3 v4, by decide, by decide, fun k hk => by
    simp only [List.mem_cons, List.not_mem_nil, or_false] at hk
    rcases hk with e | e | e | e
    ·exact .inl e
    ·exact .inr (.inl e)
    ·exact .inr (.inr e)
    ·exact .inl e⟩
 generalize upd H6 pk (.dK (putK kv1 (Sum.inr (w0 ++ "." ++ w3 ++ "." ++ w4)) (.ref pl3))) = H7 at *
 walk_at "q"
 refine ⟨b, cs, _, rfl, hB7, by decide, by decide, fun dd H8 d0 d1 hB8 hF8 => ?_⟩
 have hK8 := hK7.frb hB7 hF8
 obtain ⟨n, rfl⟩ : ∃ n : Nat, dd = (n : Int) := ⟨dd.toNat, by omega⟩
 have hn8 := hF8.at hn7 hpnb
 walk_at "q"
 refine ⟨b, cs, pk, pk, n, true, rfl, by omega, hB8, hK8, hK8, fun p pt d us ps vd H9 hp hpt hts hpl hpw hV9 hG9 hd9 hB9 hF9 => ?_⟩
 have hn9 := hF9.at hn8 hpnb
 have F9 := (F7.trans hF8).trans hF9
 walk_at "q"
 refine ⟨b, cs, _, rfl, hB9, by decide, by decide, fun dd H10 e0 e1 hB10 hF10 => ?_⟩
 obtain ⟨m, rfl⟩ : ∃ m : Nat, dd = (m : Int) := ⟨dd.toNat, by omega⟩
 have hdb := hV9.ne hB9
 have hdM : d ∉ [b] := fun z => hdb.1 (List.mem_singleton.mp z)
 have hV10 := hV9.fr hF10 hdM
 have hn10 := hF10.at hn9 hpnb
 have F10 := F9.trans hF10
 have hpt10 := hF10.tup hpt
 have hts10 := hts.fr hF10
 walk_at "q"
 refine ⟨_, rfl, by omega, by omega, fun D hD => lc_it (walk_range (lo := 0) (n := 1 + m)) (fun i H' => BagAt H' b cs ∧ Fr [b] H10 H' ∧ ∃ (us : List V) (as : List ArgE), H' D = some (.lst us) ∧ TdAll K H' us (as.map ArgE.d) ∧ as.length = i ∧ ∀ a ∈ as, ArgW a)
  ⟨hB10.fr0 (Fr.new hD), Fr.new hD, [], [], upd_same, .nil, rfl, (fun _ z => nomatch z)⟩ (fun i H' _ h => trivial) (fun i x H' H'' hi h y => ?_) (fun H11 h => ?_)⟩
 ·obtain ⟨rfl, rfl⟩ := y
  obtain ⟨hBi, hFi, ys, as, hDi, htd, hasl, haw⟩ := h
  have hDb := hB10.some hD
  have hDM : D ∉ [b] := fun z => hDb.1 (List.mem_singleton.mp z)
  walk_at "q"
  refine ⟨rfl, ?_⟩
  walk_at "q"
  refine ⟨le_of (by simp), fun p1 hp1 => ?_⟩
  have e1 : Fr [] H'' (upd H'' p1 (.lst [.str "number", .str "word", .str "flag"])) := Fr.new hp1
  have h1 : (upd H'' p1 (.lst [V.str "number", .str "word", .str "flag"])) p1 = some (.lst [.str "number", .str "word", .str "flag"]) := upd_same
  have hb1 := (hBi.some hp1).1
  have hBj := hBi.fr0 e1
  have hFj := hFi.trans e1.nil
  have hDj := e1.at hDi (fun z => nomatch z)
  have htj := htd.fr e1
  generalize upd H'' p1 (.lst [V.str "number", .str "word", .str "flag"]) = Hj at *
  walk_at "q"
  refine ⟨b, cs, p1, _, rfl, hBj, .inl ⟨SqL.of h1, hb1⟩, by decide, by decide, fun kv H2 hkv hB2 hF2 => ?_⟩
  obtain ⟨k, rfl, hk⟩ : ∃ k : Str, kv = .str k ∧ KindW k := by
   simp only [List.mem_cons, List.not_mem_nil, or_false] at hkv
   rcases hkv with rfl | rfl | rfl
   ·exact ⟨_, rfl, .inl rfl⟩
   ·exact ⟨_, rfl, .inr (.inr rfl)⟩
   ·exact ⟨_, rfl, .inr (.inl rfl)⟩
  walk_at "q"
  refine ⟨b, cs, d, k, vd, rfl, hk, hB2, (hV10.fr hFj hdM).fr hF2 hdM, fun x H3 hx hB3 hF3 => ?_⟩
  obtain ⟨ex, hex, htx⟩ := hx.w hG9
  have hD3 := hF3.at (hF2.at hDj hDM) hDM
  have hl3 : ys.length = as.length := (tda_get htj).1
  have eD : Fr [D] H3 (upd H3 D (.lst (ys ++ [.ref x]))) := Fr.mut (List.mem_singleton.mpr rfl) hD3 nofix_lst
  refine ⟨ys, hD3, lt_of (by omega), hB3.fr eD (fun z => hDb.1 (List.mem_singleton.mp z).symm) (fun z => hDb.2 (List.mem_singleton.mp z).symm), ((hFj.trans hF2).trans hF3).over hD, ys ++ [.ref x], as ++ [.s ex], upd_same, ?_, by rw [List.length_append, hasl]; rfl, fun a ha => ?_⟩
  ·rw [List.map_append]
   exact (tda_snoc ((htj.fr hF2).fr hF3) (show Td K H3 (.ref x) (ArgE.d (.s ex)) from htx)).fr eD
  ·rcases List.mem_append.mp ha with ha | ha
   ·exact haw a ha
   ·rw [List.mem_singleton.mp ha]; exact .s hex
 ·obtain ⟨hB11, hF11, ys, as, hD11, htd, hasl, haw⟩ := h
  have hDb := hB10.some hD
  have hDM : D ∉ [b] := fun z => hDb.1 (List.mem_singleton.mp z)
  have hV11 := hV10.fr hF11 hdM
  have hn11 := hF11.at hn10 hpnb
  have F11 := F10.trans hF11
  have hDH : H D = none := F10.back hDM hD
  have fin : ∀ (H12 : Hp) (ys : List V) (as : List ArgE), BagAt H12 b cs → Fr [b] H H12 → H12 D = some (.lst ys) → TdAll K H12 ys (as.map ArgE.d) → as.length = 1 + m → (∀ a ∈ as, ArgW a) → SqT K H12 pt us → TdAll K H12 us (ps.map PartE.d) → H12 pn = some (.lst [.str w0, .str w1, .str w2, .str w3, .str w4, .str w5]) →
    ∀ (l r p : Addr) (H13 : Hp), H12 l = none → Fr [] (upd H12 l (.tup ys)) H13 → SqT K H13 r (us.take 6) → H13 p = none → Q (.ref p) (upd H13 p (.tup [.str w5, .ref l, .ref r])) := by
   intro H12 ys as hB12 hF12 hD12 htd hasl haw hpt hts hn l r p H13 hl he hr hp
   have ep : Fr [] H13 (upd H13 p (.tup [.str w5, .ref l, .ref r])) := Fr.new hp
   have el : Fr [] H12 (upd H12 l (.tup ys)) := Fr.new hl
   have ea := (el.trans he).trans ep
   refine q _ (w5, as, ps.take 6) _ (.tup (SqT.of upd_same) (.cons (.str _) (.cons (.tup (ep.tup (he.tup (SqT.of upd_same))) (htd.fr ea)) (.cons (.tup (ep.tup hr) ((tda_take hts 6).fr ea)) .nil)))) ⟨v5, ?_, ?_, haw, ?_, fun x hx => hpw x (List.mem_of_mem_take hx)⟩ (hB12.fr0 ea) (hF12.trans ea.nil)
   ·show 1 ≤ as.length
    omega
   ·show as.length ≤ 4
    omega
   ·show (ps.take 6).length ≤ 6
    rw [List.length_take]; omega
  walk_at "q"
  refine ⟨b, cs, _, rfl, hB11, by decide, by decide, fun dd H12 f0 f1 hB12 hF12 => ?_⟩
  have hD12 := hF12.at hD11 hDM
  have ht12 := htd.fr hF12
  have hV12 := hV11.fr hF12 hdM
  have hn12 := hF12.at hn11 hpnb
  have F12 := F11.trans hF12
  have hpt12 := hF12.tup (hF11.tup hpt10)
  have hts12 := (hts10.fr hF11).fr hF12
  have hyl : ys.length = as.length := (tda_get ht12).1
  walk_at "q"
  refine g_by (fun c => ?_) (fun c => ?_)
  ·walk_at "q"
   refine ⟨b, cs, d, vd, rfl, hB12, hV12, hG9, fun v t H13 ht htw hB13 hF13 => ?_⟩
   have hD13 := hF13.at hD12 hDM
   have ht13 := ht12.fr hF13
   have hn13 := hF13.at hn12 hpnb
   have hpt13 := hF13.tup hpt12
   have hts13 := hts12.fr hF13
   have F13 := F12.trans hF13
   walk_at "q"
   refine ⟨b, cs, _, rfl, hB13, by omega, Int.lt_of_le_of_lt (b := 1000) (by omega) (by decide), fun dj H14 g0 g1 hB14 hF14 => ?_⟩
   obtain ⟨j, rfl⟩ : ∃ j : Nat, dj = (j : Int) := ⟨dj.toNat, by omega⟩
   have hD14 := hF14.at hD13 hDM
   have ht14 := ht13.fr hF14
   have hj : j < ys.length := by omega
   refine g_setL (j := j) hD14 (by unfold ixN; simp; omega) ?_
   have eD : Fr [D] H14 (upd H14 D (.lst (ys.set j v))) := Fr.mut (List.mem_singleton.mpr rfl) hD14 nofix_lst
   have hD15 : (upd H14 D (.lst (ys.set j v))) D = some (.lst (ys.set j v)) := upd_same
   have hB15 := hB14.fr eD (fun z => hDb.1 (List.mem_singleton.mp z).symm) (fun z => hDb.2 (List.mem_singleton.mp z).symm)
   have F15 : Fr [b] H (upd H14 D (.lst (ys.set j v))) := (F13.trans hF14).over hDH
   have ht15 := (tda_set ht14 (j := j) (v := v) (x := t) (ht.fr hF14)).fr eD
   have hpD : pn ≠ D := fun e => by rw [← e] at hD; rw [hD] at hn10; cases hn10
   have hn15 := eD.at (hF14.at hn13 hpnb) (fun z => hpD (List.mem_singleton.mp z))
   have hpt15 := eD.tup (hF14.tup hpt13)
   have hts15 := (hts13.fr hF14).fr eD
   generalize upd H14 D (.lst (ys.set j v)) = H15 at *
   have haw15 : ∀ a ∈ as.set j t, ArgW a := fun a ha => by
    rcases List.mem_or_eq_of_mem_set ha with ha | rfl
    ·exact haw a ha
    ·exact htw
   walk_at "q"
   refine g_tupleL (SqL.of hD15) fun l hl => ?_
   have hpl := (Fr.new (M := []) (o := .tup (ys.set j v)) hl).tup hpt15
   walk_at "q"
   refine g_slA hpl fun r H16 he hr => ?_
   walk_at "q"
   refine ⟨le_of (by simp), fun p hp => ?_⟩
   rw [show cutV us none (some 6) = us.take 6 from cut0 us 6] at hr
   exact fin _ (ys.set j v) (as.set j t) hB15 F15 hD15 ht15 (by rw [List.length_set]; exact hasl) haw15 hpt15 hts15 hn15 l r p H16 hl he hr hp
  ·walk_at "q"
   refine g_tupleL (SqL.of hD12) fun l hl => ?_
   have hpl := (Fr.new (M := []) (o := .tup ys) hl).tup hpt12
   walk_at "q"
   refine g_slA hpl fun r H16 he hr => ?_
   walk_at "q"
   refine ⟨le_of (by simp), fun p hp => ?_⟩
   rw [show cutV us none (some 6) = us.take 6 from cut0 us 6] at hr
   exact fin _ ys as hB12 F12 hD12 ht12 hasl haw hpt12 hts12 hn12 l r p H16 hl he hr hp
end
def fullP : PartE → PartE
 | .atom no x ts => if (!(Builtin.Str.occurrences x "." 0 x.length 1).isEmpty) then .atom no x ts else .atom no ("q." ++ x) ts
 | p => p
def spFull (K : PySem.W.Frag) : Sp := fun vs H Q _ => ∃ (v : V) (ps : List PartE), vs = [v] ∧ Td K H v (partsD ps) ∧ ps.length ≤ 6 ∧ (∀ p ∈ ps, PartW p) ∧ ∀ (u : V) (H' : Hp), Fr [] H H' → Td K H' u (partsD (ps.map fullP)) → Q u H'
abbrev s__law_full_parts : Stmt := topS 45
theorem sc__law_full_parts : FnScope ["_law_parts", "_law_found", "_law_part"] ["_law_parts"] (defScope s__law_full_parts) := ⟨rfl, rfl, rfl, by decide +kernel, rfl, by decide +kernel, by decide +kernel⟩
abbrev s__law_rule_text : Stmt := topS 34
theorem sc__law_rule_text : FnScope ["_law_rule", "_law_text"] ["_law_rule"] (defScope s__law_rule_text) := ⟨rfl, rfl, rfl, by decide +kernel, rfl, by decide +kernel, by decide +kernel⟩
abbrev s__law_asking : Stmt := topS 35
theorem sc__law_asking : FnScope ["_law_question"] ["_law_question"] (defScope s__law_asking) := ⟨rfl, rfl, rfl, by decide +kernel, rfl, by decide +kernel, by decide +kernel⟩
section
variable {P : Program} {w : World} {K : PySem.W.Frag} {mg : Str → Option Value} {base : Heap}
theorem ok__law_rule_text {f : Addr} {fd : FuncData} (F : FnP K "_law_rule_text" s__law_rule_text f fd) (C__law_listed : CalG P w K mg base 15 "_law_listed" (spListed K)) :
  FnG P w K mg base CX0 16 f fd ["_law_rule"] (spTx K ruleD ruleG fun r => ruleT r.1 r.2.1 r.2.2) := by
 refine okG F sc__law_rule_text (fun vs H Q E h => ?_) (fun cdv A outer s H vs Q E hr h => ?_)
 ·obtain ⟨v, a, rfl, _⟩ := h
  rfl
 obtain ⟨v, ⟨hd, as, ps⟩, rfl, hv, ⟨ha1, ha2, ha3⟩, q⟩ := h
 obtain ⟨p, y1, y2, y3, rfl, hp, h1, h2, h3⟩ := Td.t3 (show Td K H v (.tuple [.str hd, argsD as, partsD ps]) from hv)
 cases h1.str_inv
 obtain ⟨r, us, rfl, hr3, ht⟩ := Td.tuple_inv (show Td K H y3 (.tuple (ps.map PartE.d)) from h3)
 refine ⟨_, PSs.nox (pss_cons (ps_set (i := 1) sc__law_rule_text.nd rfl (.inl rfl) (pe_op (kOp (K := K) (r := uAdd) rfl opu_add) (pe_op (kOp (K := K) (r := uAdd) rfl opu_add) (pe_op (kOp (K := K) (r := uAdd) rfl opu_add) (pe_ix (kIx (K := K) (r := rIx) rfl ix_seq) (pv 0) pe_int (fun _ _ => rfl)) pe_str) (pe_calG C__law_listed hr rfl (pa_cons (pe_ix (kIx (K := K) (r := rIx) rfl ix_seq) (pv 0) pe_int (fun _ _ => rfl)) (pa_cons pe_bl pa_nil)))) pe_str))
 (pss_one (ps_ret (pe_ifExp (pt_cmpR (kOp (K := K) (r := uEq) rfl (opu_eq hr.units)) (pe_ix (kIx (K := K) (r := rIx) rfl ix_seq) (pv 0) pe_int (fun _ _ => rfl)) (pe_tup pa_nil) (nomark _)) (pv 1) (pe_op (kOp (K := K) (r := uAdd) rfl opu_add) (pe_op (kOp (K := K) (r := uAdd) rfl opu_add) (pv 1) pe_str) (pe_calG C__law_listed hr rfl (pa_cons (pe_ix (kIx (K := K) (r := rIx) rfl ix_seq) (pv 0) pe_int (fun _ _ => rfl)) (pa_cons pe_bl pa_nil)))))))), rd_start (σ0 := [some (.ref p), none]) rfl ?_⟩
 have l0 : hd.length ≤ 12 := ha1.len
 have l1 : (argsT as).length ≤ 344 := ha2.tx.len
 have l2 : (partsT ps).length ≤ 1936 := ha3.tx.len
 repeat walk_at "fs"
 refine .inl ⟨y2, as, rfl, h2, ha2, fun H1 e1 => ?_⟩
 have hp1 := e1.tup hp
 repeat walk_at "fs"
 refine ⟨le_of (by decide), fun p2 hp2 => ?_⟩
 have e2 : Fr [] H1 (upd H1 p2 (.tup [])) := Fr.new hp2
 have hp2' : (upd H1 p2 (.tup [])) p2 = some (.tup []) := upd_same
 have hpp := e2.tup hp1
 generalize upd H1 p2 (.tup []) = H2 at *
 refine g_eqET ((e1.trans e2).tup hr3) (SqT.of hp2') ?_
 have en : decide (us = []) = decide (ps = []) := by
  have := (tda_get ht).1
  cases us with
  | nil => cases ps with
   | nil => rfl
   | cons => simp at this
  | cons => cases ps with
   | nil => simp at this
   | cons => rfl
 rw [en]
 repeat walk_at "fs"
 refine g_by (fun c => ?_) (fun c => ?_)
 ·walk_at "q"
  have z : Q (.str (ruleT hd as ps)) H2 := q _ (e1.trans e2)
  unfold ruleT at z
  rw [if_pos c] at z
  exact z
 ·repeat walk_at "fs"
  refine .inr ⟨_, ps, rfl, h3.fr (e1.trans e2), ha3, fun H3 e3 => ?_⟩
  repeat walk_at "fs"
  have z : Q (.str (ruleT hd as ps)) H3 := q _ ((e1.trans e2).trans e3)
  unfold ruleT at z
  rw [if_neg c] at z
  exact z
theorem ok__law_asking {f : Addr} {fd : FuncData} (F : FnP K "_law_asking" s__law_asking f fd) (C__law_listed : CalG P w K mg base 15 "_law_listed" (spListed K)) :
  FnG P w K mg base CX0 16 f fd ["_law_question"] (spTx K questD questG fun r => questT r.1 r.2) := by
 refine okG F sc__law_asking (fun vs H Q E h => ?_) (fun cdv A outer s H vs Q E hr h => ?_)
 ·obtain ⟨v, a, rfl, _⟩ := h
  rfl
 obtain ⟨v, ⟨as, ps⟩, rfl, hv, ha, q⟩ := h
 obtain ⟨p, y1, y2, rfl, hp, h1, h2⟩ := Td.t2 (show Td K H v (.tuple [argsD as, partsD ps]) from hv)
 refine ⟨_, PSs.nox (pss_one (ps_ret (pe_op (kOp (K := K) (r := uAdd) rfl opu_add) (pe_op (kOp (K := K) (r := uAdd) rfl opu_add) (pe_calG C__law_listed hr rfl (pa_cons (pe_ix (kIx (K := K) (r := rIx) rfl ix_seq) (pv 0) pe_int (fun _ _ => rfl)) (pa_cons pe_bl pa_nil))) pe_str) (pe_calG C__law_listed hr rfl (pa_cons (pe_ix (kIx (K := K) (r := rIx) rfl ix_seq) (pv 0) pe_int (fun _ _ => rfl)) (pa_cons pe_bl pa_nil)))))), rd_start (σ0 := [some (.ref p)]) rfl ?_⟩
 have l1 : (argsT as).length ≤ 344 := ha.1.tx.len
 have l2 : (partsT ps).length ≤ 1936 := ha.2.tx.len
 repeat walk_at "fs"
 refine .inl ⟨y1, as, rfl, h1, ha.1, fun H1 e1 => ?_⟩
 have hp1 := e1.tup hp
 repeat walk_at "fs"
 refine .inr ⟨y2, ps, rfl, h2.fr e1, ha.2, fun H2 e2 => ?_⟩
 repeat walk_at "fs"
 exact q _ (e1.trans e2)
theorem ok__law_full_parts {f : Addr} {fd : FuncData} (F : FnP K "_law_full_parts" s__law_full_parts f fd) (B : BiR mg) : FnG P w K mg base CX0 16 f fd ["_law_parts"] (spFull K) := by
  refine okG F sc__law_full_parts (fun vs H Q E h => ?_) (fun cdv A outer s H vs Q E hr h => ?_)
  · obtain ⟨v, a, rfl, _⟩ := h
    rfl
  obtain ⟨v, ps, rfl, hv, hpl, hpw, q⟩ := h
  obtain ⟨r, us, rfl, hr3, ht⟩ := Td.tuple_inv (show Td K H v (.tuple (ps.map PartE.d)) from hv)
  obtain ⟨k1, k2⟩ := tda_get ht
  refine ⟨_, PSs.nox (pss_cons (ps_set (i := 1) sc__law_full_parts.nd rfl (.inl rfl) (pe_lst pa_nil))
  (pss_cons (ps_for PassesOwn.never rfl (pi_tupK (K := K) rfl (pv 0)) (pg_name (i := 2) sc__law_full_parts.nd rfl (by first | exact Or.inl rfl | exact Or.inr rfl)) (pss_cons (ps_if (PW.pt (pw_and (pt_cmpR (kOp (K := K) (r := uIn) rfl opu_in) (pe_ix (kIx (K := K) (r := rIx) rfl ix_seq) (pv 2) pe_int (fun _ _ => rfl)) (pe_tup (pa_cons pe_str (pa_cons pe_str pa_nil))) (by rfl)) (pw_and1 (pt_cmpR (kOp (K := K) (r := uNotIn) rfl opu_notIn) pe_str (pe_ix (kIx (K := K) (r := rIx) rfl ix_seq) (pv 2) pe_int (fun _ _ => rfl)) (by rfl))))) (pss_one (ps_set (i := 2) sc__law_full_parts.nd rfl (.inl rfl) (pe_tup (pa_cons (pe_ix (kIx (K := K) (r := rIx) rfl ix_seq) (pv 2) pe_int (fun _ _ => rfl)) (pa_cons (pe_op (kOp (K := K) (r := uAdd) rfl opu_add) pe_str (pe_ix (kIx (K := K) (r := rIx) rfl ix_seq) (pv 2) pe_int (fun _ _ => rfl))) (pa_cons (pe_ix (kIx (K := K) (r := rIx) rfl ix_seq) (pv 2) pe_int (fun _ _ => rfl)) pa_nil)))))) pss_nil)
  (pss_one (ps_expr (kBM (K := K) rfl (pe_bm PySem.F.plainAttrs_list PySem.F.slot_list_append PySem.F.type_list_append mt_append (pv 1) (pa_cons (pv 2) pa_nil)))))))
  (pss_one (ps_ret (pe_callTy (kCall (K := K) (r := uTuple) rfl callu_tuple) (by rfl) B.b_tuple (by decide +kernel) (pa_cons (pv 1) pa_nil)))))), rd_start (σ0 := [some (.ref r), none, none]) rfl ?_⟩
  walk_at "q"
  refine ⟨le_of (by simp), fun D hD => ?_⟩
  have hD0 : (upd H D (.lst [])) D = some (.lst []) := upd_same
  have e0 : Fr [] H (upd H D (.lst [])) := Fr.new hD
  generalize upd H D (.lst []) = H0 at *
  walk_at "q"
  refine ⟨r, rfl, ⟨_, e0.tup hr3⟩, for_tup (xs := us) (fun i σ H' => (∃ z, σ = [some (.ref r), some (.ref D), z]) ∧ Fr [] H H' ∧ ∃ ys, H' D = some (.lst ys) ∧ TdAll K H' ys ((ps.take i).map (fun p => (fullP p).d)) ∧ ys.length = i) ⟨⟨_, rfl⟩, e0, [], hD0, .nil, rfl⟩ (fun i σ H' _ h => h.2.1.tup hr3) (fun i x σ H1 hx h => ?_) (fun σ H1 h => ?_)⟩
  · obtain ⟨⟨z, rfl⟩, e1, ys, hy, hty, hyl⟩ := h
    obtain ⟨p, hp, htp⟩ := k2 i x hx
    have htp := htp.fr e1
    have fin : ∀ (H2 : Hp) (u : V), Fr [] H H2 → H2 D = some (.lst ys) → TdAll K H2 ys ((ps.take i).map (fun p => (fullP p).d)) → Td K H2 u (fullP p).d →
        Fr [] H (upd H2 D (.lst (ys ++ [u]))) ∧ ∃ ys', (upd H2 D (.lst (ys ++ [u]))) D = some (.lst ys') ∧ TdAll K (upd H2 D (.lst (ys ++ [u]))) ys' ((ps.take (i + 1)).map (fun p => (fullP p).d)) ∧ ys'.length = i + 1 := by
      intro H2 u e2 h2 h3 h4
      have eD : Fr [D] H2 (upd H2 D (.lst (ys ++ [u]))) := Fr.mut (List.mem_singleton.mpr rfl) h2 nofix_lst
      refine ⟨e2.over hD, ys ++ [u], upd_same, ?_, by rw [List.length_append, hyl]; rfl⟩
      rw [List.take_succ, hp, List.map_append]
      exact (tda_snoc h3 h4).fr eD
    have lty : ys.length < sizeLine := lt_of (by have := (List.getElem?_eq_some_iff.mp hx).1; omega)
    have hpw' := hpw p (List.mem_of_getElem? hp)
    have two : ∀ (H : Hp) (z : Str) (A : V → Hp → Prop), (∀ H', Fr [] H H' → A (.bl (decide (z ∈ (["atom", "not"] : List Str)))) H') → ∀ p, H p = none → uIn K (.str z) (.ref p) (upd H p (.tup [.str "atom", .str "not"])) A := fun H z A k p hp => by
      refine g_inT (xs := (["atom", "not"] : List Str).map V.str) (.inr (SqT.of upd_same)) (flat_strs _) ?_
      rw [inV_str]
      exact k _ (Fr.new hp)
    have other : ∀ (hd : Str) (rest : List PyData), p.d = .tuple (.str hd :: rest) → hd ∉ (["atom", "not"] : List Str) → fullP p = p → ∃ a xs, x = .ref a ∧ SqT K H1 a (.str hd :: xs) := fun hd rest e1 e2 e3 => by
      rw [e1] at htp
      obtain ⟨a, xs, rfl, ha, hxs⟩ := htp.tuple_inv
      obtain ⟨v, ws, rfl, hv1, hv2⟩ := hxs.cons_inv
      cases hv1.str_inv
      exact ⟨a, ws, rfl, ha⟩
    have plain : ∀ (hd : Str) (rest : List PyData), p.d = .tuple (.str hd :: rest) → hd ∉ (["atom", "not"] : List Str) → fullP p = p → True := fun _ _ _ _ _ => trivial
    cases hpw' with
    | @atom no y ts hy40 hyn h1 h4 htw =>
      obtain ⟨a, y1, y2, y3, rfl, ha, t1, t2, t3⟩ := Td.t3 (show Td K H1 x (.tuple [.str (if no then "not" else "atom"), .str y, .tuple (ts.map TermE.d)]) from htp)
      cases t1.str_inv
      cases t2.str_inv
      have hl := hy40.len
      walk_at "q"
      refine ⟨le_of (by simp), two _ _ _ fun H2 e2 => ?_⟩
      have ha2 := e2.tup ha
      have hy2 := e2.at hy (fun z => nomatch z)
      have hty2 := hty.fr e2
      rw [decide_eq_true (show (if no = true then ("not" : Str) else "atom") ∈ (["atom", "not"] : List Str) by cases no <;> decide +kernel)]
      walk_at "q"
      refine g_notInS ?_
      walk_at "q"
      have ef : fullP (.atom no y ts) = if (!(Builtin.Str.occurrences y "." 0 y.length 1).isEmpty) then .atom no y ts else .atom no ("q." ++ y) ts := rfl
      generalize (!(Builtin.Str.occurrences y "." 0 y.length 1).isEmpty) = bb at ef ⊢
      cases bb with
      | true =>
        walk_at "q"
        refine ⟨D, ys, _, rfl, rfl, hy2, lty, ?_⟩
        obtain ⟨a1, a2⟩ := fin H2 (.ref a) (e1.trans e2) hy2 hty2 (by rw [ef]; exact htp.fr e2)
        exact ⟨⟨_, rfl⟩, a1, a2⟩
      | false =>
        walk_at "q"
        refine g_addS (le_of (by have : ("q." : Str).length = 2 := by decide +kernel
                                 omega)) ?_
        walk_at "q"
        refine ⟨le_of (by simp), fun p3 hp3 => ?_⟩
        have e3 : Fr [] H2 (upd H2 p3 (.tup [.str (if no then "not" else "atom"), .str ("q." ++ y), y3])) := Fr.new hp3
        have hy3 := e3.at hy2 (fun z => nomatch z)
        have htx : Td K (upd H2 p3 (.tup [.str (if no then "not" else "atom"), .str ("q." ++ y), y3])) (.ref p3) (fullP (.atom no y ts)).d := by
          rw [ef]
          exact .tup (SqT.of upd_same) (.cons (.str _) (.cons (.str _) (.cons ((t3.fr e2).fr e3) .nil)))
        walk_at "q"
        refine ⟨D, ys, _, rfl, rfl, hy3, lty, ?_⟩
        obtain ⟨a1, a2⟩ := fin _ (.ref p3) ((e1.trans e2).trans e3) hy3 (hty2.fr e3) htx
        exact ⟨⟨_, rfl⟩, a1, a2⟩
    | @lt y e hy1 he =>
      obtain ⟨a, xs, rfl, ha⟩ := other "let" _ rfl (by decide +kernel) rfl
      walk_at "q"
      refine g_ixT ha (atI_nat (j := 0) rfl) ?_
      walk_at "q"
      refine ⟨le_of (by simp), two _ _ _ fun H2 e2 => ?_⟩
      have hy2 := e2.at hy (fun z => nomatch z)
      walk_at "q"
      refine ⟨D, ys, _, rfl, rfl, hy2, lty, ?_⟩
      obtain ⟨a1, a2⟩ := fin H2 (.ref a) (e1.trans e2) hy2 (hty.fr e2) (htp.fr e2)
      exact ⟨⟨_, rfl⟩, a1, a2⟩
    | @test sg x1 x2 hs h1 h2 =>
      obtain ⟨a, xs, rfl, ha⟩ := other "test" _ rfl (by decide +kernel) rfl
      walk_at "q"
      refine g_ixT ha (atI_nat (j := 0) rfl) ?_
      walk_at "q"
      refine ⟨le_of (by simp), two _ _ _ fun H2 e2 => ?_⟩
      have hy2 := e2.at hy (fun z => nomatch z)
      walk_at "q"
      refine ⟨D, ys, _, rfl, rfl, hy2, lty, ?_⟩
      obtain ⟨a1, a2⟩ := fin H2 (.ref a) (e1.trans e2) hy2 (hty.fr e2) (htp.fr e2)
      exact ⟨⟨_, rfl⟩, a1, a2⟩
  · obtain ⟨⟨z, rfl⟩, e1, ys, hy, hty, hyl⟩ := h
    walk_at "q"
    refine g_tupleL (SqL.of hy) fun p hp => ?_
    have ep : Fr [] H1 (upd H1 p (.tup ys)) := Fr.new hp
    rw [k1, List.take_length] at hty
    refine q _ _ (e1.trans ep) (.tup (SqT.of upd_same) ?_)
    rw [List.map_map]
    exact hty.fr ep
end
theorem PartW.full {p : PartE} (h : PartW p) : PartG (fullP p) := by
 cases h with
 | @atom no x ts hx _ _ hl h =>
  unfold fullP
  dsimp only
  split
  ·exact .atom (hx.mono (by decide)) hl fun t ht => (h t ht).g
  ·exact .atom (((Tx.lit (n := 2) (t := "q.") (by decide +kernel)).app hx).mono (by decide)) hl fun t ht => (h t ht).g
 | lt hx h => exact .lt hx.1.tx h.g
 | test hs h k => exact .test (testL_tx hs) h.g k.g
def vdA : List (Str × Str) := [("x", "number"), ("y", "number")]
def vdB : List (Str × Str) := [("x", "number"), ("u", "word")]
theorem vdA_g : VdG vdA := ⟨by decide, fun p hp => by
 simp only [vdA, List.mem_cons, List.not_mem_nil, or_false] at hp
 rcases hp with rfl | rfl
 ·exact ⟨varB_ok (by decide +kernel), .inl rfl⟩
 ·exact ⟨varB_ok (by decide +kernel), .inl rfl⟩⟩
theorem vdB_g : VdG vdB := ⟨by decide, fun p hp => by
 simp only [vdB, List.mem_cons, List.not_mem_nil, or_false] at hp
 rcases hp with rfl | rfl
 ·exact ⟨varB_ok (by decide +kernel), .inl rfl⟩
 ·exact ⟨varB_ok (by decide +kernel), .inr (.inr rfl)⟩⟩
theorem vdA_merge : mergeK [] (kvOf vdA) = kvOf vdA := mergeK_nd (acc := []) (by
 show ([(Sum.inr "x" : Key), Sum.inr "y"]).Nodup
 decide +kernel)
theorem vdB_merge : mergeK [] (kvOf vdB) = kvOf vdB := mergeK_nd (acc := []) (by
 show ([(Sum.inr "x" : Key), Sum.inr "u"]).Nodup
 decide +kernel)
theorem VdG.at_ {vd : List (Str × Str)} (h : VdG vd) {H : Hp} {d : Addr} (e : H d = some (.dK (kvOf vd))) : VarsAt H d vd := ⟨e, by have := h.len; omega, fun p hp => (h.ok p hp).1.ok⟩
def spLaw (K : PySem.W.Frag) : Sp := fun vs H Q _ => ∃ (a : Addr) (ns : List Int), vs = [.ref a] ∧ SqL K H a (ns.map V.int) ∧ ns.length ≤ 63 ∧ ∀ H', Q (.bl true) H'
abbrev s_law : Stmt := topS 46
theorem sc_law : FnScope ["_law_script", "_law_bag_here", "_law_k", "_law_rule", "_law_question", "_law_thing", "_law_tests", "_law_j"] ["_law_script"] (defScope s_law) := ⟨rfl, rfl, rfl, by decide +kernel, rfl, by decide +kernel, by decide +kernel⟩
structure BiK (mg : Str → Option Value) : Prop where
 b_range : mg "range" = none
 b_tuple : mg "tuple" = none
section
variable {P : Program} {w : World} {K : PySem.W.Frag} {mg : Str → Option Value} {base : Heap}
theorem ok_law {f : Addr} {fd : FuncData} (F : FnP K "law" s_law f fd) (B : BiK mg) (C__law_bag : CalG P w K mg base 10 "_law_bag" (spBag K)) (C__law_any_rule : CalG P w K mg base 63 "_law_any_rule" (spAnyRule K)) (C__law_same : CalG P w K mg base 3 "_law_same" (spSame K 3))
  (C_rule_text : CalG P w K mg base 16 "rule_text" (spTx K ruleD ruleG fun r => ruleT r.1 r.2.1 r.2.2)) (C__law_rule_text : CalG P w K mg base 16 "_law_rule_text" (spTx K ruleD ruleG fun r => ruleT r.1 r.2.1 r.2.2)) (C__law_full_parts : CalG P w K mg base 16 "_law_full_parts" (spFull K))
  (C_question_text : CalG P w K mg base 16 "question_text" (spTx K questD questG fun r => questT r.1 r.2)) (C__law_asking : CalG P w K mg base 16 "_law_asking" (spTx K questD questG fun r => questT r.1 r.2)) (C__law_sum : CalG P w K mg base 55 "_law_sum" (spSum K 5))
  (C_sum_text : CalG P w K mg base 11 "sum_text" (spSumT K 5)) (C__law_sum_text : CalG P w K mg base 11 "_law_sum_text" (spSumT K 5)) (C__law_test : CalG P w K mg base 61 "_law_test" (spTest K)) (C__law_pull : CalG P w K mg base 10 "_law_pull" spPull)
  (C_tests_text : CalG P w K mg base 16 "tests_text" (spTx K partsD partsG partsT)) (C__law_listed : CalG P w K mg base 15 "_law_listed" (spListed K)) :
  FnG P w K mg base CX0 100 f fd ["_law_script"] (spLaw K) := by
 refine okG F sc_law (fun vs H Q E h => ?_) (fun cdv A outer s H vs Q E hr h => ?_)
 ·obtain ⟨a, ns, rfl, _⟩ := h
  rfl
 obtain ⟨a, ns, rfl, hS, hl, q⟩ := h
 refine ⟨_, PSs.nox (pss_cons (ps_set (i := 1) sc_law.nd rfl (.inr rfl) (pe_calG C__law_bag hr rfl (pa_cons (pv 0) pa_nil)))
 (pss_cons (ps_for PassesOwn.never rfl (pi_range1 rfl B.b_range (pa_cons pe_int pa_nil)) (pg_name (i := 2) sc_law.nd rfl (by first | exact Or.inl rfl | exact Or.inr rfl)) (pss_cons (ps_set (i := 3) sc_law.nd rfl (.inl rfl) (pe_calG C__law_any_rule hr rfl (pa_cons (pv 1) pa_nil)))
 (pss_cons (ps_if (pt_not (pt_val (pe_calG C__law_same hr rfl (pa_cons (pe_calG C_rule_text hr rfl (pa_cons (pv 3) pa_nil)) (pa_cons (pe_calG C__law_rule_text hr rfl (pa_cons (pv 3) pa_nil)) pa_nil))))) (pss_one (ps_ret pe_bl)) pss_nil)
 (pss_cons (ps_set (i := 4) sc_law.nd rfl (.inl rfl) (pe_tup (pa_cons (pe_ix (kIx (K := K) (r := rIx) rfl ix_seq) (pv 3) pe_int (fun _ _ => rfl)) (pa_cons (pe_calG C__law_full_parts hr rfl (pa_cons (pe_ix (kIx (K := K) (r := rIx) rfl ix_seq) (pv 3) pe_int (fun _ _ => rfl)) pa_nil)) pa_nil))))
 (pss_cons (ps_if (PW.pt (pw_and (pt_cmpR (kOp (K := K) (r := uNe) rfl (opu_ne hr.units)) (pe_ix (kIx (K := K) (r := rIx) rfl ix_seq) (pv 4) pe_int (fun _ _ => rfl)) (pe_tup pa_nil) (nomark _)) (pw_and1 (pt_not (pt_val (pe_calG C__law_same hr rfl (pa_cons (pe_calG C_question_text hr rfl (pa_cons (pv 4) pa_nil)) (pa_cons (pe_calG C__law_asking hr rfl (pa_cons (pv 4) pa_nil)) pa_nil)))))))) (pss_one (ps_ret pe_bl)) pss_nil)
 (pss_cons (ps_set (i := 5) sc_law.nd rfl (.inl rfl) (pe_calG C__law_sum hr rfl (pa_cons (pv 1) (pa_cons (pe_disp (pps_cons pe_str pe_str (pps_cons pe_str pe_str pps_nil)) (by rfl) (by rfl) (fun z => by cases z) (by decide)) (pa_cons pe_int pa_nil)))))
 (pss_cons (ps_if (pt_not (pt_val (pe_calG C__law_same hr rfl (pa_cons (pe_calG C_sum_text hr rfl (pa_cons (pv 5) pa_nil)) (pa_cons (pe_calG C__law_sum_text hr rfl (pa_cons (pv 5) pa_nil)) pa_nil))))) (pss_one (ps_ret pe_bl)) pss_nil)
 (pss_cons (ps_set (i := 6) sc_law.nd rfl (.inl rfl) (pe_callTy (kCall (K := K) (r := uTuple) rfl callu_tuple) (by rfl) B.b_tuple (by decide +kernel) (pa_cons (pe_lc (own := [("_law_j", 7)]) (g := gName 7) (tt := tYes) rfl sc_law.nd (pi_range1 rfl B.b_range (pa_cons (pe_calG C__law_pull hr rfl (pa_cons (pv 1) (pa_cons pe_int pa_nil))) pa_nil)) (blkOk_by (own := [("_law_j", 7)]) (N := ["_law_script", "_law_bag_here", "_law_k", "_law_rule", "_law_question", "_law_thing", "_law_tests", "_law_j"]) (sc := defScope s_law) (by decide +kernel)) (fun _ _ _ _ _ => (by exact (pg_name (i := 7) sc_law.nd rfl (by first | exact Or.inl rfl | exact Or.inr rfl)))) (fun _ _ _ _ _ => pts_nil) (fun _ _ _ _ _ => (by exact (pe_calG C__law_test hr rfl (pa_cons (pv 1) (pa_cons (pe_disp (pps_cons pe_str pe_str (pps_cons pe_str pe_str pps_nil)) (by rfl) (by rfl) (fun z => by cases z) (by decide)) pa_nil)))))) pa_nil)))
 (pss_one (ps_if (pt_not (pt_val (pe_calG C__law_same hr rfl (pa_cons (pe_calG C_tests_text hr rfl (pa_cons (pv 6) pa_nil)) (pa_cons (pe_calG C__law_listed hr rfl (pa_cons (pv 6) (pa_cons pe_bl pa_nil))) pa_nil))))) (pss_one (ps_ret pe_bl)) pss_nil))))))))))
 (pss_one (ps_ret pe_bl)))), rd_start (σ0 := [some (.ref a), none, none, none, none, none, none, none]) rfl ?_⟩
 have same : ∀ {H : Hp} {t : Str} {Q : VK} {E : XK} {n : Nat}, Tx n t → n ≤ 9000 → (∀ H', Fr [] H H' → Q (.bl true) H') → spSame K 3 ([.str t, .str t] ++ []) H Q E := fun {H t Q E n} ht hn k => ⟨.str t, .str t, .str t, rfl, .str t, .str t, ht.short hn, k⟩
 walk_at "q"
 refine ⟨a, ns, rfl, hS, hl, fun b cs H1 hF1 hb1 hB1 => ?_⟩
 walk_at "q"
 refine ⟨6, rfl, by decide, by decide, for_range (lo := 0) (n := 6) (fun i σ H' => BagAt H' b cs ∧ ∃ z1 z2 z3 z4 z5 z6, σ = [some (.ref a), some (.ref b), z1, z2, z3, z4, z5, z6]) ⟨hB1, _, _, _, _, _, _, rfl⟩ (fun i σ H2 hi h => ?_) (fun σ H' h => ?_)⟩
 ·obtain ⟨hB2, z1, z2, z3, z4, z5, z6, rfl⟩ := h
  walk_at "q"
  refine ⟨b, cs, rfl, hB2, fun v r H3 hv hrw hB3 hF3 => ?_⟩
  obtain ⟨hd, as, ps⟩ := r
  have hG := hrw.g
  have hrt : Tx 2400 (ruleT hd as ps) := by
   unfold ruleT
   split
   ·exact (((hG.1.app (Tx.lit (n := 1) (by decide +kernel))).app hG.2.1.tx).app (Tx.lit (n := 1) (by decide +kernel))).mono (by decide)
   ·exact (((((hG.1.app (Tx.lit (n := 1) (by decide +kernel))).app hG.2.1.tx).app (Tx.lit (n := 1) (by decide +kernel))).app (Tx.lit (n := 4) (t := " if ") (by decide +kernel))).app hG.2.2.tx).mono (by decide)
  walk_at "q"
  refine ⟨v, (hd, as, ps), rfl, hv, hG, fun H4 e4 => ?_⟩
  walk_at "q"
  refine ⟨v, (hd, as, ps), rfl, hv.fr e4, hG, fun H5 e5 => ?_⟩
  walk_at "q"
  refine same hrt (by decide) fun H6 e6 => ?_
  have e36 := (e4.trans e5).trans e6
  have hv6 := hv.fr e36
  have hB6 := hB3.fr0 e36
  obtain ⟨p, y1, y2, y3, rfl, hp, t1, t2, t3⟩ := Td.t3 (show Td K H6 v (.tuple [.str hd, argsD as, partsD ps]) from hv6)
  walk_at "q"
  refine ⟨y3, ps, rfl, t3, hrw.2.2.2.2.1, hrw.2.2.2.2.2, fun u H7 e7 hu7 => ?_⟩
  walk_at "q"
  refine ⟨le_of (by simp), fun p8 hp8 => ?_⟩
  have e8 : Fr [] H7 (upd H7 p8 (.tup [y2, u])) := Fr.new hp8
  have h8 : (upd H7 p8 (.tup [y2, u])) p8 = some (.tup [y2, u]) := upd_same
  have hu8 := hu7.fr e8
  have ht8 := (t2.fr e7).fr e8
  have hB8 := (hB6.fr0 e7).fr0 e8
  generalize upd H7 p8 (.tup [y2, u]) = H8 at *
  have hq8 : Td K H8 (.ref p8) (questD (as, ps.map fullP)) := .tup (SqT.of h8) (.cons ht8 (.cons hu8 .nil))
  have hqG : questG (as, ps.map fullP) := ⟨hG.2.1, by have := hrw.2.2.2.2.1; show (ps.map fullP).length ≤ 8; rw [List.length_map]; exact Nat.le_trans this (by decide), fun p hp => by
   obtain ⟨x, hx, rfl⟩ := List.mem_map.mp hp
   exact (hrw.2.2.2.2.2 x hx).full⟩
  have hqt : Tx 2400 (questT as (ps.map fullP)) := ((hqG.1.tx.app (Tx.lit (n := 4) (t := " if ") (by decide +kernel))).app hqG.2.tx).mono (by decide)
  obtain ⟨pu, us, rfl, hpu, htu⟩ := Td.tuple_inv (show Td K H8 u (.tuple ((ps.map fullP).map PartE.d)) from hu8)
  repeat walk_at "if"
  try dsimp only
  with_reducible refine g_cutS (fun σ H' => BagAt H' b cs ∧ ∃ z1 z2 z3 z4 z5 z6, σ = [some (.ref a), some (.ref b), z1, z2, z3, z4, z5, z6]) (fun σ H9 h => ?_) (fun N k => ?_)
  ·obtain ⟨hB9, z1, z2, z3, z4, z5, z6, rfl⟩ := h
   walk_at "q"
   refine g_disp fun pd hpd => ?_
   have hpb := hB9.some hpd
   walk_at "q"
   refine ⟨upd_same, kvOf vdA, rfl, by decide, ?_⟩
   rw [vdA_merge, upd_upd]
   have hV : VarsAt (upd H9 pd (.dK (kvOf vdA))) pd vdA := vdA_g.at_ upd_same
   have hB10 := hB9.fr0 (Fr.new (M := []) (o := .dK (kvOf vdA)) hpd)
   generalize upd H9 pd (.dK (kvOf vdA)) = H10 at *
   walk_at "q"
   refine ⟨b, cs, pd, 4, vdA, rfl, by decide, hB10, hV, fun e v H11 he hs hB11 hF11 => ?_⟩
   have hw := he.w vdA_g
   have hv := hs.td hw
   have hd5 : e.deep < 5 := by have := sum_deep hw.g; omega
   walk_at "q"
   refine ⟨v, e, 4, rfl, hv, hw.g, by decide, hd5, fun H12 e12 => ?_⟩
   walk_at "q"
   refine ⟨v, e, 4, rfl, hv.fr e12, hw.g, by decide, hd5, fun H13 e13 => ?_⟩
   walk_at "q"
   refine same (hw.g.tx4 (by decide)) (by decide) fun H14 e14 => ?_
   have hB14 := hB11.fr0 ((e12.trans e13).trans e14)
   walk_at "q"
   refine ⟨b, cs, _, rfl, hB14, by decide, by decide, fun dd H15 d0 d1 hB15 hF15 => ?_⟩
   obtain ⟨m, rfl⟩ : ∃ m : Nat, dd = (m : Int) := ⟨dd.toNat, by omega⟩
   walk_at "q"
   refine ⟨_, rfl, by omega, by omega, fun D hD => lc_it (walk_range (lo := 0) (n := m)) (fun i H' => BagAt H' b cs ∧ Fr [b] H15 H' ∧ ∃ (us : List V) (ps : List PartE), H' D = some (.lst us) ∧ TdAll K H' us (ps.map PartE.d) ∧ ps.length = i ∧ ∀ a ∈ ps, PartW a)
    ⟨hB15.fr0 (Fr.new hD), Fr.new hD, [], [], upd_same, .nil, rfl, (fun _ z => nomatch z)⟩ (fun i H' _ h => trivial) (fun i x H' H'' hi h y => ?_) (fun H16 h => ?_)⟩
   ·obtain ⟨rfl, rfl⟩ := y
    obtain ⟨hBi, hFi, ys, ps, hDi, htd, hpl, hpw⟩ := h
    have hDb := hB15.some hD
    have hDM : D ∉ [b] := fun z => hDb.1 (List.mem_singleton.mp z)
    walk_at "q"
    refine ⟨rfl, ?_⟩
    walk_at "q"
    refine g_disp fun pd hpd => ?_
    have hpb := hBi.some hpd
    walk_at "q"
    refine ⟨upd_same, kvOf vdB, rfl, by decide, ?_⟩
    rw [vdB_merge, upd_upd]
    have hV : VarsAt (upd H'' pd (.dK (kvOf vdB))) pd vdB := vdB_g.at_ upd_same
    have e1 : Fr [] H'' (upd H'' pd (.dK (kvOf vdB))) := Fr.new hpd
    have hB1 := hBi.fr0 e1
    have hD1 := e1.at hDi (fun z => nomatch z)
    generalize upd H'' pd (.dK (kvOf vdB)) = Hj at *
    walk_at "q"
    refine ⟨b, cs, pd, vdB, rfl, hB1, hV, vdB_g, fun v t H2 ht htw hB2 hF2 => ?_⟩
    have hD2 := hF2.at hD1 hDM
    have hl3 : ys.length = ps.length := (tda_get htd).1
    have eD : Fr [D] H2 (upd H2 D (.lst (ys ++ [v]))) := Fr.mut (List.mem_singleton.mpr rfl) hD2 nofix_lst
    refine ⟨ys, hD2, lt_of (by omega), hB2.fr eD (fun z => hDb.1 (List.mem_singleton.mp z).symm) (fun z => hDb.2 (List.mem_singleton.mp z).symm), ((hFi.trans e1.nil).trans hF2).over hD, ys ++ [v], ps ++ [t], upd_same, ?_, by rw [List.length_append, hpl]; rfl, fun a ha => ?_⟩
    ·rw [List.map_append]
     exact (tda_snoc ((htd.fr e1).fr hF2) ht).fr eD
    ·rcases List.mem_append.mp ha with ha | ha
     ·exact hpw a ha
     ·rw [List.mem_singleton.mp ha]; exact htw
   ·obtain ⟨hB16, hF16, ys, ps, hD16, htd, hpl, hpw⟩ := h
    walk_at "q"
    refine g_tupleL (SqL.of hD16) fun l hl => ?_
    have e17 : Fr [] H16 (upd H16 l (.tup ys)) := Fr.new hl
    have ht17 : Td K (upd H16 l (.tup ys)) (.ref l) (partsD ps) := .tup (SqT.of upd_same) (htd.fr e17)
    have hB17 := hB16.fr0 e17
    have hpG : partsG ps := ⟨by omega, fun p hp => (hpw p hp).g⟩
    generalize upd H16 l (.tup ys) = H17 at *
    walk_at "q"
    refine ⟨_, ps, rfl, ht17, hpG, fun H18 e18 => ?_⟩
    walk_at "q"
    refine .inr ⟨_, ps, rfl, ht17.fr e18, hpG, fun H19 e19 => ?_⟩
    walk_at "q"
    refine same hpG.tx (by decide) fun H20 e20 => ?_
    walk_at "q"
    exact ⟨hB17.fr0 ((e18.trans e19).trans e20), _, _, _, _, _, _, rfl⟩
  ·walk_at "q"
   refine ⟨le_of (by decide), fun p9 hp9 => ?_⟩
   have e9 : Fr [] H8 (upd H8 p9 (.tup [])) := Fr.new hp9
   have h9 : (upd H8 p9 (.tup [])) p9 = some (.tup []) := upd_same
   have hpu9 := e9.tup hpu
   have hq9 := hq8.fr e9
   have hB9 := hB8.fr0 e9
   generalize upd H8 p9 (.tup []) = H9 at *
   refine g_neET hpu9 (SqT.of h9) ?_
   walk_at "q"
   refine g_byN (fun c => ?_) (fun c => ?_)
   ·walk_at "q"
    refine ⟨_, _, rfl, hq9, hqG, fun H10 e10 => ?_⟩
    walk_at "q"
    refine ⟨_, _, rfl, hq9.fr e10, hqG, fun H11 e11 => ?_⟩
    walk_at "q"
    refine same hqt (by decide) fun H12 e12 => ?_
    walk_at "q"
    exact k _ _ ⟨hB9.fr0 ((e10.trans e11).trans e12), _, _, _, _, _, _, rfl⟩
   ·walk_at "q"
    exact k _ _ ⟨hB9, _, _, _, _, _, _, rfl⟩
 ·obtain ⟨_, _, _, _, _, _, _, rfl⟩ := h
  walk_at "q"
  exact q _
end
def d_value_text : He.DefD := ⟨("value_text", none), "value_text", "value_text", defArgs s_value_text, defBody s_value_text, defScope s_value_text, [], []⟩
def d_tightness : He.DefD := ⟨("tightness", none), "tightness", "tightness", defArgs s_tightness, defBody s_tightness, defScope s_tightness, [], []⟩
def d_wrapped : He.DefD := ⟨("wrapped", none), "wrapped", "wrapped", defArgs s_wrapped, defBody s_wrapped, defScope s_wrapped, [], []⟩
def d_sum_text : He.DefD := ⟨("sum_text", none), "sum_text", "sum_text", defArgs s_sum_text, defBody s_sum_text, defScope s_sum_text, [], []⟩
def d_term_text : He.DefD := ⟨("term_text", none), "term_text", "term_text", defArgs s_term_text, defBody s_term_text, defScope s_term_text, [], []⟩
def d_atom_text : He.DefD := ⟨("atom_text", none), "atom_text", "atom_text", defArgs s_atom_text, defBody s_atom_text, defScope s_atom_text, [], []⟩
def d_part_text : He.DefD := ⟨("part_text", none), "part_text", "part_text", defArgs s_part_text, defBody s_part_text, defScope s_part_text, [], []⟩
def d_arg_text : He.DefD := ⟨("arg_text", none), "arg_text", "arg_text", defArgs s_arg_text, defBody s_arg_text, defScope s_arg_text, [], []⟩
def d_args_text : He.DefD := ⟨("args_text", none), "args_text", "args_text", defArgs s_args_text, defBody s_args_text, defScope s_args_text, [], []⟩
def d_parts_text : He.DefD := ⟨("parts_text", none), "parts_text", "parts_text", defArgs s_parts_text, defBody s_parts_text, defScope s_parts_text, [], []⟩
def d_rule_text : He.DefD := ⟨("rule_text", none), "rule_text", "rule_text", defArgs s_rule_text, defBody s_rule_text, defScope s_rule_text, [], []⟩
def d_question_text : He.DefD := ⟨("question_text", none), "question_text", "question_text", defArgs s_question_text, defBody s_question_text, defScope s_question_text, [], []⟩
def d_tests_text : He.DefD := ⟨("tests_text", none), "tests_text", "tests_text", defArgs s_tests_text, defBody s_tests_text, defScope s_tests_text, [], []⟩
def d__law_bag : He.DefD := ⟨("_law_bag", none), "_law_bag", "_law_bag", defArgs s__law_bag, defBody s__law_bag, defScope s__law_bag, [], []⟩
def d__law_pull : He.DefD := ⟨("_law_pull", none), "_law_pull", "_law_pull", defArgs s__law_pull, defBody s__law_pull, defScope s__law_pull, [], []⟩
def d__law_one : He.DefD := ⟨("_law_one", none), "_law_one", "_law_one", defArgs s__law_one, defBody s__law_one, defScope s__law_one, [], []⟩
def d__law_same : He.DefD := ⟨("_law_same", none), "_law_same", "_law_same", defArgs s__law_same, defBody s__law_same, defScope s__law_same, [], []⟩
def d__law_barred : He.DefD := ⟨("_law_barred", none), "_law_barred", "_law_barred", defArgs s__law_barred, defBody s__law_barred, defScope s__law_barred, [], []⟩
def d__law_word : He.DefD := ⟨("_law_word", none), "_law_word", "_law_word", defArgs s__law_word, defBody s__law_word, defScope s__law_word, [], []⟩
def d__law_names : He.DefD := ⟨("_law_names", none), "_law_names", "_law_names", defArgs s__law_names, defBody s__law_names, defScope s__law_names, [], []⟩
def d__law_number : He.DefD := ⟨("_law_number", none), "_law_number", "_law_number", defArgs s__law_number, defBody s__law_number, defScope s__law_number, [], []⟩
def d__law_value : He.DefD := ⟨("_law_value", none), "_law_value", "_law_value", defArgs s__law_value, defBody s__law_value, defScope s__law_value, [], []⟩
def d__law_value_text : He.DefD := ⟨("_law_value_text", none), "_law_value_text", "_law_value_text", defArgs s__law_value_text, defBody s__law_value_text, defScope s__law_value_text, [], []⟩
def d__law_close : He.DefD := ⟨("_law_close", none), "_law_close", "_law_close", defArgs s__law_close, defBody s__law_close, defScope s__law_close, [], []⟩
def d__law_within : He.DefD := ⟨("_law_within", none), "_law_within", "_law_within", defArgs s__law_within, defBody s__law_within, defScope s__law_within, [], []⟩
def d__law_sum_text : He.DefD := ⟨("_law_sum_text", none), "_law_sum_text", "_law_sum_text", defArgs s__law_sum_text, defBody s__law_sum_text, defScope s__law_sum_text, [], []⟩
def d__law_term_text : He.DefD := ⟨("_law_term_text", none), "_law_term_text", "_law_term_text", defArgs s__law_term_text, defBody s__law_term_text, defScope s__law_term_text, [], []⟩
def d__law_part_text : He.DefD := ⟨("_law_part_text", none), "_law_part_text", "_law_part_text", defArgs s__law_part_text, defBody s__law_part_text, defScope s__law_part_text, [], []⟩
def d__law_arg_text : He.DefD := ⟨("_law_arg_text", none), "_law_arg_text", "_law_arg_text", defArgs s__law_arg_text, defBody s__law_arg_text, defScope s__law_arg_text, [], []⟩
def d__law_listed : He.DefD := ⟨("_law_listed", none), "_law_listed", "_law_listed", defArgs s__law_listed, defBody s__law_listed, defScope s__law_listed, [], []⟩
def d__law_rule_text : He.DefD := ⟨("_law_rule_text", none), "_law_rule_text", "_law_rule_text", defArgs s__law_rule_text, defBody s__law_rule_text, defScope s__law_rule_text, [], []⟩
def d__law_asking : He.DefD := ⟨("_law_asking", none), "_law_asking", "_law_asking", defArgs s__law_asking, defBody s__law_asking, defScope s__law_asking, [], []⟩
def d__law_terms : He.DefD := ⟨("_law_terms", none), "_law_terms", "_law_terms", defArgs s__law_terms, defBody s__law_terms, defScope s__law_terms, [], []⟩
def d__law_atom : He.DefD := ⟨("_law_atom", none), "_law_atom", "_law_atom", defArgs s__law_atom, defBody s__law_atom, defScope s__law_atom, [], []⟩
def d__law_leaf : He.DefD := ⟨("_law_leaf", none), "_law_leaf", "_law_leaf", defArgs s__law_leaf, defBody s__law_leaf, defScope s__law_leaf, [], []⟩
def d__law_sum : He.DefD := ⟨("_law_sum", none), "_law_sum", "_law_sum", defArgs s__law_sum, defBody s__law_sum, defScope s__law_sum, [], []⟩
def d__law_test : He.DefD := ⟨("_law_test", none), "_law_test", "_law_test", defArgs s__law_test, defBody s__law_test, defScope s__law_test, [], []⟩
def d__law_not : He.DefD := ⟨("_law_not", none), "_law_not", "_law_not", defArgs s__law_not, defBody s__law_not, defScope s__law_not, [], []⟩
def d__law_body : He.DefD := ⟨("_law_body", none), "_law_body", "_law_body", defArgs s__law_body, defBody s__law_body, defScope s__law_body, [], []⟩
def d__law_fold_arg : He.DefD := ⟨("_law_fold_arg", none), "_law_fold_arg", "_law_fold_arg", defArgs s__law_fold_arg, defBody s__law_fold_arg, defScope s__law_fold_arg, [], []⟩
def d__law_any_rule : He.DefD := ⟨("_law_any_rule", none), "_law_any_rule", "_law_any_rule", defArgs s__law_any_rule, defBody s__law_any_rule, defScope s__law_any_rule, [], []⟩
def d__law_full_parts : He.DefD := ⟨("_law_full_parts", none), "_law_full_parts", "_law_full_parts", defArgs s__law_full_parts, defBody s__law_full_parts, defScope s__law_full_parts, [], []⟩
def d_law : He.DefD := ⟨("law", none), "law", "law", defArgs s_law, defBody s_law, defScope s_law, [], []⟩
def fnAll : List He.DefD := [d_value_text, d_tightness, d_wrapped, d_sum_text, d_term_text, d_atom_text, d_part_text, d_arg_text, d_args_text, d_parts_text, d_rule_text, d_question_text, d_tests_text, d__law_bag, d__law_pull, d__law_one, d__law_same, d__law_barred, d__law_word, d__law_names, d__law_number, d__law_value, d__law_value_text, d__law_close, d__law_within, d__law_sum_text, d__law_term_text, d__law_part_text, d__law_arg_text, d__law_listed, d__law_rule_text, d__law_asking, d__law_terms, d__law_atom, d__law_leaf, d__law_sum, d__law_test, d__law_not, d__law_body, d__law_fold_arg, d__law_any_rule, d__law_full_parts, d_law]
def faAll : List He.Fa := [.glo "value_text", .glo "tightness", .glo "wrapped", .glo "sum_text", .glo "term_text", .glo "atom_text", .glo "part_text", .glo "arg_text", .glo "args_text", .glo "parts_text", .glo "rule_text", .glo "question_text", .glo "tests_text", .glo "_law_bag", .glo "_law_pull", .glo "_law_one", .glo "_law_same", .glo "_law_barred", .glo "_law_word", .glo "_law_names", .glo "_law_number", .glo "_law_value", .glo "_law_value_text", .glo "_law_close", .glo "_law_within", .glo "_law_sum_text", .glo "_law_term_text", .glo "_law_part_text", .glo "_law_arg_text", .glo "_law_listed", .glo "_law_rule_text", .glo "_law_asking", .glo "_law_terms", .glo "_law_atom", .glo "_law_leaf", .glo "_law_sum", .glo "_law_test", .glo "_law_not", .glo "_law_body", .glo "_law_fold_arg", .glo "_law_any_rule", .glo "_law_full_parts", .glo "law", .free "len", .free "list", .free "range", .free "sorted", .free "isinstance", .free "tuple", .free "repr", .free "zip", .free "all", .free "bool", .free "int", .free "str", .glo "TIGHT"]
def looseAll : List PySem.Str := (["value_text", "tightness", "wrapped", "sum_text", "term_text", "atom_text", "part_text", "arg_text", "args_text", "parts_text", "rule_text", "question_text", "tests_text", "_law_bag", "_law_pull", "_law_one", "_law_same", "_law_barred", "_law_word", "_law_names"] : List PySem.Str) ++ (["_law_number", "_law_value", "_law_value_text", "_law_close", "_law_within", "_law_sum_text", "_law_term_text", "_law_part_text", "_law_arg_text", "_law_listed", "_law_rule_text", "_law_asking", "_law_terms", "_law_atom", "_law_leaf", "_law_sum", "_law_test", "_law_not", "_law_body", "_law_fold_arg"] : List PySem.Str) ++ (["_law_any_rule", "_law_full_parts", "TIGHT"] : List PySem.Str)
def dv_TIGHT : List (PySem.Str × Option He.Dv) := [("+", some (.int 1)), ("-", some (.int 1)), ("*", some (.int 2)), ("value", none), ("var", none)]
def tsAll : List He.Tab := [(fun K => He.ga K "TIGHT", ["+", "-", "*"])]
def exAll (K : PySem.W.Frag) : Bool := SL.wdB K (He.ga K "TIGHT") dv_TIGHT
abbrev RR : PySem.W.OpenRow := PySem.W.OpenLaw.row PySem.Challenge.rw_sightlore_k03_rules_written
abbrev hk : PySem.W.Hook := He.hookX 4 faAll fnAll tsAll [] exAll
def obAll (s : PySem.W.SharedT) : He.AlX := He.obsX 4 faAll fnAll tsAll [] exAll (HandSHeadRun.getT s)
theorem ob_eq (s : PySem.W.SharedT) : obAll s = hk.obs s.abs := He.obsX_eq (HandSHeadRun.getT_eq s)
theorem run (w : World) : HandSHeadRun.RunEq RR (PySem.W.view RR.prog [46]) hk obAll 6000 looseAll w := by
 refine PySem.W.byRow2 "special-get-raises" (P := fun w => HandSHeadRun.RunEq RR (PySem.W.view RR.prog [46]) hk obAll 6000 looseAll w) (fun w os => ?_) (fun w os => ?_) w
 ·kernel_rfl
 ·kernel_rfl
theorem facts {P : Program} {w : World} {K : PySem.W.Frag} {h : Heap} {mg : Str → Option Value} {f : Addr} (X : K.In h) (G : h.Ns mainGlobals mg) (hfa : mg ("law" : Str) = some (.ref f)) (c : He.SaysX faAll fnAll tsAll [] exAll w h K) :
  ∃ fd : FuncData, (∀ (s : Shared) (v : Value), BindsTo s fd ⟨[v], []⟩ [("_law_script", v)]) ∧ ∀ base : Heap, K.In base → base.Ns mainGlobals mg → FnG P w K mg base CX0 100 f fd ["_law_script"] (spLaw K) := by
 obtain ⟨fd_value_text, F_value_text⟩ := c.t.d.def_ 0 (d := d_value_text) rfl
 have M_value_text := He.glo_ok X G (c.t.d.fact 0 (f := .glo "value_text") rfl)
 have b_value_text : Binds K fd_value_text ["value"] [] := F_value_text.bindsN fun _ _ _ _ _ _ us hl => match us, hl with | [_], _ => rfl
 obtain ⟨fd_tightness, F_tightness⟩ := c.t.d.def_ 1 (d := d_tightness) rfl
 have M_tightness := He.glo_ok X G (c.t.d.fact 1 (f := .glo "tightness") rfl)
 have b_tightness : Binds K fd_tightness ["thing"] [] := F_tightness.bindsN fun _ _ _ _ _ _ us hl => match us, hl with | [_], _ => rfl
 obtain ⟨fd_wrapped, F_wrapped⟩ := c.t.d.def_ 2 (d := d_wrapped) rfl
 have M_wrapped := He.glo_ok X G (c.t.d.fact 2 (f := .glo "wrapped") rfl)
 have b_wrapped : Binds K fd_wrapped ["thing", "least"] [] := F_wrapped.bindsN fun _ _ _ _ _ _ us hl => match us, hl with | [_, _], _ => rfl
 obtain ⟨fd_sum_text, F_sum_text⟩ := c.t.d.def_ 3 (d := d_sum_text) rfl
 have M_sum_text := He.glo_ok X G (c.t.d.fact 3 (f := .glo "sum_text") rfl)
 have b_sum_text : Binds K fd_sum_text ["thing"] [] := F_sum_text.bindsN fun _ _ _ _ _ _ us hl => match us, hl with | [_], _ => rfl
 obtain ⟨fd_term_text, F_term_text⟩ := c.t.d.def_ 4 (d := d_term_text) rfl
 have M_term_text := He.glo_ok X G (c.t.d.fact 4 (f := .glo "term_text") rfl)
 have b_term_text : Binds K fd_term_text ["term"] [] := F_term_text.bindsN fun _ _ _ _ _ _ us hl => match us, hl with | [_], _ => rfl
 obtain ⟨fd_atom_text, F_atom_text⟩ := c.t.d.def_ 5 (d := d_atom_text) rfl
 have M_atom_text := He.glo_ok X G (c.t.d.fact 5 (f := .glo "atom_text") rfl)
 have b_atom_text : Binds K fd_atom_text ["part"] [] := F_atom_text.bindsN fun _ _ _ _ _ _ us hl => match us, hl with | [_], _ => rfl
 obtain ⟨fd_part_text, F_part_text⟩ := c.t.d.def_ 6 (d := d_part_text) rfl
 have M_part_text := He.glo_ok X G (c.t.d.fact 6 (f := .glo "part_text") rfl)
 have b_part_text : Binds K fd_part_text ["part"] [] := F_part_text.bindsN fun _ _ _ _ _ _ us hl => match us, hl with | [_], _ => rfl
 obtain ⟨fd_arg_text, F_arg_text⟩ := c.t.d.def_ 7 (d := d_arg_text) rfl
 have M_arg_text := He.glo_ok X G (c.t.d.fact 7 (f := .glo "arg_text") rfl)
 have b_arg_text : Binds K fd_arg_text ["arg"] [] := F_arg_text.bindsN fun _ _ _ _ _ _ us hl => match us, hl with | [_], _ => rfl
 obtain ⟨fd_args_text, F_args_text⟩ := c.t.d.def_ 8 (d := d_args_text) rfl
 have M_args_text := He.glo_ok X G (c.t.d.fact 8 (f := .glo "args_text") rfl)
 have b_args_text : Binds K fd_args_text ["args"] [] := F_args_text.bindsN fun _ _ _ _ _ _ us hl => match us, hl with | [_], _ => rfl
 obtain ⟨fd_parts_text, F_parts_text⟩ := c.t.d.def_ 9 (d := d_parts_text) rfl
 have M_parts_text := He.glo_ok X G (c.t.d.fact 9 (f := .glo "parts_text") rfl)
 have b_parts_text : Binds K fd_parts_text ["parts"] [] := F_parts_text.bindsN fun _ _ _ _ _ _ us hl => match us, hl with | [_], _ => rfl
 obtain ⟨fd_rule_text, F_rule_text⟩ := c.t.d.def_ 10 (d := d_rule_text) rfl
 have M_rule_text := He.glo_ok X G (c.t.d.fact 10 (f := .glo "rule_text") rfl)
 have b_rule_text : Binds K fd_rule_text ["rule"] [] := F_rule_text.bindsN fun _ _ _ _ _ _ us hl => match us, hl with | [_], _ => rfl
 obtain ⟨fd_question_text, F_question_text⟩ := c.t.d.def_ 11 (d := d_question_text) rfl
 have M_question_text := He.glo_ok X G (c.t.d.fact 11 (f := .glo "question_text") rfl)
 have b_question_text : Binds K fd_question_text ["question"] [] := F_question_text.bindsN fun _ _ _ _ _ _ us hl => match us, hl with | [_], _ => rfl
 obtain ⟨fd_tests_text, F_tests_text⟩ := c.t.d.def_ 12 (d := d_tests_text) rfl
 have M_tests_text := He.glo_ok X G (c.t.d.fact 12 (f := .glo "tests_text") rfl)
 have b_tests_text : Binds K fd_tests_text ["tests"] [] := F_tests_text.bindsN fun _ _ _ _ _ _ us hl => match us, hl with | [_], _ => rfl
 obtain ⟨fd__law_bag, F__law_bag⟩ := c.t.d.def_ 13 (d := d__law_bag) rfl
 have M__law_bag := He.glo_ok X G (c.t.d.fact 13 (f := .glo "_law_bag") rfl)
 have b__law_bag : Binds K fd__law_bag ["_law_script"] [] := F__law_bag.bindsN fun _ _ _ _ _ _ us hl => match us, hl with | [_], _ => rfl
 obtain ⟨fd__law_pull, F__law_pull⟩ := c.t.d.def_ 14 (d := d__law_pull) rfl
 have M__law_pull := He.glo_ok X G (c.t.d.fact 14 (f := .glo "_law_pull") rfl)
 have b__law_pull : Binds K fd__law_pull ["_law_bag_here", "_law_upto"] [] := F__law_pull.bindsN fun _ _ _ _ _ _ us hl => match us, hl with | [_, _], _ => rfl
 obtain ⟨fd__law_one, F__law_one⟩ := c.t.d.def_ 15 (d := d__law_one) rfl
 have M__law_one := He.glo_ok X G (c.t.d.fact 15 (f := .glo "_law_one") rfl)
 have b__law_one : Binds K fd__law_one ["_law_bag_here", "_law_row"] [] := F__law_one.bindsN fun _ _ _ _ _ _ us hl => match us, hl with | [_, _], _ => rfl
 obtain ⟨fd__law_same, F__law_same⟩ := c.t.d.def_ 16 (d := d__law_same) rfl
 have M__law_same := He.glo_ok X G (c.t.d.fact 16 (f := .glo "_law_same") rfl)
 have b__law_same : Binds K fd__law_same ["_law_found", "_law_due"] [] := F__law_same.bindsN fun _ _ _ _ _ _ us hl => match us, hl with | [_, _], _ => rfl
 obtain ⟨fd__law_barred, F__law_barred⟩ := c.t.d.def_ 17 (d := d__law_barred) rfl
 have M__law_barred := He.glo_ok X G (c.t.d.fact 17 (f := .glo "_law_barred") rfl)
 have b__law_barred : Binds K fd__law_barred ["_law_word_here"] [] := F__law_barred.bindsN fun _ _ _ _ _ _ us hl => match us, hl with | [_], _ => rfl
 obtain ⟨fd__law_word, F__law_word⟩ := c.t.d.def_ 18 (d := d__law_word) rfl
 have M__law_word := He.glo_ok X G (c.t.d.fact 18 (f := .glo "_law_word") rfl)
 have b__law_word : Binds K fd__law_word ["_law_bag_here"] [] := F__law_word.bindsN fun _ _ _ _ _ _ us hl => match us, hl with | [_], _ => rfl
 obtain ⟨fd__law_names, F__law_names⟩ := c.t.d.def_ 19 (d := d__law_names) rfl
 have M__law_names := He.glo_ok X G (c.t.d.fact 19 (f := .glo "_law_names") rfl)
 have b__law_names : Binds K fd__law_names ["_law_bag_here", "_law_many"] [] := F__law_names.bindsN fun _ _ _ _ _ _ us hl => match us, hl with | [_, _], _ => rfl
 obtain ⟨fd__law_number, F__law_number⟩ := c.t.d.def_ 20 (d := d__law_number) rfl
 have M__law_number := He.glo_ok X G (c.t.d.fact 20 (f := .glo "_law_number") rfl)
 have b__law_number : Binds K fd__law_number ["_law_bag_here"] [] := F__law_number.bindsN fun _ _ _ _ _ _ us hl => match us, hl with | [_], _ => rfl
 obtain ⟨fd__law_value, F__law_value⟩ := c.t.d.def_ 21 (d := d__law_value) rfl
 have M__law_value := He.glo_ok X G (c.t.d.fact 21 (f := .glo "_law_value") rfl)
 have b__law_value : Binds K fd__law_value ["_law_bag_here", "_law_kind"] [] := F__law_value.bindsN fun _ _ _ _ _ _ us hl => match us, hl with | [_, _], _ => rfl
 obtain ⟨fd__law_value_text, F__law_value_text⟩ := c.t.d.def_ 22 (d := d__law_value_text) rfl
 have M__law_value_text := He.glo_ok X G (c.t.d.fact 22 (f := .glo "_law_value_text") rfl)
 have b__law_value_text : Binds K fd__law_value_text ["_law_value_here"] [] := F__law_value_text.bindsN fun _ _ _ _ _ _ us hl => match us, hl with | [_], _ => rfl
 obtain ⟨fd__law_close, F__law_close⟩ := c.t.d.def_ 23 (d := d__law_close) rfl
 have M__law_close := He.glo_ok X G (c.t.d.fact 23 (f := .glo "_law_close") rfl)
 have b__law_close : Binds K fd__law_close ["_law_thing"] [] := F__law_close.bindsN fun _ _ _ _ _ _ us hl => match us, hl with | [_], _ => rfl
 obtain ⟨fd__law_within, F__law_within⟩ := c.t.d.def_ 24 (d := d__law_within) rfl
 have M__law_within := He.glo_ok X G (c.t.d.fact 24 (f := .glo "_law_within") rfl)
 have b__law_within : Binds K fd__law_within ["_law_thing", "_law_least_close"] [] := F__law_within.bindsN fun _ _ _ _ _ _ us hl => match us, hl with | [_, _], _ => rfl
 obtain ⟨fd__law_sum_text, F__law_sum_text⟩ := c.t.d.def_ 25 (d := d__law_sum_text) rfl
 have M__law_sum_text := He.glo_ok X G (c.t.d.fact 25 (f := .glo "_law_sum_text") rfl)
 have b__law_sum_text : Binds K fd__law_sum_text ["_law_thing"] [] := F__law_sum_text.bindsN fun _ _ _ _ _ _ us hl => match us, hl with | [_], _ => rfl
 obtain ⟨fd__law_term_text, F__law_term_text⟩ := c.t.d.def_ 26 (d := d__law_term_text) rfl
 have M__law_term_text := He.glo_ok X G (c.t.d.fact 26 (f := .glo "_law_term_text") rfl)
 have b__law_term_text : Binds K fd__law_term_text ["_law_term"] [] := F__law_term_text.bindsN fun _ _ _ _ _ _ us hl => match us, hl with | [_], _ => rfl
 obtain ⟨fd__law_part_text, F__law_part_text⟩ := c.t.d.def_ 27 (d := d__law_part_text) rfl
 have M__law_part_text := He.glo_ok X G (c.t.d.fact 27 (f := .glo "_law_part_text") rfl)
 have b__law_part_text : Binds K fd__law_part_text ["_law_part"] [] := F__law_part_text.bindsN fun _ _ _ _ _ _ us hl => match us, hl with | [_], _ => rfl
 obtain ⟨fd__law_arg_text, F__law_arg_text⟩ := c.t.d.def_ 28 (d := d__law_arg_text) rfl
 have M__law_arg_text := He.glo_ok X G (c.t.d.fact 28 (f := .glo "_law_arg_text") rfl)
 have b__law_arg_text : Binds K fd__law_arg_text ["_law_arg"] [] := F__law_arg_text.bindsN fun _ _ _ _ _ _ us hl => match us, hl with | [_], _ => rfl
 obtain ⟨fd__law_listed, F__law_listed⟩ := c.t.d.def_ 29 (d := d__law_listed) rfl
 have M__law_listed := He.glo_ok X G (c.t.d.fact 29 (f := .glo "_law_listed") rfl)
 have b__law_listed : Binds K fd__law_listed ["_law_things", "_law_parts"] [] := F__law_listed.bindsN fun _ _ _ _ _ _ us hl => match us, hl with | [_, _], _ => rfl
 obtain ⟨fd__law_rule_text, F__law_rule_text⟩ := c.t.d.def_ 30 (d := d__law_rule_text) rfl
 have M__law_rule_text := He.glo_ok X G (c.t.d.fact 30 (f := .glo "_law_rule_text") rfl)
 have b__law_rule_text : Binds K fd__law_rule_text ["_law_rule"] [] := F__law_rule_text.bindsN fun _ _ _ _ _ _ us hl => match us, hl with | [_], _ => rfl
 obtain ⟨fd__law_asking, F__law_asking⟩ := c.t.d.def_ 31 (d := d__law_asking) rfl
 have M__law_asking := He.glo_ok X G (c.t.d.fact 31 (f := .glo "_law_asking") rfl)
 have b__law_asking : Binds K fd__law_asking ["_law_question"] [] := F__law_asking.bindsN fun _ _ _ _ _ _ us hl => match us, hl with | [_], _ => rfl
 obtain ⟨fd__law_terms, F__law_terms⟩ := c.t.d.def_ 32 (d := d__law_terms) rfl
 have M__law_terms := He.glo_ok X G (c.t.d.fact 32 (f := .glo "_law_terms") rfl)
 have b__law_terms : Binds K fd__law_terms ["_law_bag_here", "_law_kinds", "_law_vars_of"] [] := F__law_terms.bindsN fun _ _ _ _ _ _ us hl => match us, hl with | [_, _, _], _ => rfl
 obtain ⟨fd__law_atom, F__law_atom⟩ := c.t.d.def_ 33 (d := d__law_atom) rfl
 have M__law_atom := He.glo_ok X G (c.t.d.fact 33 (f := .glo "_law_atom") rfl)
 have b__law_atom : Binds K fd__law_atom ["_law_bag_here", "_law_kinds_of", "_law_vars_of"] [] := F__law_atom.bindsN fun _ _ _ _ _ _ us hl => match us, hl with | [_, _, _], _ => rfl
 obtain ⟨fd__law_leaf, F__law_leaf⟩ := c.t.d.def_ 34 (d := d__law_leaf) rfl
 have M__law_leaf := He.glo_ok X G (c.t.d.fact 34 (f := .glo "_law_leaf") rfl)
 have b__law_leaf : Binds K fd__law_leaf ["_law_bag_here", "_law_kind", "_law_vars_of"] [] := F__law_leaf.bindsN fun _ _ _ _ _ _ us hl => match us, hl with | [_, _, _], _ => rfl
 obtain ⟨fd__law_sum, F__law_sum⟩ := c.t.d.def_ 35 (d := d__law_sum) rfl
 have M__law_sum := He.glo_ok X G (c.t.d.fact 35 (f := .glo "_law_sum") rfl)
 have b__law_sum : Binds K fd__law_sum ["_law_bag_here", "_law_vars_of", "_law_deep"] [] := F__law_sum.bindsN fun _ _ _ _ _ _ us hl => match us, hl with | [_, _, _], _ => rfl
 obtain ⟨fd__law_test, F__law_test⟩ := c.t.d.def_ 36 (d := d__law_test) rfl
 have M__law_test := He.glo_ok X G (c.t.d.fact 36 (f := .glo "_law_test") rfl)
 have b__law_test : Binds K fd__law_test ["_law_bag_here", "_law_vars_of"] [] := F__law_test.bindsN fun _ _ _ _ _ _ us hl => match us, hl with | [_, _], _ => rfl
 obtain ⟨fd__law_not, F__law_not⟩ := c.t.d.def_ 37 (d := d__law_not) rfl
 have M__law_not := He.glo_ok X G (c.t.d.fact 37 (f := .glo "_law_not") rfl)
 have b__law_not : Binds K fd__law_not ["_law_bag_here", "_law_kinds_of", "_law_vars_of"] [] := F__law_not.bindsN fun _ _ _ _ _ _ us hl => match us, hl with | [_, _, _], _ => rfl
 obtain ⟨fd__law_body, F__law_body⟩ := c.t.d.def_ 38 (d := d__law_body) rfl
 have M__law_body := He.glo_ok X G (c.t.d.fact 38 (f := .glo "_law_body") rfl)
 have b__law_body : Binds K fd__law_body ["_law_bag_here", "_law_kinds_of", "_law_lower", "_law_atoms", "_law_made"] [] := F__law_body.bindsN fun _ _ _ _ _ _ us hl => match us, hl with | [_, _, _, _, _], _ => rfl
 obtain ⟨fd__law_fold_arg, F__law_fold_arg⟩ := c.t.d.def_ 39 (d := d__law_fold_arg) rfl
 have M__law_fold_arg := He.glo_ok X G (c.t.d.fact 39 (f := .glo "_law_fold_arg") rfl)
 have b__law_fold_arg : Binds K fd__law_fold_arg ["_law_bag_here", "_law_vars_of"] [] := F__law_fold_arg.bindsN fun _ _ _ _ _ _ us hl => match us, hl with | [_, _], _ => rfl
 obtain ⟨fd__law_any_rule, F__law_any_rule⟩ := c.t.d.def_ 40 (d := d__law_any_rule) rfl
 have M__law_any_rule := He.glo_ok X G (c.t.d.fact 40 (f := .glo "_law_any_rule") rfl)
 have b__law_any_rule : Binds K fd__law_any_rule ["_law_bag_here"] [] := F__law_any_rule.bindsN fun _ _ _ _ _ _ us hl => match us, hl with | [_], _ => rfl
 obtain ⟨fd__law_full_parts, F__law_full_parts⟩ := c.t.d.def_ 41 (d := d__law_full_parts) rfl
 have M__law_full_parts := He.glo_ok X G (c.t.d.fact 41 (f := .glo "_law_full_parts") rfl)
 have b__law_full_parts : Binds K fd__law_full_parts ["_law_parts"] [] := F__law_full_parts.bindsN fun _ _ _ _ _ _ us hl => match us, hl with | [_], _ => rfl
 obtain ⟨fd_law, F_law⟩ := c.t.d.def_ 42 (d := d_law) rfl
 have Z_len := He.free_ok X G (c.t.d.fact 43 (f := .free "len") rfl)
 have Z_list := He.free_ok X G (c.t.d.fact 44 (f := .free "list") rfl)
 have Z_range := He.free_ok X G (c.t.d.fact 45 (f := .free "range") rfl)
 have Z_sorted := He.free_ok X G (c.t.d.fact 46 (f := .free "sorted") rfl)
 have Z_isinstance := He.free_ok X G (c.t.d.fact 47 (f := .free "isinstance") rfl)
 have Z_tuple := He.free_ok X G (c.t.d.fact 48 (f := .free "tuple") rfl)
 have Z_repr := He.free_ok X G (c.t.d.fact 49 (f := .free "repr") rfl)
 have Z_zip := He.free_ok X G (c.t.d.fact 50 (f := .free "zip") rfl)
 have Z_all := He.free_ok X G (c.t.d.fact 51 (f := .free "all") rfl)
 have Z_bool := He.free_ok X G (c.t.d.fact 52 (f := .free "bool") rfl)
 have Z_int := He.free_ok X G (c.t.d.fact 53 (f := .free "int") rfl)
 have Z_str := He.free_ok X G (c.t.d.fact 54 (f := .free "str") rfl)
 have g_TIGHT := He.glo_ok X G (c.t.d.fact 55 (f := .glo "TIGHT") rfl)
 obtain ⟨es_TIGHT, n_TIGHT, D_TIGHT⟩ := c.t.tab 0 (t := tsAll.getD 0 (fun _ => 0, [])) rfl
 have d_TIGHT := SL.wd_of (kvs := dv_TIGHT) D_TIGHT c.more
 have eL := hfa.symm.trans (He.glo_ok X G (c.t.d.fact 42 (f := .glo "law") rfl))
 cases eL
 have bL := FunD.bindsA (ps := ["_law_script"]) F_law fun _ _ _ _ _ _ us hl => match us, hl with | [_], _ => rfl
 refine ⟨fd_law, fun s v => bL s [v] rfl, fun base _ _ => ?_⟩
 have B : Bi mg := ⟨Z_len, Z_list, Z_range⟩
 have BL : BiL mg := ⟨Z_list, Z_sorted⟩
 have BS : BiS mg := ⟨Z_isinstance, Z_list, Z_tuple, Z_repr, Z_zip, Z_all, Z_len⟩
 have BR : BiR mg := ⟨Z_len, Z_list, Z_sorted, Z_tuple, Z_range⟩
 have BK : BiK mg := ⟨Z_range, Z_tuple⟩
 have C__law_bag := calG_of (P := P) (w := w) (base := base) (ok__law_bag F__law_bag B) M__law_bag F__law_bag.kp b__law_bag
 have C__law_pull := calG_of (P := P) (w := w) (base := base) (ok__law_pull F__law_pull B) M__law_pull F__law_pull.kp b__law_pull
 have C__law_one := calG_of (P := P) (w := w) (base := base) (ok__law_one F__law_one B C__law_pull) M__law_one F__law_one.kp b__law_one
 have C__law_word := calG_of (P := P) (w := w) (base := base) (ok__law_word F__law_word B C__law_pull C__law_one) M__law_word F__law_word.kp b__law_word
 have C__law_number := calG_of (P := P) (w := w) (base := base) (ok__law_number F__law_number C__law_pull) M__law_number F__law_number.kp b__law_number
 have C__law_value := calG_of (P := P) (w := w) (base := base) (ok__law_value F__law_value C__law_pull C__law_one C__law_word C__law_number) M__law_value F__law_value.kp b__law_value
 have C__law_leaf := calG_of (P := P) (w := w) (base := base) (ok__law_leaf F__law_leaf BL C__law_pull C__law_one C__law_value) M__law_leaf F__law_leaf.kp b__law_leaf
 have R__law_sum := calG_rec (P := P) (w := w) (base := base) (sp := spSum K) 50 (fun vs H Q E h => by obtain ⟨b, cs, d, m, vd, rfl, hm, _⟩ := h; exact Nat.not_lt_zero _ hm) M__law_sum F__law_sum.kp b__law_sum fun n C => ok__law_sum F__law_sum C__law_pull C__law_one C__law_leaf C
 have C__law_sum := R__law_sum 5
 have C__law_barred := calG_of (P := P) (w := w) (base := base) (ok__law_barred F__law_barred) M__law_barred F__law_barred.kp b__law_barred
 have C__law_names := calG_of (P := P) (w := w) (base := base) (ok__law_names F__law_names B C__law_word C__law_pull C__law_barred) M__law_names F__law_names.kp b__law_names
 have C__law_terms := calG_of (P := P) (w := w) (base := base) (ok__law_terms F__law_terms BR C__law_pull C__law_one C__law_value) M__law_terms F__law_terms.kp b__law_terms
 have C__law_atom := calG_of (P := P) (w := w) (base := base) (ok__law_atom F__law_atom BR C__law_one C__law_terms) M__law_atom F__law_atom.kp b__law_atom
 have C__law_test := calG_of (P := P) (w := w) (base := base) (ok__law_test F__law_test C__law_one C__law_sum C__law_leaf) M__law_test F__law_test.kp b__law_test
 have C__law_fold_arg := calG_of (P := P) (w := w) (base := base) (ok__law_fold_arg F__law_fold_arg BR C__law_one C__law_pull) M__law_fold_arg F__law_fold_arg.kp b__law_fold_arg
 have C__law_not := calG_of (P := P) (w := w) (base := base) (ok__law_not F__law_not BR C__law_one C__law_leaf C__law_pull) M__law_not F__law_not.kp b__law_not
 have C__law_body := calG_of (P := P) (w := w) (base := base) (ok__law_body F__law_body BR C__law_atom C__law_one C__law_pull C__law_sum C__law_leaf C__law_test C__law_not) M__law_body F__law_body.kp b__law_body
 have C__law_any_rule := calG_of (P := P) (w := w) (base := base) (ok__law_any_rule F__law_any_rule BR C__law_names C__law_body C__law_one C__law_pull C__law_leaf C__law_fold_arg) M__law_any_rule F__law_any_rule.kp b__law_any_rule
 have R__law_same := calG_rec0 (P := P) (w := w) (base := base) (sp := spSame K) (fun vs H Q E h => by obtain ⟨x, y, d, rfl, _, _, hm, _⟩ := h; exact sm_zero hm) M__law_same F__law_same.kp b__law_same fun n C => ok__law_same F__law_same BS C
 have BT : BiT mg := ⟨Z_isinstance, Z_bool, Z_int, Z_str⟩
 have C_value_text := calG_of (P := P) (w := w) (base := base) (ok_value_text F_value_text BT) M_value_text F_value_text.kp b_value_text
 have C_tightness := calG_of (P := P) (w := w) (base := base) (ok_tightness F_tightness g_TIGHT d_TIGHT) M_tightness F_tightness.kp b_tightness
 have R_sum_text := calG_rec2 (P := P) (w := w) (base := base) (sp := spSumT K) 1 (fun vs H Q E h => by obtain ⟨v, e, m, rfl, _, _, _, hm, _⟩ := h; exact Nat.not_lt_zero _ hm) M_sum_text F_sum_text.kp b_sum_text fun n C => ok_sum_text F_sum_text (C_value_text) (calG_of (ok_wrapped F_wrapped C C_tightness (by omega)) M_wrapped F_wrapped.kp b_wrapped) (by omega) g_TIGHT d_TIGHT
 have C_sum_text := R_sum_text 5
 have C_term_text := calG_of (P := P) (w := w) (base := base) (ok_term_text F_term_text C_sum_text) M_term_text F_term_text.kp b_term_text
 have C_atom_text := calG_of (P := P) (w := w) (base := base) (ok_atom_text F_atom_text C_term_text) M_atom_text F_atom_text.kp b_atom_text
 have C_part_text := calG_of (P := P) (w := w) (base := base) (ok_part_text F_part_text C_sum_text C_atom_text) M_part_text F_part_text.kp b_part_text
 have C_arg_text := calG_of (P := P) (w := w) (base := base) (ok_arg_text F_arg_text C_sum_text) M_arg_text F_arg_text.kp b_arg_text
 have C_args_text := calG_of (P := P) (w := w) (base := base) (ok_args_text F_args_text C_arg_text) M_args_text F_args_text.kp b_args_text
 have C_parts_text := calG_of (P := P) (w := w) (base := base) (ok_parts_text F_parts_text C_part_text) M_parts_text F_parts_text.kp b_parts_text
 have C_rule_text := calG_of (P := P) (w := w) (base := base) (ok_rule_text F_rule_text C_parts_text C_args_text) M_rule_text F_rule_text.kp b_rule_text
 have C_question_text := calG_of (P := P) (w := w) (base := base) (ok_question_text F_question_text C_parts_text C_args_text) M_question_text F_question_text.kp b_question_text
 have C_tests_text := calG_of (P := P) (w := w) (base := base) (ok_tests_text F_tests_text C_parts_text) M_tests_text F_tests_text.kp b_tests_text
 have C__law_value_text := calG_of (P := P) (w := w) (base := base) (ok__law_value_text F__law_value_text BT) M__law_value_text F__law_value_text.kp b__law_value_text
 have C__law_close := calG_of (P := P) (w := w) (base := base) (ok__law_close F__law_close) M__law_close F__law_close.kp b__law_close
 have R__law_sum_text := calG_rec2 (P := P) (w := w) (base := base) (sp := spSumT K) 1 (fun vs H Q E h => by obtain ⟨v, e, m, rfl, _, _, _, hm, _⟩ := h; exact Nat.not_lt_zero _ hm) M__law_sum_text F__law_sum_text.kp b__law_sum_text fun n C => ok__law_sum_text F__law_sum_text C__law_value_text C__law_close (calG_of (ok__law_within F__law_within C C__law_close (by omega)) M__law_within F__law_within.kp b__law_within) (by omega)
 have C__law_sum_text := R__law_sum_text 5
 have C__law_term_text := calG_of (P := P) (w := w) (base := base) (ok__law_term_text F__law_term_text C__law_sum_text) M__law_term_text F__law_term_text.kp b__law_term_text
 have C__law_part_text := calG_of (P := P) (w := w) (base := base) (ok__law_part_text F__law_part_text C__law_sum_text C__law_term_text) M__law_part_text F__law_part_text.kp b__law_part_text
 have C__law_arg_text := calG_of (P := P) (w := w) (base := base) (ok__law_arg_text F__law_arg_text C__law_sum_text) M__law_arg_text F__law_arg_text.kp b__law_arg_text
 have C__law_listed := calG_of (P := P) (w := w) (base := base) (ok__law_listed F__law_listed C__law_part_text C__law_arg_text) M__law_listed F__law_listed.kp b__law_listed
 have C__law_rule_text := calG_of (P := P) (w := w) (base := base) (ok__law_rule_text F__law_rule_text C__law_listed) M__law_rule_text F__law_rule_text.kp b__law_rule_text
 have C__law_asking := calG_of (P := P) (w := w) (base := base) (ok__law_asking F__law_asking C__law_listed) M__law_asking F__law_asking.kp b__law_asking
 have C__law_full_parts := calG_of (P := P) (w := w) (base := base) (ok__law_full_parts F__law_full_parts BR) M__law_full_parts F__law_full_parts.kp b__law_full_parts
 exact ok_law F_law BK C__law_bag C__law_any_rule (R__law_same 3) C_rule_text C__law_rule_text C__law_full_parts C_question_text C__law_asking C__law_sum C_sum_text C__law_sum_text C__law_test C__law_pull C_tests_text C__law_listed
end LW
open PySem PySem.W PySem.Calls PyProof.Rows
set_option maxHeartbeats 0 in
theorem PySem.Challenge.cw_sightlore_k03_rules_written_holds : PySem.Challenge.rw_sightlore_k03_rules_written.Holds := by
 w_on; o_law
 refine HandSHeadRun.head_any (r := OpenLaw.row PySem.Challenge.rw_sightlore_k03_rules_written) (q := view (OpenLaw.row PySem.Challenge.rw_sightlore_k03_rules_written).prog [46]) (H := LW.hk) (ob := LW.obAll) (M := 6000) (loose := LW.looseAll) (d := HandSHeadRun.topDef (OpenLaw.row PySem.Challenge.rw_sightlore_k03_rules_written).prog 46) (kwd := []) LW.ob_eq
  (by kernel_rfl) (fun s => by kernel_rfl) LW.run (by kernel_rfl) (by kernel_rfl) (by kernel_rfl) (by rfl) (by first | assumption | decide +kernel) (by decide +kernel) ⟨rfl, rfl, rfl, rfl, rfl, by decide +kernel⟩ ?hw ?hc
 case hw => w_witness2
 case hc =>
  refine SL.walkG (l := PySem.Challenge.rw_sightlore_k03_rules_written) (n := 63) (k := 100) (x := "_law_script") rfl (by decide) (by kernel_rfl) ⟨rfl, by decide, by decide⟩ ?F
  intro w mg fa h Y G hmg0
  obtain ⟨K, KX, c⟩ := Y
  have hmg : mg ("law" : PySem.Str) = some (.ref fa) := by
   have e : (HandSHeadRun.topDef (OpenLaw.row PySem.Challenge.rw_sightlore_k03_rules_written).prog 46).name = ("law" : PySem.Str) := by kernel_rfl
   rw [← e]
   exact hmg0
  obtain ⟨fd, hb, hF⟩ := LW.facts (P := (PySem.Challenge.rw_sightlore_k03_rules_written).prog) (w := w) KX G hmg c
  exact ⟨K, fd, LW.spLaw K, KX, hb, fun H a ns hl hS => ⟨a, ns, rfl, hS, hl, fun _ => rfl⟩, hF⟩
