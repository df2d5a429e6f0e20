import PyProof.Rows.All
import Wide.All
import OpenK.AllK
import Wide.FinOn
import HandS.ForMost
import HandS.Zip
import HandS.Flow
import HandS.Conv
import HandS.IsInst
import HandS.Codes
import HandS.Wide
import HandS.StrMore
import HandS.Defaults
import HandS.Exc
import HandS.HeadEnd
import HandS.HeadHook2
import HandS.Head2
import HandS.RaiseMore
import HandS.Walk
import HandS.FStr
import HandS.HeadHook3
import HandS.HeadHook4
import HandS.TupAny
import HandS.SetFor
import HandS.DictComp
import HandS.ExcInit
import HandS.ExcIs
import KE.KExcIs
import HandS.ExcField
import HandS.ExcOwn
import HandS.WordsExc
import HandS.SetBool
import HandS.SetKeys
import KE.GoesEnum
import KE.GoesMore
import KE.DataMinMax
import KE.SortKeyHeap
import HandS.SortKw
import HandS.Keys
import HandS.MakeKwOnly
import HandS.ReplaceLit
import PyProof.StrReplace2
import PyProof.StrOps2
import PyProof.MeetsStr3
import PySem.Challenge.RW_sightlore_k07_variables_and_their_order
set_option Elab.async false
set_option linter.all false
set_option maxRecDepth 100000
set_option maxHeartbeats 2000000
namespace SL
open PySem PySem.Spec PyProof.Rows L2
def Fix : HO → Prop
 | .tup _ => True
 | .frz _ (.tup _) => True
 | _ => False
def Fr (M : List Addr) (H H' : Hp) : Prop := ∀ a o, H a = some o → (a ∉ M ∨ Fix o) → H' a = some o
theorem Fr.refl {M : List Addr} {H : Hp} : Fr M H H := fun _ _ h _ => h
theorem Fr.trans {M : List Addr} {H H1 H2 : Hp} (a : Fr M H H1) (b : Fr M H1 H2) : Fr M H H2 := fun x o h z => b x o (a x o h z) z
theorem Fr.mono {M N : List Addr} {H H' : Hp} (h : Fr M H H') (s : ∀ a ∈ M, a ∈ N) : Fr N H H' := fun a o e z => h a o e (z.imp (fun n m => n (s a m)) id)
theorem Fr.nil {N : List Addr} {H H' : Hp} (h : Fr [] H H') : Fr N H H' := h.mono fun _ z => nomatch z
theorem Fr.new {M : List Addr} {H : Hp} {p : Addr} {o : HO} (h : H p = none) : Fr M H (upd H p o) := fun a u e _ => by
 rw [upd_ne (ne_of_none e h)]
 exact e
theorem Fr.mut {M : List Addr} {H : Hp} {p : Addr} {o u : HO} (hm : p ∈ M) (h : H p = some u) (hu : ¬ Fix u) : Fr M H (upd H p o) := fun a v e z => by
 by_cases c : a = p
 ·subst c
  rw [h] at e
  cases e
  rcases z with z | z
  ·exact absurd hm z
  ·exact absurd z hu
 ·rw [upd_ne c]
  exact e
theorem Fr.over {M : List Addr} {H H' : Hp} {p : Addr} {o : HO} (e : Fr M H H') (h : H p = none) : Fr M H (upd H' p o) := fun a u ha z => by
 rw [upd_ne (ne_of_none ha h)]
 exact e a u ha z
theorem Fr.same {H H' : Hp} (h : Fr [] H H') : Same H H' := fun b o e => h b o e (.inl (fun z => nomatch z))
theorem Fr.of_same {M : List Addr} {H H' : Hp} (h : Same H H') : Fr M H H' := fun a o e _ => h a o e
theorem Fr.at {M : List Addr} {H H' : Hp} {a : Addr} {o : HO} (h : Fr M H H') (e : H a = some o) (n : a ∉ M) : H' a = some o := h a o e (.inl n)
theorem Fr.back {M : List Addr} {H H' : Hp} {p : Addr} (e : Fr M H H') (hM : p ∉ M) (h : H' p = none) : H p = none := by
 cases q : H p with
 | none => rfl
 | some o =>
  rw [e p o q (.inl hM)] at h
  cases h
theorem Fr.tup {K : PySem.W.Frag} {M : List Addr} {H H' : Hp} {a : Addr} {xs : List V} (e : Fr M H H') (h : SqT K H a xs) : SqT K H' a xs := by
 rcases h with (h | ⟨o, h⟩) | h
 ·exact .inl (.inl (e a _ h (.inr trivial)))
 ·exact .inl (.inr ⟨o, e a _ h (.inr trivial)⟩)
 ·exact .inr h
theorem Fr.seq {K : PySem.W.Frag} {M : List Addr} {H H' : Hp} {a : Addr} {xs : List V} (e : Fr M H H') (n : a ∉ M) (h : SqL K H a xs) : SqL K H' a xs := by
 rcases h with (h | ⟨o, h⟩) | h
 ·exact .inl (.inl (e a _ h (.inl n)))
 ·exact .inl (.inr ⟨o, e a _ h (.inl n)⟩)
 ·exact .inr h
theorem nofix_lst {xs : List V} : ¬ Fix (.lst xs) := fun z => z
theorem nofix_dK {xs : List (Key × V)} : ¬ Fix (.dK xs) := fun z => z
mutual
inductive Td (K : PySem.W.Frag) (H : Hp) : V → PyData → Prop
 | non : Td K H .non .none
 | bl (b : Bool) : Td K H (.bl b) (.bool b)
 | int (i : Int) : Td K H (.int i) (.int i)
 | str (x : Str) : Td K H (.str x) (.str x)
 | tup {a : Addr} {xs : List V} {ds : List PyData} : SqT K H a xs → TdAll K H xs ds → Td K H (.ref a) (.tuple ds)
inductive TdAll (K : PySem.W.Frag) (H : Hp) : List V → List PyData → Prop
 | nil : TdAll K H [] []
 | cons {v : V} {vs : List V} {d : PyData} {ds : List PyData} : Td K H v d → TdAll K H vs ds → TdAll K H (v :: vs) (d :: ds)
end
section
variable {K : PySem.W.Frag} {H H' : Hp} {M : List Addr}
mutual
theorem Td.fr (e : Fr M H H') : ∀ {v : V} {d : PyData}, Td K H v d → Td K H' v d
 | _, _, .non => .non
 | _, _, .bl b => .bl b
 | _, _, .int i => .int i
 | _, _, .str x => .str x
 | _, _, .tup h hs => .tup (e.tup h) (TdAll.fr e hs)
theorem TdAll.fr (e : Fr M H H') : ∀ {vs : List V} {ds : List PyData}, TdAll K H vs ds → TdAll K H' vs ds
 | _, _, .nil => .nil
 | _, _, .cons h hs => .cons (Td.fr e h) (TdAll.fr e hs)
end
mutual
theorem Td.dp : ∀ {v : V} {d : PyData}, Td K H v d → Dp K H v d
 | _, _, .non => .non
 | _, _, .bl b => .bl b
 | _, _, .int i => .int i
 | _, _, .str x => .str x
 | _, _, .tup h hs => .tup h (TdAll.dp hs)
theorem TdAll.dp : ∀ {vs : List V} {ds : List PyData}, TdAll K H vs ds → DpAll K H vs ds
 | _, _, .nil => .nil
 | _, _, .cons h hs => .cons (Td.dp h) (TdAll.dp hs)
end
theorem Td.tuple_inv {v : V} {ds : List PyData} (h : Td K H v (.tuple ds)) : ∃ a xs, v = .ref a ∧ SqT K H a xs ∧ TdAll K H xs ds := by
 cases h with
 | tup h1 h2 => exact ⟨_, _, rfl, h1, h2⟩
theorem Td.int_inv {v : V} {i : Int} (h : Td K H v (.int i)) : v = .int i := by cases h; rfl
theorem Td.str_inv {v : V} {i : Str} (h : Td K H v (.str i)) : v = .str i := by cases h; rfl
theorem Td.bl_inv {v : V} {i : Bool} (h : Td K H v (.bool i)) : v = .bl i := by cases h; rfl
theorem TdAll.nil_inv {vs : List V} (h : TdAll K H vs []) : vs = [] := by cases h; rfl
theorem TdAll.cons_inv {vs : List V} {d : PyData} {ds : List PyData} (h : TdAll K H vs (d :: ds)) : ∃ v ws, vs = v :: ws ∧ Td K H v d ∧ TdAll K H ws ds := by
 cases h with
 | cons h1 h2 => exact ⟨_, _, rfl, h1, h2⟩
theorem Td.t1 {v : V} {a : PyData} (h : Td K H v (.tuple [a])) : ∃ p x, v = .ref p ∧ SqT K H p [x] ∧ Td K H x a := by
 obtain ⟨p, xs, rfl, hp, h⟩ := h.tuple_inv
 obtain ⟨x, xs, rfl, hx, h⟩ := h.cons_inv
 cases h.nil_inv
 exact ⟨p, x, rfl, hp, hx⟩
theorem Td.t2 {v : V} {a b : PyData} (h : Td K H v (.tuple [a, b])) : ∃ p x y, v = .ref p ∧ SqT K H p [x, y] ∧ Td K H x a ∧ Td K H y b := by
 obtain ⟨p, xs, rfl, hp, h⟩ := h.tuple_inv
 obtain ⟨x, xs, rfl, hx, h⟩ := h.cons_inv
 obtain ⟨y, xs, rfl, hy, h⟩ := h.cons_inv
 cases h.nil_inv
 exact ⟨p, x, y, rfl, hp, hx, hy⟩
theorem Td.t3 {v : V} {a b c : PyData} (h : Td K H v (.tuple [a, b, c])) : ∃ p x y z, v = .ref p ∧ SqT K H p [x, y, z] ∧ Td K H x a ∧ Td K H y b ∧ Td K H z c := by
 obtain ⟨p, xs, rfl, hp, h⟩ := h.tuple_inv
 obtain ⟨x, xs, rfl, hx, h⟩ := h.cons_inv
 obtain ⟨y, xs, rfl, hy, h⟩ := h.cons_inv
 obtain ⟨z, xs, rfl, hz, h⟩ := h.cons_inv
 cases h.nil_inv
 exact ⟨p, x, y, z, rfl, hp, hx, hy, hz⟩
theorem Td.t4 {v : V} {a b c d : PyData} (h : Td K H v (.tuple [a, b, c, d])) : ∃ p x y z u, v = .ref p ∧ SqT K H p [x, y, z, u] ∧ Td K H x a ∧ Td K H y b ∧ Td K H z c ∧ Td K H u d := by
 obtain ⟨p, xs, rfl, hp, h⟩ := h.tuple_inv
 obtain ⟨x, xs, rfl, hx, h⟩ := h.cons_inv
 obtain ⟨y, xs, rfl, hy, h⟩ := h.cons_inv
 obtain ⟨z, xs, rfl, hz, h⟩ := h.cons_inv
 obtain ⟨u, xs, rfl, hu, h⟩ := h.cons_inv
 cases h.nil_inv
 exact ⟨p, x, y, z, u, rfl, hp, hx, hy, hz, hu⟩
end
def uAdd (K : PySem.W.Frag) : R2 := fun x y H Q => match x, y with
 | .int i, .int j => Q (.int (i + j)) H
 | .str a, .str b => a.length + b.length ≤ sizeLine ∧ Q (.str (a ++ b)) H
 | .ref a, .ref b => rCat (.ref a) (.ref b) H Q ∨ rCatT K (.ref a) (.ref b) H Q
 | _, _ => False
def uSub : R2 := fun x y H Q => match x, y with
 | .int i, .int j => Q (.int (i - j)) H
 | _, _ => False
def uMul : R2 := fun x y H Q => match x, y with
 | .int i, .int j => IntMulOk i j ∧ Q (.int (i * j)) H
 | .ref a, .int k => rRep (.ref a) (.int k) H Q
 | .str a, .int k => 2 ≤ k ∧ k ≤ 1000 ∧ 0 < a.length ∧ a.length ≤ 1000 ∧ Q (.str ⟨(List.replicate k.toNat a.cps).foldl (· ++ ·) #[]⟩) H
 | _, _ => False
def uDiv : R2 := fun x y H Q => match x, y with
 | .int i, .int j => CDivW i j ∧ Q (.int (i / j)) H
 | _, _ => False
def uMod : R2 := fun x y H Q => match x, y with
 | .int i, .int j => 0 < j ∧ Q (.int (i % j)) H
 | _, _ => False
def uPow : R2 := fun x y H Q => match x, y with
 | .int i, .int j => CPow i j ∧ Q (.int (i ^ j.toNat)) H
 | _, _ => False
def rEqE (K : PySem.W.Frag) (x y : V) (H : Hp) (Q : Bool → Prop) : Prop :=
 (∃ a b xs, x = .ref a ∧ y = .ref b ∧ SqT K H a xs ∧ SqT K H b [] ∧ Q (decide (xs = []))) ∨ (∃ a b xs, x = .ref a ∧ y = .ref b ∧ SqL K H a xs ∧ SqL K H b [] ∧ Q (decide (xs = []))) ∨
 ∃ a b kvs, x = .ref a ∧ y = .ref b ∧ H a = some (.dK kvs) ∧ H b = some (.dK []) ∧ Q (decide (kvs = []))
def uEq (K : PySem.W.Frag) : R2 := fun x y H Q => (scal x y = true ∧ Q (.bl (decide (x = y))) H) ∨ rEqD K x y H Q ∨ rEqE K x y H fun b => Q (.bl b) H
def uNe (K : PySem.W.Frag) : R2 := fun x y H Q => (scal x y = true ∧ Q (.bl (!decide (x = y))) H) ∨ rNeD K x y H Q ∨ rEqE K x y H fun b => Q (.bl (!b)) H
def uLt (K : PySem.W.Frag) : R2 := fun x y H Q => match x, y with
 | .int i, .int j => Q (.bl (decide (i < j))) H
 | .str a, .str b => Q (.bl (decide (a.cps.toList < b.cps.toList))) H
 | _, _ => False
def uGt : R2 := fun x y H Q => match x, y with
 | .int i, .int j => Q (.bl (decide (j < i))) H
 | _, _ => False
def uLe : R2 := fun x y H Q => match x, y with
 | .int i, .int j => Q (.bl (decide (i ≤ j))) H
 | .str a, .str b => Q (.bl (!decide (b.cps.toList < a.cps.toList))) H
 | _, _ => False
def uGe : R2 := fun x y H Q => match x, y with
 | .int i, .int j => Q (.bl (decide (j ≤ i))) H
 | _, _ => False
def uIn (K : PySem.W.Frag) : R2 := fun x y H Q => match x, y with
 | .str a, .str b => Q (.bl (!(Builtin.Str.occurrences b a 0 b.length 1).isEmpty)) H
 | x, y => rIn K false x y H Q
def uNotIn (K : PySem.W.Frag) : R2 := fun x y H Q => match x, y with
 | .str a, .str b => Q (.bl (!(!(Builtin.Str.occurrences b a 0 b.length 1).isEmpty))) H
 | x, y => rIn K true x y H Q
section
variable {X : Cx}
theorem opu_add : OpR X (binaryOp .Add) (uAdd X.K) := by
 intro pins s σ H x y v u Q I rx ry h
 cases x <;> cases y <;> first
  | exact absurd h id
  | exact op_add pins s σ H _ _ v u Q I rx ry ⟨_, _, rfl, rfl, h⟩
  | exact op_add_str pins s σ H _ _ v u Q I rx ry ⟨_, _, rfl, rfl, h.1, h.2⟩
  | exact h.elim (fun h => op_cat pins s σ H _ _ v u Q I rx ry h) (fun h => op_catT pins s σ H _ _ v u Q I rx ry h)
theorem opu_sub : OpR X (binaryOp .Sub) uSub := by
 intro pins s σ H x y v u Q I rx ry h
 cases x <;> cases y <;> first
  | exact absurd h id
  | exact op_sub pins s σ H _ _ v u Q I rx ry ⟨_, _, rfl, rfl, h⟩
theorem foldl_size (c : Array Nat) : ∀ (m : Nat) (acc : Array Nat), ((List.replicate m c).foldl (· ++ ·) acc).size = acc.size + m * c.size
 | 0, acc => by simp
 | m + 1, acc => by
  rw [List.replicate_succ, List.foldl_cons, foldl_size c m, Array.size_append, Nat.succ_mul]
  omega
theorem op_repS : OpR X (binaryOp .Mult) (fun x y H Q => ∃ (a : Str) (k : Int), x = .str a ∧ y = .int k ∧ 2 ≤ k ∧ k ≤ 1000 ∧ 0 < a.length ∧ a.length ≤ 1000 ∧ Q (.str ⟨(List.replicate k.toNat a.cps).foldl (· ++ ·) #[]⟩) H) := by
 intro pins s σ H x y v u Q I rx ry h
 obtain ⟨a, k, rfl, rfl, h1, h2, h3, h4, q⟩ := h
 obtain ⟨t, rfl⟩ := rx
 obtain ⟨t', rfl⟩ := ry
 have hm : a.length * k.toNat ≤ 1000000 := Nat.le_trans (Nat.mul_le_mul h4 (show k.toNat ≤ 1000 by omega)) (by decide)
 refine PySem.P.mul_str ?_ (fun _ _ => ?_) (fun _ _ => ?_) ?_
 ·rw [decide_eq_false (show ¬ k < -(2 ^ 63) by omega), decide_eq_false (show ¬ k ≥ 2 ^ 63 by omega)]; rfl
 ·have e : ((2 : Int) ^ 63 - 1) / 1000 ≤ (2 ^ 63 - 1) / k := by
   rw [Int.le_ediv_iff_mul_le (by omega)]
   have : ((2 : Int) ^ 63 - 1) / 1000 * k ≤ (2 ^ 63 - 1) / 1000 * 1000 := Int.mul_le_mul_of_nonneg_left h2 (by decide)
   have e2 : ((2 : Int) ^ 63 - 1) / 1000 * 1000 ≤ 2 ^ 63 - 1 := by decide
   omega
  have e3 : (1000 : Int) ≤ (2 ^ 63 - 1) / 1000 := by decide
  omega
 ·exact decide_eq_false (by have := sizeLine_eq; omega)
 ·rw [if_neg (by omega), if_neg (by simp only [Bool.or_eq_true, beq_iff_eq]; omega)]
  refine ⟨?_, .str _, H, I.tok _, ⟨_, rfl⟩, q⟩
  show ((List.replicate k.toNat a.cps).foldl (· ++ ·) #[]).size ≤ sizeLine
  rw [foldl_size]
  have e : a.cps.size = a.length := rfl
  have e2 : (#[] : Array Nat).size = 0 := rfl
  have := sizeLine_eq
  rw [e, e2, Nat.mul_comm]
  omega
theorem opu_mul : OpR X (binaryOp .Mult) uMul := by
 intro pins s σ H x y v u Q I rx ry h
 cases x <;> cases y <;> first
  | exact absurd h id
  | exact (opI fun _ _ _ _ _ _ _ hc q => mul_int q hc : OpR X (binaryOp .Mult) (rI IntMulOk fun i j => .int (i * j))) pins s σ H _ _ v u Q I rx ry ⟨_, _, rfl, rfl, h.1, h.2⟩
  | exact op_rep pins s σ H _ _ v u Q I rx ry h
  | exact op_repS pins s σ H _ _ v u Q I rx ry ⟨_, _, rfl, rfl, h⟩
theorem opu_div : OpR X (binaryOp .FloorDiv) uDiv := by
 intro pins s σ H x y v u Q I rx ry h
 cases x <;> cases y <;> first
  | exact absurd h id
  | exact op_fdivW pins s σ H _ _ v u Q I rx ry ⟨_, _, rfl, rfl, h.1, h.2⟩
theorem opu_mod : OpR X (binaryOp .Mod) uMod := by
 intro pins s σ H x y v u Q I rx ry h
 cases x <;> cases y <;> first
  | exact absurd h id
  | exact op_mod pins s σ H _ _ v u Q I rx ry ⟨_, _, rfl, rfl, h.1, h.2⟩
theorem opu_pow : OpR X (binaryOp .Pow) uPow := by
 intro pins s σ H x y v u Q I rx ry h
 cases x <;> cases y <;> first
  | exact absurd h id
  | exact op_pow pins s σ H _ _ v u Q I rx ry ⟨_, _, rfl, rfl, h.1, h.2⟩
theorem nil_of {xs : List V} {its : List Value} (r : Vals xs its) : decide (its = []) = decide (xs = []) := by
 cases r <;> rfl
theorem nil_of_kv {xs : List (Key × V)} {vs : List (Key × Value)} (r : KV xs vs) : decide (vs = []) = decide (xs = []) := by
 cases r <;> rfl
theorem size0 {its : List Value} : (its.toArray.size == 0) = decide (its = []) := by cases its <;> rfl
theorem op_eqE (hu : X.A.units + 64 < cLine) : OpR X (compareOp .Eq) (fun x y H Q => rEqE X.K x y H fun b => Q (.bl b) H) := by
 intro pins s σ H x y v u Q I rx ry h
 have hu1 : X.A.units < cLine := by omega
 rcases h with ⟨a, b, xs, rfl, rfl, ha, hb, q⟩ | ⟨a, b, xs, rfl, rfl, ha, hb, q⟩ | ⟨a, b, kvs, rfl, rfl, ha, hb, q⟩
 ·cases rx; cases ry
  obtain ⟨its, r, p, _⟩ := I.tuple ha
  obtain ⟨its2, r2, p2, _⟩ := I.tuple hb
  cases r2
  refine SeqAt.RcAt.tuples (e := fun _ => true) p p2 hu1 (fun j _ h2 => absurd h2 (Nat.not_lt_zero j)) X.prog X.w _ _ ⟨.bl (decide (xs = [])), H, I, ?_, q⟩
  rw [← nil_of r, ← size0]
  simp [L2.RelV]
 ·cases rx; cases ry
  obtain ⟨its, r, p, _⟩ := I.list ha
  obtain ⟨its2, r2, p2, _⟩ := I.list hb
  cases r2
  cases its with
  | nil =>
   refine SeqAt.RcAt.lists (e := fun _ => true) p.isList p2.isList rfl hu1 (fun j _ h2 => absurd h2 (Nat.not_lt_zero j)) X.prog X.w _ _ ⟨.bl (decide (xs = [])), H, I, ?_, q⟩
   rw [← nil_of r]
   rfl
  | cons c cs =>
   refine SeqAt.RcAt.lists_lengths p.isList p2.isList (by simp) hu1 X.prog X.w _ _ ⟨.bl (decide (xs = [])), H, I, ?_, q⟩
   rw [← nil_of r]
   rfl
 ·cases rx; cases ry
  obtain ⟨_, ya, va, ra, da⟩ := dk_of I.hok ha
  obtain ⟨_, yb, vb, rb, db⟩ := dk_of I.hok hb
  cases rb
  refine PySem.W.keq_eq (r := true) ya yb da db hu1 (fun hl => ?_) ⟨.bl (decide (kvs = [])), H, I, ?_, q⟩
  ·cases va with
   | nil => exact .nil
   | cons c cs => cases hl
  ·rw [← nil_of_kv ra]
   cases va <;> rfl
theorem op_neE (hu : X.A.units + 64 < cLine) : OpR X (compareOp .NotEq) (fun x y H Q => rEqE X.K x y H fun b => Q (.bl (!b)) H) := by
 intro pins s σ H x y v u Q I rx ry h
 have hu1 : X.A.units < cLine := by omega
 rcases h with ⟨a, b, xs, rfl, rfl, ha, hb, q⟩ | ⟨a, b, xs, rfl, rfl, ha, hb, q⟩ | ⟨a, b, kvs, rfl, rfl, ha, hb, q⟩
 ·cases rx; cases ry
  obtain ⟨its, r, p, _⟩ := I.tuple ha
  obtain ⟨its2, r2, p2, _⟩ := I.tuple hb
  cases r2
  refine SeqAt.RcNeAt.tuples (e := fun _ => true) p p2 hu1 (fun j _ h2 => absurd h2 (Nat.not_lt_zero j)) X.prog X.w _ _ ⟨.bl (!decide (xs = [])), H, I, ?_, q⟩
  rw [← nil_of r, ← size0]
  simp [L2.RelV]
 ·cases rx; cases ry
  obtain ⟨its, r, p, _⟩ := I.list ha
  obtain ⟨its2, r2, p2, _⟩ := I.list hb
  cases r2
  cases its with
  | nil =>
   refine SeqAt.RcNeAt.lists (e := fun _ => true) p.isList p2.isList rfl hu1 (fun j _ h2 => absurd h2 (Nat.not_lt_zero j)) X.prog X.w _ _ ⟨.bl (!decide (xs = [])), H, I, ?_, q⟩
   rw [← nil_of r]
   rfl
  | cons c cs =>
   refine SeqAt.RcNeAt.lists_lengths p.isList p2.isList (by simp) hu1 X.prog X.w _ _ ⟨.bl (!decide (xs = [])), H, I, ?_, q⟩
   rw [← nil_of r]
   rfl
 ·cases rx; cases ry
  obtain ⟨_, ya, va, ra, da⟩ := dk_of I.hok ha
  obtain ⟨_, yb, vb, rb, db⟩ := dk_of I.hok hb
  cases rb
  refine PySem.W.keq_ne (r := true) ya yb da db hu1 (fun hl => ?_) ⟨.bl (!decide (kvs = [])), H, I, ?_, q⟩
  ·cases va with
   | nil => exact .nil
   | cons c cs => cases hl
  ·rw [← nil_of_kv ra]
   cases va <;> rfl
theorem opu_eq (hu : X.A.units + 64 < cLine) : OpR X (compareOp .Eq) (uEq X.K) := by
 intro pins s σ H x y v u Q I rx ry h
 exact h.elim (fun h => op_eq pins s σ H _ _ v u Q I rx ry h) (fun h => h.elim (fun h => op_eqD hu pins s σ H _ _ v u Q I rx ry h) (fun h => op_eqE hu pins s σ H _ _ v u Q I rx ry h))
theorem opu_ne (hu : X.A.units + 64 < cLine) : OpR X (compareOp .NotEq) (uNe X.K) := by
 intro pins s σ H x y v u Q I rx ry h
 exact h.elim (fun h => op_ne pins s σ H _ _ v u Q I rx ry h) (fun h => h.elim (fun h => op_neD hu pins s σ H _ _ v u Q I rx ry h) (fun h => op_neE hu pins s σ H _ _ v u Q I rx ry h))
theorem opu_lt : OpR X (compareOp .Lt) (uLt X.K) := by
 intro pins s σ H x y v u Q I rx ry h
 cases x <;> cases y <;> first
  | exact absurd h id
  | exact op_lt pins s σ H _ _ v u Q I rx ry ⟨_, _, rfl, rfl, h⟩
  | exact op_lt_str pins s σ H _ _ v u Q I rx ry ⟨_, _, rfl, rfl, h⟩
theorem opu_gt : OpR X (compareOp .Gt) uGt := by
 intro pins s σ H x y v u Q I rx ry h
 cases x <;> cases y <;> first
  | exact absurd h id
  | exact op_gt pins s σ H _ _ v u Q I rx ry ⟨_, _, rfl, rfl, h⟩
theorem opu_le : OpR X (compareOp .LtE) uLe := by
 intro pins s σ H x y v u Q I rx ry h
 cases x <;> cases y <;> first
  | exact absurd h id
  | exact op_le pins s σ H _ _ v u Q I rx ry ⟨_, _, rfl, rfl, h⟩
  | exact op_le_str pins s σ H _ _ v u Q I rx ry ⟨_, _, rfl, rfl, h⟩
theorem opu_in : OpR X (compareOp .In) (uIn X.K) := by
 intro pins s σ H x y v u Q I rx ry h
 cases x <;> cases y <;> first
  | exact op_in_str pins s σ H _ _ v u Q I rx ry ⟨_, _, rfl, rfl, h⟩
  | exact op_in_seq pins s σ H _ _ v u Q I rx ry h
theorem opu_notIn : OpR X (compareOp .NotIn) (uNotIn X.K) := by
 intro pins s σ H x y v u Q I rx ry h
 cases x <;> cases y <;> first
  | exact op_notin_str pins s σ H _ _ v u Q I rx ry ⟨_, _, rfl, rfl, h⟩
  | exact op_notIn_seq pins s σ H _ _ v u Q I rx ry h
end
end SL
set_option Elab.async false
set_option linter.all false
set_option maxRecDepth 100000
set_option maxHeartbeats 2000000
namespace SL
open PySem PySem.Spec PyProof.Rows L2
section
variable {K : PySem.W.Frag} {σ : L2.St} {H : Hp} {Q : VK} {R : Bool → Hp → Prop} {D : Ends} {v x y : V} {i : Nat} {ta tb tc te : TE} {t u : TT} {ts tu : TS} {r : R2} {G : TG}
theorem g_var (h : σ[i]? = some (some v)) (q : Q v H) : tVar i σ H Q := ⟨v, h, q⟩
theorem g_c (q : Q v H) : tC v σ H Q := q
theorem g_op (q : ta σ H fun x H1 => tb σ H1 fun y H2 => r x y H2 Q) : tOp r ta tb σ H Q := q
theorem g_un {ru : V → Hp → VK → Prop} (q : ta σ H fun x H1 => ru x H1 Q) : tUn ru ta σ H Q := q
theorem g_test (q : ta σ H fun x H' => ∃ k, x = .bl k ∧ R k H') : tTest ta σ H R := q
theorem g_B (q : ta σ H fun x H' => ∃ k, x = .bl k ∧ R k H') : tB ta σ H R := q
theorem g_k {A : Bool → Prop} {b : Bool} (q : A b) : ∃ k, V.bl b = V.bl k ∧ A k := ⟨b, rfl, q⟩
theorem g_and (q : t σ H fun c H1 => if c = true then u σ H1 R else R false H1) : tAnd t u σ H R := q
theorem g_or (q : t σ H fun c H1 => if c = true then R true H1 else u σ H1 R) : tOr t u σ H R := q
theorem g_not (q : t σ H fun c H1 => R (!c) H1) : tNot t σ H R := q
theorem g_ifE (q : t σ H fun c H1 => if c = true then ta σ H1 Q else tb σ H1 Q) : tIf t ta tb σ H Q := q
theorem g_seq (q : ts { D with nx := tu D } σ H) : tSeq ts tu D σ H := q
theorem g_asg (q : te σ H fun w H1 => G w σ H1 D.nx) : tAsg te G D σ H := q
theorem g_name {P : L2.St → Hp → Prop} (q : P (σ.set i (some v)) H) : gName i v σ H P := q
theorem g_sub {to ti : TE} {tset : TSet} {P : L2.St → Hp → Prop} (q : to σ H fun o H1 => ti σ H1 fun k H2 => tset o k v H2 fun H3 => P σ H3) : gSub to ti tset v σ H P := q
theorem g_if (q : t σ H fun b H1 => if b = true then ts D σ H1 else tu D σ H1) : tIfS t ts tu D σ H := q
theorem g_ret (q : te σ H D.rt) : tRet te D σ H := q
theorem g_next (q : D.nx σ H) : tNext D σ H := q
theorem g_drop (q : te σ H fun _ H1 => D.nx σ H1) : tDrop te D σ H := q
theorem g_nil {A : List V → Hp → Prop} (q : A [] H) : tNil σ H A := q
theorem g_cons {tr : TA} {A : List V → Hp → Prop} (q : ta σ H fun x H1 => tr σ H1 fun xs H2 => A (x :: xs) H2) : tCons ta tr σ H A := q
theorem g_tup {tl : TA} (q : tl σ H fun xs H1 => xs.length ≤ sizeLine ∧ ∀ p, H1 p = none → Q (.ref p) (upd H1 p (.tup xs))) : tTup tl σ H Q := q
theorem g_lst {tl : TA} (q : tl σ H fun xs H1 => xs.length ≤ sizeLine ∧ ∀ p, H1 p = none → Q (.ref p) (upd H1 p (.lst xs))) : tLst tl σ H Q := q
theorem g_cb {rc : List V → Hp → VK → Prop} {tl : TA} (q : tl σ H fun vs H1 => rc vs H1 Q) : tCB rc tl σ H Q := q
theorem g_call {sp : Sp} {dvs : List V} {E : XK} {tl : TA} (q : tl σ H fun vs H1 => sp (vs ++ dvs) H1 Q E) : tCall sp dvs E tl σ H Q := q
theorem g_sl {rs : V → Option Int → Option Int → Hp → VK → Prop} {tl th : TO} (q : te σ H fun x H1 => tl σ H1 fun l H2 => th σ H2 fun u H3 => rs x l u H3 Q) : tSl rs te tl th σ H Q := q
theorem g_noPart {A : Option Int → Hp → Prop} (q : A none H) : tNoPart σ H A := q
theorem g_part {A : Option Int → Hp → Prop} (q : te σ H fun x H1 => ∃ i, x = .int i ∧ A (some i) H1) : tPart te σ H A := q
theorem g_ki {A : Int → Prop} {i : Int} (q : A i) : ∃ k, V.int i = V.int k ∧ A k := ⟨i, rfl, q⟩
theorem g_for {wi : TI} (q : wi σ H fun J H1 => ∃ W : Nat → Nat → L2.St → Hp → Prop, (∃ m, W 0 m σ H1) ∧ ∀ i m σ H, W i m σ H →
 (J.stop i H ∧ D.nx σ H) ∨ (J.go i H ∧ ∃ N : L2.St → Hp → Prop, (∀ σ' H', N σ' H' → ∃ m', m' < m ∧ W (i + 1) m' σ' H') ∧ ∀ x H', J.yld i H x H' → G x σ H' fun σ2 H2 => ts { D with nx := N, ct := N, bk := D.nx } σ2 H2)) : tFor wi G ts D σ H := q
theorem g_iR1 {tl : TA} {S : It → Hp → Prop} (q : tl σ H fun vs H1 => ∃ j : Int, vs = [.int j] ∧ -(2 ^ 62) ≤ j ∧ j < 2 ^ 62 ∧ S (Itr 0 j.toNat) H1) : iRng1 tl σ H S := q
theorem g_iR2 {tl : TA} {S : It → Hp → Prop} (q : tl σ H fun vs H1 => ∃ i j : Int, vs = [.int i, .int j] ∧ (-(2 ^ 62) ≤ i ∧ i < 2 ^ 62 ∧ -(2 ^ 62) ≤ j ∧ j < 2 ^ 62) ∧ S (Itr i (j - i).toNat) H1) : iRng2 tl σ H S := q
theorem g_iL {S : It → Hp → Prop} (q : te σ H fun x H1 => ∃ a, x = .ref a ∧ (∃ xs, SqL K H1 a xs) ∧ S (Itl K a) H1) : iList K te σ H S := q
theorem g_iT {S : It → Hp → Prop} (q : te σ H fun x H1 => ∃ a, x = .ref a ∧ (∃ xs, SqT K H1 a xs) ∧ S (Itt K a) H1) : iTup K te σ H S := q
theorem g_lc {wi : TI} {vs : List Nat} (q : wi σ H fun J H1 => ∀ D, H1 D = none → ∃ W : Nat → Nat → Hp → Prop, (∃ m, W 0 m (upd H1 D (.lst []))) ∧ ∀ i m H, W i m H →
 (J.stop i H ∧ Q (.ref D) H) ∨ (J.go i H ∧ ∃ Nx : Hp → Prop, (∀ H', Nx H' → ∃ m', m' < m ∧ W (i + 1) m' H') ∧ ∀ x H', J.yld i H x H' → G x (wipe σ vs) H' fun σ2 H2 => wipe σ2 vs = wipe σ vs ∧ t σ2 H2 fun b H3 =>
  if b = true then te σ2 H3 fun y H4 => ∃ acc, H4 D = some (.lst acc) ∧ acc.length < sizeLine ∧ Nx (upd H4 D (.lst (acc ++ [y]))) else Nx H3)) : tLc wi G t te vs σ H Q := q
theorem g_gtup {p : Addr} {xs : List V} {n : Nat} {tt : TGs} {P : L2.St → Hp → Prop} (h : SqT K H p xs) (hl : xs.length = n) (q : tt xs σ H P) : gTup K n tt (.ref p) σ H P := ⟨p, xs, rfl, h, hl, q⟩
theorem g_gcons {xs : List V} {tt : TGs} {P : L2.St → Hp → Prop} (q : G v σ H fun σ' H' => tt xs σ' H' P) : gCons G tt (v :: xs) σ H P := ⟨v, xs, rfl, q⟩
theorem g_gnil {P : L2.St → Hp → Prop} (q : P σ H) : gNil [] σ H P := ⟨rfl, q⟩
theorem g_yes (q : R true H) : tYes σ H R := q
theorem g_andT (q : ta σ H fun x H1 => ∃ k, TruV K x H1 k ∧ if k = true then tb σ H1 Q else Q x H1) : tAndT K ta tb σ H Q := q
theorem g_orT (q : ta σ H fun x H1 => ∃ k, TruV K x H1 k ∧ if k = true then Q x H1 else tb σ H1 Q) : tOrT K ta tb σ H Q := q
theorem g_notT (q : ta σ H fun x H1 => ∃ k, TruV K x H1 k ∧ Q (.bl (!k)) H1) : tNotT K ta σ H Q := q
theorem g_truB {A : Bool → Prop} {b : Bool} (q : A b) : ∃ k, TruV K (.bl b) H k ∧ A k := ⟨b, rfl, q⟩
theorem g_addI {i j : Int} (q : Q (.int (i + j)) H) : uAdd K (.int i) (.int j) H Q := q
theorem g_addS {a b : Str} (h : a.length + b.length ≤ sizeLine) (q : Q (.str (a ++ b)) H) : uAdd K (.str a) (.str b) H Q := ⟨h, q⟩
theorem g_addL {a b : Addr} {xs ys : List V} (h : H a = some (.lst xs)) (h2 : H b = some (.lst ys)) (hs : xs.length + ys.length ≤ sizeLine) (q : ∀ p, H p = none → Q (.ref p) (upd H p (.lst (xs ++ ys)))) : uAdd K (.ref a) (.ref b) H Q :=
 .inl ⟨a, b, xs, ys, rfl, rfl, h, h2, hs, q⟩
theorem g_subI {i j : Int} (q : Q (.int (i - j)) H) : uSub (.int i) (.int j) H Q := q
theorem g_mulI {i j : Int} (h : IntMulOk i j) (q : Q (.int (i * j)) H) : uMul (.int i) (.int j) H Q := ⟨h, q⟩
theorem g_divI {i j : Int} (h : CDivW i j) (q : Q (.int (i / j)) H) : uDiv (.int i) (.int j) H Q := ⟨h, q⟩
theorem g_modI {i j : Int} (h : 0 < j) (q : Q (.int (i % j)) H) : uMod (.int i) (.int j) H Q := ⟨h, q⟩
theorem g_powI {i j : Int} (h : CPow i j) (q : Q (.int (i ^ j.toNat)) H) : uPow (.int i) (.int j) H Q := ⟨h, q⟩
theorem g_ltI {i j : Int} (q : Q (.bl (decide (i < j))) H) : uLt K (.int i) (.int j) H Q := q
theorem g_gtI {i j : Int} (q : Q (.bl (decide (j < i))) H) : uGt (.int i) (.int j) H Q := q
theorem g_leI {i j : Int} (q : Q (.bl (decide (i ≤ j))) H) : uLe (.int i) (.int j) H Q := q
theorem g_geI {i j : Int} (q : Q (.bl (decide (j ≤ i))) H) : uGe (.int i) (.int j) H Q := q
theorem dec_i {i j : Int} : decide (V.int i = V.int j) = decide (i = j) := by
 by_cases h : i = j
 ·rw [decide_eq_true h, h]; exact decide_eq_true rfl
 ·rw [decide_eq_false h]; exact decide_eq_false fun z => h (V.int.inj z)
theorem dec_s {i j : Str} : decide (V.str i = V.str j) = decide (i = j) := by
 by_cases h : i = j
 ·rw [decide_eq_true h, h]; exact decide_eq_true rfl
 ·rw [decide_eq_false h]; exact decide_eq_false fun z => h (V.str.inj z)
theorem dec_b {i j : Bool} : decide (V.bl i = V.bl j) = decide (i = j) := by
 by_cases h : i = j
 ·rw [decide_eq_true h, h]; exact decide_eq_true rfl
 ·rw [decide_eq_false h]; exact decide_eq_false fun z => h (V.bl.inj z)
theorem g_eqI {i j : Int} (q : Q (.bl (decide (i = j))) H) : uEq K (.int i) (.int j) H Q := .inl ⟨rfl, by rw [dec_i]; exact q⟩
theorem g_eqS {i j : Str} (q : Q (.bl (decide (i = j))) H) : uEq K (.str i) (.str j) H Q := .inl ⟨rfl, by rw [dec_s]; exact q⟩
theorem g_eqB {i j : Bool} (q : Q (.bl (decide (i = j))) H) : uEq K (.bl i) (.bl j) H Q := .inl ⟨rfl, by rw [dec_b]; exact q⟩
theorem g_eqD {d e : PyData} (h : Dp K H x d) (h2 : Dp K H y e) (hs : SeqAt.shaped d = true) (hs2 : SeqAt.shaped e = true) (q : Q (.bl (PyData.eqv d e)) H) : uEq K x y H Q := .inr (.inl ⟨d, e, h, h2, hs, hs2, q⟩)
theorem g_neI {i j : Int} (q : Q (.bl (!decide (i = j))) H) : uNe K (.int i) (.int j) H Q := .inl ⟨rfl, by rw [dec_i]; exact q⟩
theorem g_neS {i j : Str} (q : Q (.bl (!decide (i = j))) H) : uNe K (.str i) (.str j) H Q := .inl ⟨rfl, by rw [dec_s]; exact q⟩
theorem g_neB {i j : Bool} (q : Q (.bl (!decide (i = j))) H) : uNe K (.bl i) (.bl j) H Q := .inl ⟨rfl, by rw [dec_b]; exact q⟩
theorem g_eqEL {a b : Addr} {xs : List V} (h : SqL K H a xs) (h2 : SqL K H b []) (q : Q (.bl (decide (xs = []))) H) : uEq K (.ref a) (.ref b) H Q := .inr (.inr (.inr (.inl ⟨a, b, xs, rfl, rfl, h, h2, q⟩)))
theorem g_neEL {a b : Addr} {xs : List V} (h : SqL K H a xs) (h2 : SqL K H b []) (q : Q (.bl (!decide (xs = []))) H) : uNe K (.ref a) (.ref b) H Q := .inr (.inr (.inr (.inl ⟨a, b, xs, rfl, rfl, h, h2, q⟩)))
theorem g_ixL {p : Addr} {xs : List V} {i : Int} (h : SqL K H p xs) (e : atI xs i = some v) (q : Q v H) : rIx K (.ref p) (.int i) H Q := .inl ⟨p, xs, i, v, rfl, rfl, h, e, q⟩
theorem g_ixT {p : Addr} {xs : List V} {i : Int} (h : SqT K H p xs) (e : atI xs i = some v) (q : Q v H) : rIx K (.ref p) (.int i) H Q := .inr (.inl ⟨p, xs, i, v, rfl, rfl, h, e, q⟩)
theorem g_ixS {z : Str} {i : Int} {c : Nat} (h : z.length ≤ sizeLine) (e : atI z.cps.toList i = some c) (q : Q (.str ⟨#[c]⟩) H) : rIx K (.str z) (.int i) H Q := .inr (.inr ⟨z, i, c, rfl, rfl, h, e, q⟩)
theorem g_setL {p : Addr} {xs : List V} {k : Int} {j : Nat} {P : Hp → Prop} (h : H p = some (.lst xs)) (e : ixN xs.length k = some j) (q : P (upd H p (.lst (xs.set j v)))) : rSetL (.ref p) (.int k) v H P := ⟨p, xs, k, j, rfl, rfl, h, e, q⟩
theorem g_slL {p : Addr} {xs : List V} {lo hi : Option Int} (h : SqL K H p xs) (q : ∀ p, H p = none → Q (.ref p) (upd H p (.lst (cutV xs lo hi)))) : rSlL K (.ref p) lo hi H Q := ⟨p, xs, rfl, h, q⟩
theorem cut0 (xs : List V) (n : Nat) : cutV xs none (some (n : Int)) = xs.take n := by
 unfold cutV
 rw [HT.sIx_none, HT.sIx_nat, List.drop_zero, Nat.sub_zero]
 by_cases h : n ≤ xs.length
 ·rw [Nat.min_eq_left h]
 ·rw [Nat.min_eq_right (by omega), List.take_length, List.take_of_length_le (by omega)]
theorem cutA (xs : List V) (n : Nat) : cutV xs (some (n : Int)) none = xs.drop n := by
 unfold cutV
 rw [HT.sIx_none, HT.sIx_nat]
 by_cases h : n ≤ xs.length
 ·rw [Nat.min_eq_left h, ← List.length_drop, List.take_length]
 ·rw [Nat.min_eq_right (by omega), Nat.sub_self, List.take_zero, List.drop_eq_nil_of_le (by omega)]
theorem rd_start {tm : TS} {N : List Str} {vs : List V} {σ0 : L2.St} (e : start N vs = σ0) (q : tm D σ0 H) : tm D (start N vs) H := by rw [e]; exact q
theorem lt_of {n : Nat} (h : n ≤ 100000) : n < sizeLine := Nat.lt_of_le_of_lt h (by decide)
theorem le_of {n : Nat} (h : n ≤ 100000) : n ≤ sizeLine := Nat.le_trans h (by decide)
theorem g_tt {c : Bool} {A B : Prop} (h : c = true) (q : A) : if c = true then A else B := by rw [if_pos h]; exact q
theorem g_ff {c : Bool} {A B : Prop} (h : c = false) (q : B) : if c = true then A else B := by rw [if_neg (by rw [h]; exact Bool.false_ne_true)]; exact q
theorem g_by {c : Prop} [Decidable c] {A B : Prop} (h1 : c → A) (h2 : ¬ c → B) : if decide c = true then A else B := by
 by_cases h : c
 ·exact g_tt (decide_eq_true h) (h1 h)
 ·exact g_ff (decide_eq_false h) (h2 h)
theorem g_byN {c : Prop} [Decidable c] {A B : Prop} (h1 : ¬ c → A) (h2 : c → B) : if (!decide c) = true then A else B := by
 by_cases h : c
 ·exact g_ff (by rw [decide_eq_true h]; rfl) (h2 h)
 ·exact g_tt (by rw [decide_eq_false h]; rfl) (h1 h)
theorem g_byB {c : Bool} {A B : Prop} (h1 : c = true → A) (h2 : c = false → B) : if c = true then A else B := by
 cases c with
 | true => exact h1 rfl
 | false => exact h2 rfl
theorem mulR {i j : Int} (h1 : -(2 ^ 64) < j) (h2 : j < 2 ^ 64) : IntMulOk i j := .of_right (intBits_le_64 h1 h2)
theorem mulL {i j : Int} (h1 : -(2 ^ 64) < i) (h2 : i < 2 ^ 64) : IntMulOk i j := .of_left (intBits_le_64 h1 h2)
theorem divS {i j : Int} (h : 0 < j) (h2 : j < 2 ^ 200) : CDivW i j := by
 refine ⟨h, ?_⟩
 have e : j.natAbs < 2 ^ 200 := by omega
 exact Nat.lt_of_lt_of_le (PySem.Flt.log2_lt_of (by decide) e) (by decide)
end
end SL
set_option Elab.async false
set_option linter.all false
set_option maxRecDepth 100000
set_option maxHeartbeats 2000000
namespace SL
open PySem PySem.Spec PyProof.Rows L2
structure Cal (P : Program) (w : World) (K : PySem.W.Frag) (mg : Str → Option Value) (base : Heap) (k : Nat) (x : Str) (sp : Sp) : Prop where
 ex : ∃ (f : Addr) (fd : FuncData) (ps : List Str), FnOk P w K mg base CX0 k f fd ps sp ∧ mg x = some (.ref f) ∧ PySem.W.keepIn K (.ref f) = true ∧ Binds K fd ps []
section
variable {P : Program} {w : World} {K : PySem.W.Frag} {mg : Str → Option Value} {base : Heap}
theorem Cal.mono {j k : Nat} {x : Str} {sp : Sp} (c : Cal P w K mg base j x sp) (h : j ≤ k) : Cal P w K mg base k x sp := by
 obtain ⟨f, fd, ps, F, m, kp, b⟩ := c.ex
 exact ⟨f, fd, ps, F.mono h, m, kp, b⟩
theorem Cal.imp {k : Nat} {x : Str} {sp sp' : Sp} (c : Cal P w K mg base k x sp) (h : ∀ vs H Q E, sp' vs H Q E → sp vs H Q E) : Cal P w K mg base k x sp' := by
 obtain ⟨f, fd, ps, F, m, kp, b⟩ := c.ex
 exact ⟨f, fd, ps, F.imp h, m, kp, b⟩
end
section
variable {X : Cx} {k j : Nat} {x : Str} {sp : Sp} {p pos : Pos} {e : Expr} {es : List Expr} {t : TA}
def uLen (K : PySem.W.Frag) : List V → Hp → VK → Prop := fun xs H Q => ∃ x, xs = [x] ∧ match x with
 | .str z => z.length ≤ sizeLine ∧ Q (.int z.length) H
 | .ref p => (∃ ys, (SqL K H p ys ∨ SqT K H p ys) ∧ Q (.int ys.length) H) ∨ ∃ kvs, H p = some (.dK kvs) ∧ Q (.int kvs.length) H
 | _ => False
theorem callu_len : CallR X (.builtin "len") (uLen X.K) := by
  intro pins s σ H xs us Q I r h
  obtain ⟨x, rfl, h⟩ := h
  cases x <;> first
    | exact absurd h id
    | exact call_len_str pins s σ H _ us Q I r ⟨_, rfl, h.1, h.2⟩
    | (rcases h with ⟨ys, h1, h2⟩ | ⟨kvs, h1, h2⟩
       · exact call_len_seq pins s σ H _ us Q I r ⟨_, ys, rfl, h1, h2⟩
       · obtain ⟨u, rfl, r1⟩ := vals1 r
         cases r1
         exact d_len I (.inl h1) fun t s' I' => ⟨.int _, H, I', ⟨_, rfl⟩, h2⟩)
def uList (K : PySem.W.Frag) : List V → Hp → VK → Prop := fun xs H Q => (∃ p ys, xs = [.ref p] ∧ (SqL K H p ys ∨ SqT K H p ys) ∧ ∀ l, H l = none → Q (.ref l) (upd H l (.lst ys))) ∨ rListD xs H Q
theorem callu_list (hc : X.calm = true := by rfl) : CallR X (.type "list") (uList X.K) := call_list_of.or (call_list_dK hc)
def uIsi (K : PySem.W.Frag) : List V → Hp → VK → Prop := fun xs H Q => rIsi K xs H Q ∨ rIsiT K xs H Q
theorem callu_isi : CallR X (.builtin "isinstance") (uIsi X.K) := call_isi.or call_isiT
end
section
variable {K : PySem.W.Frag} {H : Hp} {Q : VK}
theorem g_len {p : Addr} {ys : List V} (h : SqL K H p ys ∨ SqT K H p ys) (q : Q (.int ys.length) H) : uLen K [.ref p] H Q := ⟨_, rfl, .inl ⟨ys, h, q⟩⟩
theorem g_list {p : Addr} {ys : List V} (h : SqL K H p ys ∨ SqT K H p ys) (q : ∀ l, H l = none → Q (.ref l) (upd H l (.lst ys))) : uList K [.ref p] H Q := .inl ⟨p, ys, rfl, h, q⟩
theorem g_listD {p : Addr} {kvs : List (Key × V)} (h : H p = some (.dK kvs)) (q : ∀ l, H l = none → Q (.ref l) (upd H l (.lst (kvs.map fun kv => kV kv.1)))) : uList K [.ref p] H Q := .inr ⟨p, kvs, rfl, h, q⟩
end
end SL
namespace SL
open PySem PySem.Spec PyProof.Rows L2
def shownV : V → Str
 | .int i => toString i
 | .str z => reprText z
 | .bl b => if b then "True" else "False"
 | _ => "None"
def shortV : V → Prop
 | .int i => i.natAbs.log2 < 1920
 | .str z => (reprText z).length ≤ sizeLine
 | .bl _ => True
 | .non => True
 | _ => False
def uRepr : List V → Hp → VK → Prop := fun xs H Q => ∃ x, xs = [x] ∧ shortV x ∧ Q (.str (shownV x)) H
theorem callu_repr {X : Cx} : CallR X (.builtin "repr") uRepr := by
 intro pins s σ H xs us Q I r h
 obtain ⟨x, rfl, hs, q⟩ := h
 obtain ⟨u, rfl, r1⟩ := vals1 r
 cases x with
 | int i =>
  obtain ⟨t, rfl⟩ := r1
  exact PySem.P.repr_of_int hs ⟨.str _, H, I.tok _, ⟨_, rfl⟩, q⟩
 | str z =>
  obtain ⟨t, rfl⟩ := r1
  exact PySem.P.repr_of_str ⟨.str _, H, I.tok _, ⟨_, rfl⟩, q⟩ hs
 | bl b =>
  cases r1
  exact PySem.P.repr_of_bool ⟨.str (if b then "True" else "False"), H, I.tok _, ⟨_, by cases b <;> rfl⟩, q⟩
 | non =>
  cases r1
  exact PySem.P.repr_of_none ⟨.str _, H, I.tok _, ⟨_, rfl⟩, q⟩
 | _ => exact absurd hs id
section
variable {K : PySem.W.Frag} {H : Hp} {Q : VK} {x : V}
theorem tyx_l {p : Addr} {xs : List V} (h : SqL K H p xs) : TyX K H (.ref p) (.type "list") := by
 rcases h with (h | ⟨o, h⟩) | ⟨o, its, n, h1, h2, _⟩
 ·exact .base (.lst h)
 ·exact .base (.frz h)
 ·exact .kList h1 h2
theorem tyx_t {p : Addr} {xs : List V} (h : SqT K H p xs) : TyX K H (.ref p) (.type "tuple") := by
 rcases h with (h | ⟨o, h⟩) | ⟨o, its, n, h1, h2, _⟩
 ·exact .base (.tup h)
 ·exact .fTuple h
 ·exact .kTuple h1 h2
theorem g_isi {T U : String} {b : Bool} (ty : TyX K H x (.type T)) (e : kitB T U = some b) (q : Q (.bl b) H) : uIsi K [x, .ty U] H Q := .inl ⟨x, .ty U, _, _, b, rfl, .ty U, ty, kit_ty e, q⟩
theorem g_isi2 {T U1 U2 : String} {b1 b2 : Bool} {tp : Addr} (ht : H tp = some (.tup [.ty U1, .ty U2])) (ty : TyX K H x (.type T)) (e1 : kitB T U1 = some b1) (e2 : kitB T U2 = some b2) (q : Q (.bl (b1 || b2)) H) : uIsi K [x, .ref tp] H Q := by
 refine .inr ⟨x, tp, [.ty U1, .ty U2], _, [.type U1, .type U2], b1 || b2, rfl, ht, .cons (.ty U1) (.cons (.ty U2) .nil), ty, ?_, q⟩
 refine kitAny_cons (kit_ty e1) (fun h => ?_) (fun h => by rw [h]; rfl)
 subst h
 refine kitAny_cons (kit_ty e2) (fun h => ?_) (fun h => by rw [h]; rfl)
 subst h
 exact kitAny_nil
end
def Sm : Nat → PyData → Prop
 | 0, _ => False
 | _ + 1, .int i => i.natAbs.log2 < 1920
 | _ + 1, .str z => (reprText z).length ≤ sizeLine
 | _ + 1, .bool _ => True
 | _ + 1, .none => True
 | n + 1, .list ds => ds.length ≤ 10000 ∧ ∀ d ∈ ds, Sm n d
 | n + 1, .tuple ds => ds.length ≤ 10000 ∧ ∀ d ∈ ds, Sm n d
 | _ + 1, .dict _ => False
section
variable {K : PySem.W.Frag} {H H' : Hp} {M : List Addr}
mutual
theorem dp_same (e : Same H H') : ∀ {v : V} {d : PyData}, Dp K H v d → Dp K H' v d
 | _, _, .non => .non
 | _, _, .bl b => .bl b
 | _, _, .int i => .int i
 | _, _, .str x => .str x
 | _, _, .lst h hs => .lst (e.seq h) (dpa_same e hs)
 | _, _, .tup h hs => .tup ((Fr.of_same (M := []) e).tup h) (dpa_same e hs)
theorem dpa_same (e : Same H H') : ∀ {vs : List V} {ds : List PyData}, DpAll K H vs ds → DpAll K H' vs ds
 | _, _, .nil => .nil
 | _, _, .cons h hs => .cons (dp_same e h) (dpa_same e hs)
end
theorem dpa_len : ∀ {vs : List V} {ds : List PyData}, DpAll K H vs ds → vs.length = ds.length
 | _, _, .nil => rfl
 | _, _, .cons _ hs => congrArg Nat.succ (dpa_len hs)
theorem dpa_get : ∀ {vs : List V} {ds : List PyData} {i : Nat} {v : V}, DpAll K H vs ds → vs[i]? = some v → ∃ d, ds[i]? = some d ∧ Dp K H v d
 | _, _, _, _, .nil, e => by simp at e
 | _, _, 0, v, .cons h _, e => by simp at e; subst e; exact ⟨_, rfl, h⟩
 | _, _, i + 1, v, .cons _ hs, e => by
  obtain ⟨d, h1, h2⟩ := dpa_get (i := i) (v := v) hs (by simpa using e)
  exact ⟨d, by simpa using h1, h2⟩
end
end SL
namespace SL
open PySem PySem.Spec PyProof.Rows L2
section
variable {K : PySem.W.Frag} {σ : L2.St} {H : Hp} {a b : Addr} {xs ys : List V}
theorem walk_zipT {n : Nat} (hn : n = min xs.length ys.length) : Walk (RZ.ItzT K a b) n (fun H => SqT K H a xs ∧ SqT K H b ys) (YPair (fun i => xs[i]?) (fun i => ys[i]?)) :=
 have both : ∀ {i : Nat}, i < n → i < xs.length ∧ i < ys.length := fun {i} lt => by omega
 {
  goes := fun i _ lt q => ⟨xs, ys, xs[i]'(both lt).1, ys[i]'(both lt).2, q.1, q.2, List.getElem?_eq_getElem _, List.getElem?_eq_getElem _⟩
  stops := fun _ q => ⟨xs, ys, q.1, q.2, by omega⟩
  yields := fun i H v H' _ q y => have ⟨T, x, z, isT, new, as, fx, fy⟩ := y; ⟨T, x, z, isT, new, as, fx xs q.1, fy ys q.2⟩
 }
theorem g_izA {tl : TA} {S : It → Hp → Prop} (q : tl σ H fun vs H1 => ∃ a b xs ys, vs = [.ref a, .ref b] ∧ ((SqL K H1 a xs ∧ SqL K H1 b ys ∧ S (Itz K a b) H1) ∨ (SqT K H1 a xs ∧ SqT K H1 b ys ∧ S (RZ.ItzT K a b) H1))) : RZ.iZipA K tl σ H S := q
theorem g_iz {tl : TA} {S : It → Hp → Prop} (q : tl σ H fun vs H1 => ∃ a b xs ys, vs = [.ref a, .ref b] ∧ SqL K H1 a xs ∧ SqL K H1 b ys ∧ S (Itz K a b) H1) : iZip K tl σ H S := q
end
end SL
set_option Elab.async false
set_option linter.all false
set_option maxRecDepth 100000
set_option maxHeartbeats 2000000
namespace SL
open PySem PySem.Spec PyProof.Rows L2
structure RoomG (k : Nat) (A : Around) : Prop where
 rm : Room k A
 gd : A.guards = some []
theorem RoomG.mono {j k : Nat} {A : Around} (r : RoomG k A) (h : j ≤ k) : RoomG j A := ⟨r.rm.mono h, r.gd⟩
theorem RoomG.units {k : Nat} {A : Around} (r : RoomG k A) : A.units + 64 < cLine := r.rm.units
structure FnG (P : Program) (w : World) (K : PySem.W.Frag) (mg : Str → Option Value) (base : Heap) (CX : CXT) (k : Nat) (f : Addr) (fd : FuncData) (ps : List Str) (sp : Sp) : Prop where
 len : ∀ vs H Q E, sp vs H Q E → vs.length = ps.length
 go : ∀ (A : Around) (outer : List Env) (s : Shared) (H : Hp) (args : Args) (us : List Value) (vs : List V) (Q : VK) (E : XK), RoomG k A →
  Env0 P w K mg base A outer s H → BindsTo s fd args (ps.zip us) → Vals vs us → sp vs H Q E → codeAny (model P w) A (.call (.ref f) args) (CR CX outer P w H s Q E) s
section
variable {P : Program} {w : World} {K : PySem.W.Frag} {mg : Str → Option Value} {base : Heap} {CX : CXT}
theorem FnG.up {j k : Nat} {f : Addr} {fd : FuncData} {ps : List Str} {sp : Sp} (F : FnG P w K mg base CX j f fd ps sp) (h : j ≤ k) : FnG P w K mg base CX k f fd ps sp :=
 ⟨F.len, fun A outer s H args us vs Q E r => F.go A outer s H args us vs Q E (r.mono h)⟩
theorem FnG.imp {k : Nat} {f : Addr} {fd : FuncData} {ps : List Str} {sp sp' : Sp} (F : FnG P w K mg base CX k f fd ps sp) (h : ∀ vs H Q E, sp' vs H Q E → sp vs H Q E) : FnG P w K mg base CX k f fd ps sp' :=
 ⟨fun vs H Q E z => F.len vs H Q E (h vs H Q E z), fun A outer s H args us vs Q E r e b v z => F.go A outer s H args us vs Q E r e b v (h vs H Q E z)⟩
theorem fng_of {k : Nat} {f : Addr} {x qual : Str} {pr : Arguments} {bd : List Stmt} {sc : Scope} {dV kV doc pm cdv ct oc : Value} {an od : Option Addr} {osl : Array (Option Value)} {N ps : List Str} {sp : Sp}
  (lk : K.lookup f = some ⟨oc, od, .func (PySem.W.fnOf x qual pr bd sc dV kV doc pm an cdv ct), osl⟩) (hcd : PySem.W.codeIn K cdv qual = true) (S : FnScope N ps sc) (hlen : ∀ vs H Q E, sp vs H Q E → vs.length = ps.length)
  (hb : ∀ (A : Around) (outer : List Env) (s : Shared) (H : Hp) (vs : List V) (Q : VK) (E : XK), RoomG k (A.deeper (envOfC qual sc s.heap.objs.size f cdv)) → sp vs H Q E →
   ∃ t, PSs (cxOf CX P w K mg base N qual sc f cdv A outer s H E) bd t ∧ t { nx := fun _ H' => Q .non H', rt := Q } (start N vs) H) :
  FnG P w K mg base CX (k + 1) f (PySem.W.fnOf x qual pr bd sc dV kV doc pm an cdv ct) ps sp := by
 constructor
 ·exact hlen
 intro A outer s H args us vs Q E hr env0 hbind rel hsp
 have nl := hlen _ _ _ _ hsp
 have inH : K.In s.heap := env0.mod.kin.keeps fun b o z => (env0.bs b o z).1
 have nolim : s.heap.NoLimit := env0.mod.nolimit.keeps fun b o z => (env0.bs b o z).1
 have kinds : ∀ y ∈ ps.zip us, sc.names.lookup y.1 = some .local ∨ (sc.names.lookup y.1 = some .cell ∧ ((cellsFrom (s.heap.objs.size + 1) sc.names []).lookup y.1).isSome = true) := by
  rintro ⟨n, v⟩ hy
  exact (S.par n (List.of_mem_zip hy).1).imp id fun q => ⟨q, PySem.W.cellsFrom_some _ _ _ (.inl q)⟩
 refine codeAny_call_function hr.rm.depth (inH _ _ lk) rfl S.co S.gen rfl (PySem.W.codeRec_of inH hcd) (hbind _ _ _ _ (wpAny_newFunctionEnv_cells S.kind kinds fun en hen s1 ic => ?_))
 subst hen
 refine ⟨nolim.keeps ic.toInCall.keep, codeAny_func ?_⟩
 obtain ⟨t, ht, hq⟩ := hb A outer s H vs Q E ⟨hr.rm.deeper _, hr.gd⟩ hsp
 have J0 : Inv (cxOf CX P w K mg base N qual sc f cdv A outer s H E) [] (start N vs) H s1 := inv_start S hr.rm.hd env0 nl rel ic
 refine wpAny_mono (ht.run [] s1 (start N vs) H _ J0 hq) (fun fl s2 h2 => ?_) fun e s2 h2 => h2
 cases fl with
 | next =>
  obtain ⟨σ2, H2, J, q2⟩ := h2
  exact ⟨V.non, H2, J.os, J.bare, J.base, J.hok, rfl, q2⟩
 | ret u =>
  obtain ⟨v, σ2, H2, J, rv, q2⟩ := h2
  exact ⟨v, H2, J.os, J.bare, J.base, J.hok, rv, q2⟩
 | brk => exact h2.elim fun _ z => z.elim fun _ z => z.2.elim
 | cont => exact h2.elim fun _ z => z.elim fun _ z => z.2.elim
theorem okG {x qual : Str} {pr : Arguments} {bd : List Stmt} {sc : Scope} {dvs : List V} {kws : List (Str × V)} {f : Addr} {fd : FuncData} {N ps : List Str} {k : Nat} {sp : Sp} (F : FunD K x qual pr bd sc dvs kws f fd) (S : FnScope N ps sc) (hlen : ∀ vs H Q E, sp vs H Q E → vs.length = ps.length)
  (hb : ∀ (cdv : Value) (A : Around) (outer : List Env) (s : Shared) (H : Hp) (vs : List V) (Q : VK) (E : XK), RoomG k (A.deeper (envOfC qual sc s.heap.objs.size f cdv)) → sp vs H Q E →
   ∃ t, PSs (cxOf CX P w K mg base N qual sc f cdv A outer s H E) bd t ∧ t { nx := fun _ H' => Q .non H', rt := Q } (start N vs) H) : FnG P w K mg base CX (k + 1) f fd ps sp := by
 obtain ⟨oc, od, dV, kV, doc, pm, an, cdv, ct, osl, rfl, lk, hcd, _, _⟩ := F.ex
 exact fng_of lk hcd S hlen fun A outer s H vs Q E hr hsp => hb cdv A outer s H vs Q E hr hsp
structure CalG (P : Program) (w : World) (K : PySem.W.Frag) (mg : Str → Option Value) (base : Heap) (k : Nat) (x : Str) (sp : Sp) : Prop where
 ex : ∃ (f : Addr) (fd : FuncData) (ps : List Str), FnG P w K mg base CX0 k f fd ps sp ∧ mg x = some (.ref f) ∧ PySem.W.keepIn K (.ref f) = true ∧ Binds K fd ps []
theorem CalG.mono {j k : Nat} {x : Str} {sp : Sp} (c : CalG P w K mg base j x sp) (h : j ≤ k) : CalG P w K mg base k x sp := by
 obtain ⟨f, fd, ps, F, m, kp, b⟩ := c.ex
 exact ⟨f, fd, ps, F.up h, m, kp, b⟩
theorem CalG.imp {k : Nat} {x : Str} {sp sp' : Sp} (c : CalG P w K mg base k x sp) (h : ∀ vs H Q E, sp' vs H Q E → sp vs H Q E) : CalG P w K mg base k x sp' := by
 obtain ⟨f, fd, ps, F, m, kp, b⟩ := c.ex
 exact ⟨f, fd, ps, F.imp h, m, kp, b⟩
end
section
variable {X : Cx} {k j : Nat} {x : Str} {sp : Sp} {p pos : Pos} {e : Expr} {es : List Expr} {t : TA}
theorem run_fng {CX : CXT} {f : Addr} {fd : FuncData} {ps : List Str} {dvs : List V} {ds : List Value} {E : XK} {pins : List (Addr × Obj)} {σ : L2.St} {H : Hp} {s : Shared} {Q : VK} {us : List Value} {vs : List V}
  (F : FnG X.prog X.w X.K X.mg X.base CX k f fd ps sp) (hr : RoomG k X.A) (hb : Binds X.K fd ps ds) (hd : Vals dvs ds) (hx : Passes CX X E) (I : Inv X pins σ H s) (r : Vals vs us) (h : sp (vs ++ dvs) H Q E) :
  wpAny (model X.prog X.w) X.A (call (.ref f) us) (EP X pins σ Q) X.xe s := by
 have rel : Vals (vs ++ dvs) (us ++ ds) := r.append hd
 have ln : (us ++ ds).length = ps.length := rel.length.symm.trans (F.len _ _ _ _ h)
 refine wpAny_call (codeAny_mono (F.go X.A X.stack s H ⟨us, []⟩ (us ++ ds) (vs ++ dvs) Q E hr I.env0 (hb s us I.kIn ln) rel h) fun res s2 hq => ?_)
 cases res with
 | ok fl =>
  cases fl with
  | ret u => exact I.after hq
  | _ => exact hq.elim
 | error z => exact hx pins σ H s z s2 I hq
theorem pe_calG (c : CalG X.prog X.w X.K X.mg X.base k x sp) (hr : RoomG j X.A) (hg : Gl X x) (ha : PA X (e :: es) t) (hk : k ≤ j := by first | decide | omega)
  (hdb : (x == ("__debug__" : Str)) = false := by decide) (hst : starEach (e :: es) X.env = (false, eval e X.env) :: starEach es X.env := by rfl) (hnp : (backTo pos (starEach es X.env)).any (·.1) = false := by rfl) :
  PE X (.Call (.Name x p) (e :: es) [] pos) (tCall sp [] E0 t) := by
 obtain ⟨f, fd, ps, F, hm, kp, b⟩ := c.ex
 constructor
 intro pins s σ H Q I h
 refine wpAny_Call_Name_kw (ld_glob I hg hm (PySem.W.callWith_K (h₀ := X.base) I.ok.mod.kin kp (thn (ha.run pos pins s σ H _ I h) fun us s1 z => ?_) hst hnp) hdb)
 obtain ⟨vs, H1, I1, r, q⟩ := z
 exact ⟨I1.kIn, run_fng F (hr.mono hk) b .nil pass0 I1 r q⟩
end
theorem calG_of {P : Program} {w : World} {K : PySem.W.Frag} {mg : Str → Option Value} {base : Heap} {k : Nat} {x : Str} {sp : Sp} {f : Addr} {fd : FuncData} {ps : List Str} (F : FnG P w K mg base CX0 k f fd ps sp) (m : mg x = some (.ref f)) (kp : PySem.W.keepIn K (.ref f) = true) (b : Binds K fd ps []) : CalG P w K mg base k x sp := ⟨f, fd, ps, F, m, kp, b⟩
def scrO (vs : List Value) : Obj := { cls := .type "list", data := .seq vs.toArray }
theorem law_from {P : Program} {w : World} {K : PySem.W.Frag} {mg mb : Str → Option Value} {k : Nat} {fa a : Addr} {fd : FuncData} {x : Str} {sp : Sp} {s : Shared} {vs : List Value} {H : Hp}
  (kin : K.In s.heap) (gns : s.heap.Ns mainGlobals mg) (bns : s.heap.Ns builtinsNs mb) (bok : ∀ x : Str, x ≠ "__name__" → mb x = bootBuiltins x) (nolim : s.heap.NoLimit) (nog : s.gens = #[]) (scr : s.heap.get? a = some (scrO vs)) (hr : RoomG k callerA)
  (F : ∀ base : Heap, K.In base → base.Ns mainGlobals mg → FnG P w K mg base CX0 k fa fd [x] sp) (hbind : ∀ (s : Shared) (u : Value), BindsTo s fd ⟨[u], []⟩ [(x, u)])
  (hsp : sp [.ref a] H (fun v _ => v = .bl true) fun _ _ _ => False) (hO : Only H) (hok : HOk P w H s.heap) (hA : ∀ b, H b ≠ none → b = a) (hK : H a ≠ none → K.lookup a = none) :
  codeAny (model P w) callerA (.call (.ref fa) ⟨[.ref a], []⟩) (fun r s2 => r = .ok (.ret (.bool true)) ∧ OldK s.heap s2.heap ∧ s2.os = s.os ∧ AllBare s2.gens) s := by
 have dfree : ∀ {b : Addr} {o : Obj} {es : Array DictEntry} {ep : Nat}, s.heap.get? b = some o → o.data = .dict es ep → H b = none := by
  intro b o es ep h1 h2
  cases q : H b with
  | none => rfl
  | some u =>
   have hb : b = a := hA b (by rw [q]; exact fun z => nomatch z)
   rw [hb, scr] at h1
   cases h1
   cases h2
 have nsH : ∀ {b : Addr} {m : Str → Option Value}, s.heap.Ns b m → (hidT s.heap H).Ns b m := by
  rintro b m ⟨o, es, ep, h1, h2, h3⟩
  exact ⟨o, es, ep, hidT_get h1 (dfree h1 h2), h2, h3⟩
 have kH : K.In (hidT s.heap H) := by
  intro b o h1
  refine hidT_get (kin b o h1) ?_
  cases q : H b with
  | none => rfl
  | some u =>
   have hb : b = a := hA b (by rw [q]; exact fun z => nomatch z)
   rw [hb] at h1 q
   rw [hK (by rw [q]; exact fun z => nomatch z)] at h1
   cases h1
 obtain ⟨mc, l1, l2⟩ := nolim
 have md : Mod K mg (hidT s.heap H) := ⟨kH, nsH gns, ⟨mb, nsH bns, bok⟩, ⟨mc, nsH l1, l2⟩⟩
 have env : Env0 P w K mg (hidT s.heap H) callerA [] s H := ⟨rfl, md, fun _ _ z => of_hidT z, Nat.le_of_eq (hidT_size _ _), trivial, fun b hb => (nomatch (show b ∈ ([] : List Addr) from hb)), hok, .of_eq nog⟩
 refine codeAny_mono ((F _ kH (nsH gns)).go callerA [] s H ⟨[.ref a], []⟩ [.ref a] [.ref a] _ _ hr env (hbind s (.ref a)) (.cons rfl .nil) hsp) fun r s2 h => ?_
 cases r with
 | error z => exact h.elim
 | ok fl =>
  cases fl with
  | ret u =>
   obtain ⟨v, H2, os, bare, un, hok2, rv, q⟩ := h
   have q1 : v = .bl true := q
   rw [q1] at rv
   have ru : u = Value.bool true := rv
   rw [ru]
   refine ⟨rfl, OldK.of_keep fun b o h1 => ?_, os, bare⟩
   rcases hO b with z | ⟨ob, xs, z⟩
   ·exact un.keep b o h1 z (fun y => nomatch (show b ∈ ([] : List Addr) from y)) (fun y => nomatch y)
   ·obtain ⟨g1, _⟩ := hok b _ z
    obtain ⟨g2, _⟩ := hok2 b _ (un.frzs b ob _ z)
    rw [h1] at g1
    cases g1
    exact g2
  | _ => exact h.elim
theorem law_run {P : Program} {w : World} {K : PySem.W.Frag} {mg mb : Str → Option Value} {k : Nat} {fa a : Addr} {fd : FuncData} {x : Str} {sp : Sp} {s : Shared} {vs : List Value} {ns : List Int}
  (kin : K.In s.heap) (gns : s.heap.Ns mainGlobals mg) (bns : s.heap.Ns builtinsNs mb) (bok : ∀ x : Str, x ≠ "__name__" → mb x = bootBuiltins x) (nolim : s.heap.NoLimit) (nog : s.gens = #[]) (scr : s.heap.get? a = some (scrO vs)) (hin : IntsAre vs ns) (small : ns.length ≤ sizeLine) (hr : RoomG k callerA)
  (F : ∀ base : Heap, K.In base → base.Ns mainGlobals mg → FnG P w K mg base CX0 k fa fd [x] sp) (hbind : ∀ (s : Shared) (u : Value), BindsTo s fd ⟨[u], []⟩ [(x, u)])
  (hsp : ∀ H : Hp, Only H → SqL K H a (ns.map V.int) → sp [.ref a] H (fun v _ => v = .bl true) fun _ _ _ => False) :
  codeAny (model P w) callerA (.call (.ref fa) ⟨[.ref a], []⟩) (fun r s2 => r = .ok (.ret (.bool true)) ∧ OldK s.heap s2.heap ∧ s2.os = s.os ∧ AllBare s2.gens) s := by
 have rel := vals_ints hin
 have ln := hin.length
 cases hk : K.lookup a with
 | none =>
  let H0 : Hp := fun b => if b = a then some (.frz (scrO vs) (.lst (ns.map V.int))) else none
  have at_a : H0 a = some (.frz (scrO vs) (.lst (ns.map V.int))) := if_pos rfl
  have off_a : ∀ b, b ≠ a → H0 b = none := fun b hb => if_neg hb
  have only : Only H0 := fun b => by
   by_cases hb : b = a
   ·rw [hb]; exact .inr ⟨_, _, at_a⟩
   ·exact .inl (off_a b hb)
  refine law_from (H := H0) kin gns bns bok nolim nog scr hr F hbind (hsp H0 only (.inl (.inr ⟨_, at_a⟩))) only (fun b u z => ?_) (fun b z => ?_) fun _ => hk
  ·by_cases hb : b = a
   ·subst hb
    rw [at_a] at z
    cases z
    exact ⟨scr, (by rw [List.length_map]; exact small), vs, _, rel, scr⟩
   ·rw [off_a b hb] at z
    cases z
  ·by_cases hb : b = a
   ·exact hb
   ·exact absurd (off_a b hb) z
 | some o =>
  have h1 := kin a o hk
  rw [scr] at h1
  cases h1
  refine law_from (H := fun _ => none) kin gns bns bok nolim nog scr hr F hbind (hsp _ (fun _ => .inl rfl) (.inr ⟨_, vs.toArray, _, hk, rfl, rfl, rfl, by rw [List.size_toArray, ln]; exact small, by simpa using rel⟩)) (fun _ => .inl rfl) (fun b u z => ?_) (fun b z => absurd rfl z) fun z => absurd rfl z
  have z2 : (none : Option HO) = some u := z
  cases z2
theorem walkG {l : PySem.W.OpenLaw} {n k : Nat} {q : Program} {loose : List Str} {XP : (Str → Option Value) → Heap → Prop} {YP : World → Heap → Prop} {d : DefRec} {x : Str} (hn : l.most = some n) (hn2 : n ≤ sizeLine) (hdf : d.params.defaults = []) (hr : Room k callerA)
  (F : ∀ (w : World) (mg : Str → Option Value) (fa : Addr) (h : Heap), YP w h → h.Ns mainGlobals mg → mg d.name = some (.ref fa) →
   ∃ (K : PySem.W.Frag) (fd : FuncData) (sp : Sp), K.In h ∧ (∀ (s : Shared) (u : Value), BindsTo s fd ⟨[u], []⟩ [(x, u)]) ∧
    (∀ (H : Hp) (a : Addr) (ns : List Int), ns.length ≤ n → SqL K H a (ns.map V.int) → sp [.ref a] H (fun v _ => v = .bl true) fun _ _ _ => False) ∧ ∀ base : Heap, K.In base → base.Ns mainGlobals mg → FnG l.prog w K mg base CX0 k fa fd [x] sp) :
  PySem.W.WalkO q loose XP YP l.row.toRowW d [] (fun f vs => PySem.call f vs) := by
 refine Att.attach_call hn hdf fun w s₀ s₁ mg mb fa o pm cd doc a vs ns G Y ho hd hcd hmg hobj hints hlen hg => ?_
 obtain ⟨K, fd, sp, kin, hb, hsp, hF⟩ := F w mg fa _ Y G.T.g hmg
 exact law_run kin G.T.g G.T.b G.T.builtins G.T.nolimit hg hobj hints (Nat.le_trans hlen hn2) ⟨hr, rfl⟩ hF hb fun H _ hS => hsp H a ns hlen hS
end SL
set_option Elab.async false
set_option linter.all false
set_option maxRecDepth 100000
set_option maxHeartbeats 2000000
namespace SL
open PySem PySem.Spec PyProof.Rows L2
def isSc : V → Bool
 | .int _ | .str _ | .bl _ | .non => true
 | _ => false
def scD : V → PyData
 | .int i => .int i
 | .str x => .str x
 | .bl b => .bool b
 | _ => .none
def keyD : Key → PyData
 | .inl i => .int i
 | .inr x => .str x
def kvD (kvs : List (Key × V)) : PyData := .dict (kvs.map fun kv => (keyD kv.1, scD kv.2))
theorem sc_reads {h : Heap} {x : V} {u : Value} (s : isSc x = true) (r : RelV x u) : Reads h u (scD x) [] := by
 cases x with
 | int i => obtain ⟨t, rfl⟩ := r; exact .int i t
 | str i => obtain ⟨t, rfl⟩ := r; exact .str i t
 | bl b => cases r; exact .bool b
 | non => cases r; exact .none
 | _ => cases s
theorem key_reads {h : Heap} {k : Key} {u : Value} (r : keyIs k u = true) : Reads h u (keyD k) [] := by
 rcases keyIs_shape r with ⟨i, t, rfl, rfl⟩ | ⟨x, t, rfl, rfl⟩
 ·exact .int i t
 ·exact .str x t
theorem pairs_reads {P : Program} {w : World} {h : Heap} : ∀ {es : List DictEntry} {kvs : List (Key × V)} {vs : List (Key × Value)}, Pairs (mixKind P w) es vs → KV kvs vs → (∀ kv ∈ kvs, isSc kv.2 = true) →
  ReadsAll h (es.map (·.key)) ((kvs.map fun kv => (keyD kv.1, scD kv.2)).map (·.1)) [] ∧ ReadsAll h (es.map (·.val)) ((kvs.map fun kv => (keyD kv.1, scD kv.2)).map (·.2)) []
 | _, _, _, .nil, .nil, _ => ⟨.nil, .nil⟩
 | en :: _, (k, v) :: r, kv2 :: _, .cons h1 h2 h3, .cons g1 g2, hs => by
  obtain ⟨i1, i2⟩ := pairs_reads (h := h) h3 g2 fun kv z => hs kv (List.mem_cons_of_mem _ z)
  obtain ⟨e1, e2⟩ := g1
  have e3 : keyIs k en.key = true := by
   have e4 : k = kv2.1 := e1
   rw [e4]; exact h1
  have r1 : RelV v kv2.2 := e2
  rw [← h2] at r1
  exact ⟨.cons (key_reads e3) i1, .cons (sc_reads (hs _ List.mem_cons_self) r1) i2⟩
def rReprD (K : PySem.W.Frag) : List V → Hp → VK → Prop := fun xs H Q => ∃ (p : Addr) (d : PyData), xs = [.ref p] ∧ (Dp K H (.ref p) d ∨ ∃ kvs, H p = some (.dK kvs) ∧ (∀ kv ∈ kvs, isSc kv.2 = true) ∧ d = kvD kvs) ∧
 d.showable = true ∧ d.depth ≤ 50 ∧ d.shown.length ≤ sizeLine ∧ Q (.str d.shown) H
mutual
theorem dp_nodict {K : PySem.W.Frag} {H : Hp} : ∀ {v : V} {d : PyData}, Dp K H v d → d.hasDict = false
 | _, _, .non => by simp only [PyData.hasDict]
 | _, _, .bl _ => by simp only [PyData.hasDict]
 | _, _, .int _ => by simp only [PyData.hasDict]
 | _, _, .str _ => by simp only [PyData.hasDict]
 | _, _, .lst _ h => by simp only [PyData.hasDict]; exact dpa_nodict h
 | _, _, .tup _ h => by simp only [PyData.hasDict]; exact dpa_nodict h
theorem dpa_nodict {K : PySem.W.Frag} {H : Hp} : ∀ {vs : List V} {ds : List PyData}, DpAll K H vs ds → PyData.hasDictAll ds = false
 | _, _, .nil => by simp only [PyData.hasDictAll]
 | _, _, .cons h hs => by simp only [PyData.hasDictAll, dp_nodict h, dpa_nodict hs, Bool.or_self]
end
section
variable {X : Cx} {k : Nat}
theorem call_reprD (hr : RoomG k X.A) : CallR X (.builtin "repr") (rReprD X.K) := by
 intro pins s σ H xs us Q I r h
 obtain ⟨p, d, rfl, hd, hs, hdep, hsz, q⟩ := h
 obtain ⟨u, rfl, r1⟩ := vals1 r
 have hu : X.A.units + (d.depth + 1) < cLine := by have := hr.units; omega
 rcases hd with hd | ⟨kvs, hp, hsc, rfl⟩
 ·cases r1
  obtain ⟨as, hR⟩ := Dp.reads I d _ _ hd (show RelV (.ref p) (.ref p) from rfl)
  exact repr_of_reads' hR hs (fun z => by rw [dp_nodict hd] at z; cases z) hr.gd hu (fun _ _ z => z) (fun h' u tk hk => ⟨.str _, H, I.kept (t' := tk) hk, ⟨u, rfl⟩, q⟩) hsz
 ·cases r1
  obtain ⟨_, y, vs, rk, o, es, ep, e, ex, hdat, _, pr, _⟩ := I.hok p _ hp
  obtain ⟨i1, i2⟩ := pairs_reads (h := s.heap) pr rk hsc
  have hR : Reads s.heap (.ref p) (kvD kvs) (p :: [] ++ []) := .dict e ex.1 hdat i1 i2
  refine repr_of_reads' hR hs (fun _ z => ?_) hr.gd hu (fun _ _ z => z) (fun h' u tk hk => ⟨.str _, H, I.kept (t' := tk) hk, ⟨u, rfl⟩, q⟩) hsz
  have z1 : sysModules = p := by simpa using z
  rw [← z1] at y
  simp at y
def uReprG (K : PySem.W.Frag) : List V → Hp → VK → Prop := fun xs H Q => uRepr xs H Q ∨ rReprD K xs H Q
theorem callu_reprG (hr : RoomG k X.A) : CallR X (.builtin "repr") (uReprG X.K) := callu_repr.or (call_reprD hr)
end
section
variable {K : PySem.W.Frag} {H : Hp} {Q : VK} {x : V}
theorem g_reprS (h : shortV x) (q : Q (.str (shownV x)) H) : uReprG K [x] H Q := .inl ⟨x, rfl, h, q⟩
theorem g_dget {td ty : TE} {σ : L2.St} (q : td σ H fun x H1 => ty σ H1 fun y H2 => ∃ a v, x = .ref a ∧ DGet H2 a y (some v) ∧ Q v H2) : tDGet td ty σ H Q := q
theorem g_dgetS {A : V → Prop} {p : Addr} {kvs : List (Key × V)} {z : Str} {v : V} (h : H p = some (.dK kvs)) (e : valV kvs (Sum.inr z) = some v) (q : A v) : ∃ a w, V.ref p = .ref a ∧ DGet H a (.str z) (some w) ∧ A w := by
 have g := DGet.k (k := (Sum.inr z : Key)) h
 rw [e] at g
 exact ⟨p, v, rfl, g, q⟩
theorem g_dnewK {σ : L2.St} (q : ∀ p, H p = none → Q (.ref p) (upd H p (.dK []))) : tDNewK σ H Q := q
end
end SL
namespace SL
open PySem PySem.Spec PyProof.Rows L2
section
variable {X : Cx} {K : PySem.W.Frag}
theorem kOp {r : PySem.W.Frag → R2} {f : Value → Value → Sem Value} (e : X.K = K) (h : OpR X f (r X.K)) : OpR X f (r K) := e ▸ h
theorem kIx {r : PySem.W.Frag → R2} (e : X.K = K) (h : IxR X (r X.K)) : IxR X (r K) := e ▸ h
theorem kSl {r : PySem.W.Frag → V → Option Int → Option Int → Hp → VK → Prop} (e : X.K = K) (h : SlR X (r X.K)) : SlR X (r K) := e ▸ h
theorem kCall {r : PySem.W.Frag → List V → Hp → VK → Prop} {f : Value} (e : X.K = K) (h : CallR X f (r X.K)) : CallR X f (r K) := e ▸ h
variable {a b : Expr} {rest es : List Expr} {ta tb te : TE} {tgs : TGs} {pos : Pos} {tg : Expr} {n k : Nat}
theorem pe_andTK (e : X.K = K) (ha : PE X a ta) (hb : PE X (.BoolOp .And (b :: rest) pos) tb) : PE X (.BoolOp .And (a :: b :: rest) pos) (tAndT K ta tb) := by subst e; exact pe_andT ha hb
theorem pi_listK (e : X.K = K) (h : PE X a ta) : PI X tg a (iList K ta) := by subst e; exact pi_list h
theorem pi_tupK (e : X.K = K) (h : PE X a ta) : PI X tg a (iTup K ta) := by subst e; exact pi_tup h
theorem pg_tupK (e : X.K = K) (hc : X.calm = true) (h : PGs X es tgs) (hn : (assignEach es X.env).length = n := by rfl) (hst : (assignEach es X.env).findIdx? (·.1) = none := by rfl) : PG X (.Tuple es k pos) (gTup K n tgs) := by subst e; exact pg_tup hc h hn hst
end
end SL
namespace SL
open PySem PySem.Spec PyProof.Rows L2
def uTuple (K : PySem.W.Frag) : List V → Hp → VK → Prop := fun xs H Q => ∃ p ys, xs = [.ref p] ∧ ((SqL K H p ys ∧ ∀ l, H l = none → Q (.ref l) (upd H l (.tup ys))) ∨ (SqT K H p ys ∧ Q (.ref p) H))
theorem callu_tuple {X : Cx} : CallR X (.type "tuple") (uTuple X.K) := call_tuple_of
section
variable {K : PySem.W.Frag} {H : Hp} {Q : VK}
theorem g_tupleL {p : Addr} {ys : List V} (h : SqL K H p ys) (q : ∀ l, H l = none → Q (.ref l) (upd H l (.tup ys))) : uTuple K [.ref p] H Q := ⟨p, ys, rfl, .inl ⟨h, q⟩⟩
end
end SL
namespace SL
open PySem PySem.Spec PyProof.Rows L2
section
variable {X : Cx} {K : PySem.W.Frag} {ex : Expr} {T : String} {rb : V → List V → Hp → VK → Prop} {to : TE} {tl : TA} {σ : L2.St} {H : Hp} {Q : VK}
theorem kBM (e : X.K = K) (h : PE X ex (tBM X.K T rb to tl)) : PE X ex (tBM K T rb to tl) := e ▸ h
theorem kBM0 (e : X.K = K) (h : PE X ex (tBM0 X.K T rb to)) : PE X ex (tBM0 K T rb to) := e ▸ h
theorem g_bm (q : to σ H fun x H1 => tyV K T x H1 ∧ tl σ H1 fun xs H2 => rb x xs H2 Q) : tBM K T rb to tl σ H Q := q
theorem g_bm0 (q : to σ H fun x H1 => tyV K T x H1 ∧ rb x [] H1 Q) : tBM0 K T rb to σ H Q := q
theorem g_tyS {A : Prop} {z : Str} (q : A) : tyV K "str" (.str z) H ∧ A := ⟨rfl, q⟩
theorem g_tyL {A : Prop} {p : Addr} {xs : List V} (h : SqL K H p xs) (q : A) : tyV K "list" (.ref p) H ∧ A := ⟨.inl ⟨rfl, xs, h⟩, q⟩
end
end SL
namespace SL
open PySem PySem.Spec PyProof.Rows L2
theorem valV_out {κ : Type} [DecidableEq κ] {k : κ} : ∀ {kvs : List (κ × V)}, k ∉ kvs.map (·.1) → valV kvs k = none
 | [], _ => rfl
 | p :: r, h => by
  rw [valV_neg fun e => h (by rw [← e]; exact List.mem_cons_self)]
  exact valV_out fun z => h (List.mem_cons_of_mem _ z)
theorem mergeK_nd : ∀ {kvs acc : List (Key × V)}, ((acc ++ kvs).map (·.1)).Nodup → mergeK acc kvs = acc ++ kvs
 | [], acc, _ => (List.append_nil acc).symm
 | p :: r, acc, h => by
  have h1 : p.1 ∉ acc.map (·.1) := fun z => by
   rw [List.map_append, List.nodup_append] at h
   exact h.2.2 p.1 z p.1 (List.mem_cons_self ..) rfl
  show mergeK (putK acc p.1 p.2) r = acc ++ p :: r
  rw [putK_new _ (valV_out h1)]
  have e : acc ++ p :: r = (acc ++ [(p.1, p.2)]) ++ r := by simp
  rw [e] at h ⊢
  exact mergeK_nd h
section
variable {K : PySem.W.Frag} {σ : L2.St} {H : Hp} {Q : VK} {tk tv : TE} {trs : List (TE × TE)} {A : List (V × V) → Hp → Prop}
theorem g_disp (q : ∀ p, H p = none → tPairs trs σ (upd H p (.dK [])) fun ps H2 => H2 p = some (.dK []) ∧ ∃ kvs : List (Key × V), ps = kvs.map (fun kv => (kV kv.1, kv.2)) ∧ kvs.length ≤ 15 ∧ Q (.ref p) (upd H2 p (.dK (mergeK [] kvs)))) : tDisp trs σ H Q := q
theorem g_pairs (q : tk σ H fun x H1 => tv σ H1 fun y H2 => tPairs trs σ H2 fun ps H3 => A ((x, y) :: ps) H3) : tPairs ((tk, tv) :: trs) σ H A := q
theorem g_pairs0 (q : A [] H) : tPairs [] σ H A := q
theorem g_repL {p : Addr} {k : Int} {xs : List V} (h : H p = some (.lst xs)) (h0 : -(2 ^ 63) ≤ k) (h1 : k < 2 ^ 63) (hz : xs.length * k.toNat ≤ sizeLine) (q : ∀ l, H l = none → Q (.ref l) (upd H l (.lst (List.replicate k.toNat xs).flatten))) : uMul (.ref p) (.int k) H Q := ⟨p, k, xs, rfl, rfl, h, h0, h1, hz, q⟩
end
end SL
set_option Elab.async false
set_option linter.all false
set_option maxRecDepth 100000
set_option maxHeartbeats 2000000
namespace SL
open PySem PySem.Spec PyProof.Rows L2
section
variable {P : Program} {w : World} {K : PySem.W.Frag} {mg : Str → Option Value} {base : Heap} {f : Addr} {fd : FuncData} {ps : List Str} {x : Str} {sp : Nat → Sp}
theorem calG_rec (b : Nat) (z : ∀ vs H Q E, ¬ sp 0 vs H Q E) (m : mg x = some (.ref f)) (kp : PySem.W.keepIn K (.ref f) = true) (bb : Binds K fd ps [])
  (st : ∀ n, CalG P w K mg base (b + n) x (sp n) → FnG P w K mg base CX0 (b + n + 1) f fd ps (sp (n + 1))) : ∀ n, CalG P w K mg base (b + n) x (sp n)
 | 0 => calG_of ⟨fun vs H Q E h => absurd h (z _ _ _ _), fun _ _ _ _ _ _ _ _ _ _ _ _ _ h => absurd h (z _ _ _ _)⟩ m kp bb
 | n + 1 => calG_of (st n (calG_rec b z m kp bb st n)) m kp bb
theorem calG_rec0 (z : ∀ vs H Q E, ¬ sp 0 vs H Q E) (m : mg x = some (.ref f)) (kp : PySem.W.keepIn K (.ref f) = true) (bb : Binds K fd ps [])
  (st : ∀ n, CalG P w K mg base n x (sp n) → FnG P w K mg base CX0 (n + 1) f fd ps (sp (n + 1))) : ∀ n, CalG P w K mg base n x (sp n)
 | 0 => calG_of ⟨fun vs H Q E h => absurd h (z _ _ _ _), fun _ _ _ _ _ _ _ _ _ _ _ _ _ h => absurd h (z _ _ _ _)⟩ m kp bb
 | n + 1 => calG_of (st n (calG_rec0 z m kp bb st n)) m kp bb
end
end SL
set_option Elab.async false
set_option linter.all false
set_option maxRecDepth 100000
set_option maxHeartbeats 2000000
namespace SL
open PySem PySem.Spec PyProof.Rows L2
section
variable {X : Cx} {K : PySem.W.Frag} {σ : L2.St} {H : Hp} {Q : VK} {x y : V}
def tFs (ts : List TE) : TE := fun σ H Q => tJs ts Str.empty σ H fun out H1 => Q (.str out) H1
theorem g_fs {ts : List TE} (q : tJs ts Str.empty σ H fun out H1 => Q (.str out) H1) : tFs ts σ H Q := q
theorem g_js0 {acc : Str} {A : Str → Hp → Prop} (q : A acc H) : tJs [] acc σ H A := q
theorem g_js {t : TE} {ts : List TE} {acc : Str} {A : Str → Hp → Prop} (q : t σ H fun x H1 => ∃ y : Str, x = .str y ∧ (acc ++ y).length ≤ sizeLine ∧ tJs ts (acc ++ y) σ H1 A) : tJs (t :: ts) acc σ H A := q
theorem g_fmt {te : TE} (q : te σ H fun x H1 => (∃ y : Str, x = .str y ∧ y.length ≤ sizeLine ∧ Q (.str y) H1) ∨ ∃ i : Int, x = .int i ∧ i.natAbs.log2 < 1920 ∧ Q (.str (toString i)) H1) : tFmt te σ H Q := q
theorem g_fmtS {z : Str} {A : Str → Prop} {B : Prop} (h : z.length ≤ sizeLine) (q : A z) : (∃ y : Str, V.str z = .str y ∧ y.length ≤ sizeLine ∧ A y) ∨ B := .inl ⟨z, rfl, h, q⟩
theorem g_jsS {z acc : Str} {A : Str → Prop} (h : (acc ++ z).length ≤ sizeLine) (q : A z) : ∃ y : Str, V.str z = .str y ∧ (acc ++ y).length ≤ sizeLine ∧ A y := ⟨z, rfl, h, q⟩
theorem app_len {a b : Str} : (a ++ b).length = a.length + b.length := Array.size_append
theorem lit_q : ("'" : Str).length = 1 := by decide +kernel
theorem lit_lp : ("(" : Str).length = 1 := by decide +kernel
theorem lit_rp : (")" : Str).length = 1 := by decide +kernel
theorem lit_sp : (" " : Str).length = 1 := by decide +kernel
theorem lit_cs : (", " : Str).length = 2 := by decide +kernel
theorem lit_not : ("not " : Str).length = 4 := by decide +kernel
theorem lit_is : (" is " : Str).length = 4 := by decide +kernel
theorem lit_if : (" if " : Str).length = 4 := by decide +kernel
theorem lit_e : Str.empty.length = 0 := by decide +kernel
theorem lit_dot : ("." : Str).length = 1 := by decide +kernel
def uInt : List V → Hp → VK → Prop := fun xs H Q => (∃ i, xs = [.int i] ∧ Q (.int i) H) ∨ ∃ k, xs = [.bl k] ∧ Q (.int (if k then 1 else 0)) H
theorem callu_int : CallR X (.type "int") uInt := call_int1
theorem g_intB {k : Bool} (q : Q (.int (if k then 1 else 0)) H) : uInt [.bl k] H Q := .inr ⟨k, rfl, q⟩
def uIs : R2 := fun x y H Q => y = .non ∧ Q (.bl (decide (x = .non))) H
def uIsNot : R2 := fun x y H Q => y = .non ∧ Q (.bl (!decide (x = .non))) H
theorem opu_isNot : OpR X (compareOp .IsNot) uIsNot := op_notN
theorem g_is (q : Q (.bl (decide (x = .non))) H) : uIs x .non H Q := ⟨rfl, q⟩
theorem g_isNot (q : Q (.bl (!decide (x = .non))) H) : uIsNot x .non H Q := ⟨rfl, q⟩
theorem g_inT {z : Str} {p : Addr} {xs : List V} (h : SqL K H p xs ∨ SqT K H p xs) (h2 : xs.all flatV = true) (q : Q (.bl (inV (.str z) xs)) H) : uIn K (.str z) (.ref p) H Q := ⟨p, xs, rfl, h, rfl, h2, q⟩
theorem g_notInT {z : Str} {p : Addr} {xs : List V} (h : SqL K H p xs ∨ SqT K H p xs) (h2 : xs.all flatV = true) (q : Q (.bl (!inV (.str z) xs)) H) : uNotIn K (.str z) (.ref p) H Q := ⟨p, xs, rfl, h, rfl, h2, q⟩
theorem inV_str (z : Str) (ws : List Str) : inV (.str z) (ws.map V.str) = decide (z ∈ ws) := by
 induction ws with
 | nil => rfl
 | cons w r ih =>
  unfold inV at ih ⊢
  rw [List.map_cons, List.any_cons, ih]
  by_cases h : z = w
  ·subst h
   simp [eqV]
  ·have : decide (V.str z = V.str w) = false := decide_eq_false fun e => h (V.str.inj e)
   simp [eqV, h, Ne.symm h]
theorem flat_strs (ws : List Str) : (ws.map V.str).all flatV = true := by
 induction ws with
 | nil => rfl
 | cons w r ih => rw [List.map_cons, List.all_cons, ih]; rfl
end
section
variable {X : Cx} {o e f : Expr} {apos cpos : Pos} {td ty tx : TE}
end
section
variable {K : PySem.W.Frag} {w : World} {H : Hp} {Q : VK} {σ : L2.St}
end
end SL
set_option Elab.async false
set_option linter.all false
set_option maxRecDepth 100000
set_option maxHeartbeats 2000000
namespace SL
open PySem PySem.Spec PyProof.Rows L2
theorem lc_map {J : It} {n : Nat} {G : Hp → Prop} {xs ys : List V} (w : Walk J n G (YAt xs)) {g : TG} {te : TE} {vs : List Nat} {σ : L2.St} {H1 : Hp} {D : Addr} {Qd : Hp → Prop} (hG : ∀ H', Fr [] H1 H' → G H') (hn : xs.length = n) (hy : ys.length = n) (hz : n ≤ 10000) (hD : H1 D = none)
  (body : ∀ (i : Nat) (x y : V) (H' : Hp) (A : V → Hp → Prop), xs[i]? = some x → ys[i]? = some y → Fr [] H1 H' → (∀ H4, Fr [] H' H4 → A y H4) → g x (wipe σ vs) H' fun σ2 H2 => wipe σ2 vs = wipe σ vs ∧ te σ2 H2 A)
  (fin : ∀ H', Fr [] H1 H' → H' D = some (.lst ys) → Qd H') :
  ∃ W : Nat → Nat → Hp → Prop, (∃ m, W 0 m (upd H1 D (.lst []))) ∧ ∀ i m H, W i m H →
   (J.stop i H ∧ Qd H) ∨ (J.go i H ∧ ∃ Nx : Hp → Prop, (∀ H', Nx H' → ∃ m', m' < m ∧ W (i + 1) m' H') ∧ ∀ x H', J.yld i H x H' → g x (wipe σ vs) H' fun σ2 H2 => wipe σ2 vs = wipe σ vs ∧ tYes σ2 H2 fun b H3 =>
    if b = true then te σ2 H3 fun y H4 => ∃ acc, H4 D = some (.lst acc) ∧ acc.length < sizeLine ∧ Nx (upd H4 D (.lst (acc ++ [y]))) else Nx H3) := by
 subst hn
 refine lc_it w (fun i H' => Fr [] H1 H' ∧ H' D = some (.lst (ys.take i))) ⟨Fr.new hD, by rw [List.take_zero]; exact upd_same⟩ (fun i H' _ h => hG H' h.1) (fun i x H' H'' hi h y => ?_) (fun H' h => ?_)
 ·obtain ⟨rfl, hx⟩ := y
  obtain ⟨h1, h2⟩ := h
  have hi2 : i < ys.length := by omega
  exact body i x ys[i] H'' _ hx (List.getElem?_eq_getElem hi2) h1 fun H4 e4 => ⟨_, e4.at h2 (fun z => nomatch z), lt_of (by rw [List.length_take]; omega), (h1.trans e4).over hD, by rw [upd_same, List.take_succ, List.getElem?_eq_getElem hi2]; rfl⟩
 ·exact fin H' h.1 (by rw [h.2, ← hy, List.take_length])
theorem tda_get {α : Type} {K : PySem.W.Frag} {H : Hp} {f : α → PyData} : ∀ {xs : List α} {vs : List V}, TdAll K H vs (xs.map f) → vs.length = xs.length ∧ ∀ (i : Nat) (v : V), vs[i]? = some v → ∃ x, xs[i]? = some x ∧ Td K H v (f x)
 | [], vs, h => by cases h.nil_inv; exact ⟨rfl, fun i x e => by simp at e⟩
 | y :: r, vs, h => by
  obtain ⟨v, ws, rfl, h1, h2⟩ := TdAll.cons_inv (show TdAll K H vs (f y :: r.map f) from h)
  obtain ⟨k1, k2⟩ := tda_get h2
  refine ⟨by simp [k1], fun i x e => ?_⟩
  cases i with
  | zero =>
   simp only [List.getElem?_cons_zero, Option.some.injEq] at e
   subst e
   exact ⟨y, rfl, h1⟩
  | succ j =>
   simp only [List.getElem?_cons_succ] at e
   exact k2 j x e
section
variable {P : Program} {w : World} {K : PySem.W.Frag} {mg : Str → Option Value} {base : Heap} {f : Addr} {fd : FuncData} {ps : List Str} {x : Str} {sp : Nat → Sp}
end
section
variable {K : PySem.W.Frag} {σ : L2.St} {H : Hp} {D : Ends} {Q : VK}
theorem g_dput {td ty tv : TE} (q : tv σ H fun v H1 => td σ H1 fun x H2 => ty σ H2 fun y H3 => ∃ a H4, x = .ref a ∧ DPut H3 a y v H4 ∧ D.nx σ H4) : sDPut td ty tv D σ H := q
theorem g_dputS {p : Addr} {kvs : List (Key × V)} {z : Str} {v : V} {A : Hp → Prop} (h : H p = some (.dK kvs)) (hl : kvs.length ≤ 1000) (q : A (upd H p (.dK (putK kvs (Sum.inr z) v)))) : ∃ a H4, V.ref p = .ref a ∧ DPut H a (.str z) v H4 ∧ A H4 :=
 ⟨p, _, rfl, DPut.k (k := (Sum.inr z : Key)) h (lt_of (by omega)), q⟩
end
section
variable {D : Ends} {σ : L2.St} {H : Hp}
theorem g_seqIf (t : TT) (a b u : TS) (D : Ends) (σ : L2.St) (H : Hp) : tSeq (tIfS t a b) u D σ H → tSeq (tIfS t a b) u D σ H := id
end
end SL
set_option Elab.async false
set_option linter.all false
set_option maxRecDepth 100000
set_option maxHeartbeats 2000000
namespace SL
open PySem PySem.Spec PyProof.Rows L2
section
variable {σ : L2.St} {H : Hp} {Q : VK} {D : Ends}
theorem g_listRg {te : TE} (q : tRg1 te σ H fun a b H1 => RgOk a b ∧ ∀ q, H1 q = none → Q (.ref q) (upd H1 q (.lst (rgV a b)))) : tLstRg (tRg1 te) σ H Q := q
theorem g_rg1 {ta : TE} {A : Int → Int → Hp → Prop} (q : ta σ H fun x H1 => ∃ n, x = .int n ∧ A 0 n H1) : tRg1 ta σ H A := q
theorem g_clear {p : Addr} {xs : List V} (h : H p = some (.lst xs)) (q : Q .non (upd H p (.lst []))) : rClear (.ref p) [] H Q := ⟨p, xs, rfl, rfl, h, q⟩
theorem g_app {p : Addr} {xs : List V} {v : V} (h : H p = some (.lst xs)) (hz : xs.length ≤ 10000) (q : Q .non (upd H p (.lst (xs ++ [v])))) : rAppend (.ref p) [v] H Q := ⟨p, xs, v, rfl, rfl, h, lt_of (by omega), q⟩
theorem g_while {c : TT} {tb : TS} (Pv : L2.St → Hp → Prop) (μ : L2.St → Hp → Nat) (h0 : Pv σ H) (hs : ∀ σ H, Pv σ H → ∀ N : L2.St → Hp → Prop, (∀ σ' H', Pv σ' H' → μ σ' H' < μ σ H → N σ' H') →
  c σ H fun b H1 => if b = true then tb { D with nx := N, ct := N, bk := D.nx } σ H1 else D.nx σ H1) (hm : ∀ σ H, Pv σ H → ∀ (A B : Bool → Hp → Prop), (∀ b H1, A b H1 → B b H1) → c σ H A → c σ H B) : tWhile c tb D σ H := by
 refine ⟨fun m σ H => m = μ σ H ∧ Pv σ H, ⟨_, rfl, h0⟩, ?_⟩
 rintro m σ H ⟨rfl, p⟩
 refine hm σ H p _ _ (fun b H1 q => ?_) (hs σ H p (fun σ' H' => Pv σ' H' ∧ μ σ' H' < μ σ H) fun σ' H' a b => ⟨a, b⟩)
 cases b with
 | true => exact ⟨_, fun σ' H' ⟨p', l⟩ => ⟨_, l, rfl, p'⟩, q⟩
 | false => exact q
theorem rgV_nat (n : Nat) : rgV 0 (n : Int) = (List.range n).map fun k : Nat => V.int (k : Int) := by
 unfold rgV
 simp
end
abbrev Turns (J : It) (b : (Hp → Prop) → V → Hp → Prop) (H0 : Hp) (Dn : Hp → Prop) : Prop :=
 ∃ W : Nat → Nat → Hp → Prop, (∃ m, W 0 m H0) ∧ ∀ i m H, W i m H → (J.stop i H ∧ Dn H) ∨ (J.go i H ∧ ∃ Nx : Hp → Prop, (∀ H', Nx H' → ∃ m', m' < m ∧ W (i + 1) m' H') ∧ ∀ x H', J.yld i H x H' → b Nx x H')
theorem turns_of {J : It} {n : Nat} {G : Hp → Prop} {Y : Nat → Hp → V → Hp → Prop} (w : Walk J n G Y) {b : (Hp → Prop) → V → Hp → Prop} {H0 : Hp} {Dn : Hp → Prop} (Pv : Nat → Hp → Prop) (h0 : Pv 0 H0) (hG : ∀ i H, i ≤ n → Pv i H → G H)
  (hs : ∀ i x H H', i < n → Pv i H → Y i H x H' → b (Pv (i + 1)) x H') (hd : ∀ H, Pv n H → Dn H) : Turns J b H0 Dn := by
 refine ⟨fun i m H => m + i = n ∧ Pv i H, ⟨n, rfl, h0⟩, fun i m H at_i => ?_⟩
 have ⟨count, p⟩ := at_i
 have good := hG i H (by omega) p
 match m, count with
 | 0, count =>
  obtain rfl : i = n := (Nat.zero_add i).symm.trans count
  exact Or.inl ⟨w.stops H good, hd H p⟩
 | m + 1, count =>
  have more : i < n := by omega
  exact Or.inr ⟨w.goes i H more good, Pv (i + 1), fun H' p' => ⟨m, Nat.lt_succ_self m, by omega, p'⟩, fun x H' y => hs i x H H' more p (w.yields i H x H' more good y)⟩
abbrev inB (g1 : TG) (tt1 : TT) (te : TE) (vs1 : List Nat) (σ : L2.St) (D : Addr) (Nx : Hp → Prop) (x : V) (H' : Hp) : Prop :=
 g1 x (wipe σ vs1) H' fun σ3 H5 => wipe σ3 vs1 = wipe σ vs1 ∧ tt1 σ3 H5 fun b H6 => if b = true then te σ3 H6 fun y H7 => ∃ acc, H7 D = some (.lst acc) ∧ acc.length < sizeLine ∧ Nx (upd H7 D (.lst (acc ++ [y]))) else Nx H6
abbrev outB (g : TG) (tt : TT) (wi1 : TI) (g1 : TG) (tt1 : TT) (te : TE) (vs vs1 : List Nat) (σ : L2.St) (D : Addr) (Nx : Hp → Prop) (x : V) (H' : Hp) : Prop :=
 g x (wipe σ vs) H' fun σ2 H2 => wipe σ2 vs = wipe σ vs ∧ tt σ2 H2 fun b H3 => if b = true then wi1 σ2 H3 fun J1 H4 => Turns J1 (inB g1 tt1 te vs1 σ2 D) H4 Nx else Nx H3
abbrev dictB (g : TG) (tt : TT) (tk tv : TE) (vs : List Nat) (σ : L2.St) (D : Addr) (Nx : Hp → Prop) (x : V) (H' : Hp) : Prop :=
 g x (wipe σ vs) H' fun σ2 H2 => wipe σ2 vs = wipe σ vs ∧ tt σ2 H2 fun b H3 => if b = true then tk σ2 H3 fun y H4 => tv σ2 H4 fun z H5 => ∃ kvs k, y = kV k ∧ H5 D = some (.dK kvs) ∧ kvs.length < sizeLine ∧ Nx (upd H5 D (.dK (putK kvs k z))) else Nx H3
section
variable {J : It} {n : Nat} {G : Hp → Prop} {Y : Nat → Hp → V → Hp → Prop}
theorem lc2_out (w : Walk J n G Y) {g g1 : TG} {tt tt1 : TT} {wi1 : TI} {te : TE} {vs vs1 : List Nat} {σ : L2.St} {H1 : Hp} {D : Addr} {Qd : Hp → Prop} (Pv : Nat → Hp → Prop) (h0 : Pv 0 (upd H1 D (.lst []))) (hG : ∀ i H, i ≤ n → Pv i H → G H)
 (hs : ∀ i x H H', i < n → Pv i H → Y i H x H' → outB g tt wi1 g1 tt1 te vs vs1 σ D (Pv (i + 1)) x H') (hd : ∀ H, Pv n H → Qd H) : Turns J (outB g tt wi1 g1 tt1 te vs vs1 σ D) (upd H1 D (.lst [])) Qd := turns_of w Pv h0 hG hs hd
theorem lc2_in (w : Walk J n G Y) {g1 : TG} {tt1 : TT} {te : TE} {vs1 : List Nat} {σ2 : L2.St} {H4 : Hp} {D : Addr} {Nx : Hp → Prop} (Pv : Nat → Hp → Prop) (h0 : Pv 0 H4) (hG : ∀ i H, i ≤ n → Pv i H → G H)
 (hs : ∀ i x H H', i < n → Pv i H → Y i H x H' → inB g1 tt1 te vs1 σ2 D (Pv (i + 1)) x H') (hd : ∀ H, Pv n H → Nx H) : Turns J (inB g1 tt1 te vs1 σ2 D) H4 Nx := turns_of w Pv h0 hG hs hd
theorem dc_it (w : Walk J n G Y) {g : TG} {tt : TT} {tk tv : TE} {vs : List Nat} {σ : L2.St} {H1 : Hp} {D : Addr} {Qd : Hp → Prop} (Pv : Nat → Hp → Prop) (h0 : Pv 0 (upd H1 D (.dK []))) (hG : ∀ i H, i ≤ n → Pv i H → G H)
 (hs : ∀ i x H H', i < n → Pv i H → Y i H x H' → dictB g tt tk tv vs σ D (Pv (i + 1)) x H') (hd : ∀ H, Pv n H → Qd H) : Turns J (dictB g tt tk tv vs σ D) (upd H1 D (.dK [])) Qd := turns_of w Pv h0 hG hs hd
end
section
variable {σ : L2.St} {H : Hp} {Q : VK} {wi wi1 : TI} {g g1 : TG} {tt tt1 : TT} {te tk tv : TE} {vs vs1 : List Nat}
theorem g_lc2 (q : wi σ H fun J H1 => ∀ D, H1 D = none → Turns J (outB g tt wi1 g1 tt1 te vs vs1 σ D) (upd H1 D (.lst [])) fun H => Q (.ref D) H) : tLc2 wi g tt wi1 g1 tt1 te vs vs1 σ H Q := q
theorem g_dc (q : wi σ H fun J H1 => ∀ D, H1 D = none → Turns J (dictB g tt tk tv vs σ D) (upd H1 D (.dK [])) fun H => Q (.ref D) H) : tDc wi g tt tk tv vs σ H Q := q
theorem g_din {ty td : TE} (q : ty σ H fun y H1 => td σ H1 fun x H2 => ∃ a o, x = .ref a ∧ DGet H2 a y o ∧ Q (.bl o.isSome) H2) : tDIn ty td σ H Q := q
theorem g_dinS {p : Addr} {kvs : List (Key × V)} {z : Str} {A : Bool → Prop} (h : H p = some (.dK kvs)) (q : A (valV kvs (Sum.inr z)).isSome) : ∃ a o, V.ref p = .ref a ∧ DGet H a (.str z) o ∧ A o.isSome := ⟨p, _, rfl, DGet.k (k := (Sum.inr z : Key)) h, q⟩
end
def kvT (ws : List Str) : List (Key × V) := ws.map fun x => ((Sum.inr x : Key), V.bl true)
def addL (ws : List Str) (x : Str) : List Str := if x ∈ ws then ws else ws ++ [x]
def onceA (acc ws : List Str) : List Str := ws.foldl addL acc
theorem kvT_any (ws : List Str) (x : Str) : ((kvT ws).any fun kv => decide (kv.1 = (Sum.inr x : Key))) = decide (x ∈ ws) := by
 induction ws with
 | nil => rfl
 | cons y r ih =>
  show (decide ((Sum.inr y : Key) = Sum.inr x) || (kvT r).any _) = _
  rw [ih]
  by_cases h : y = x
  ·subst h; simp
  ·have h1 : decide ((Sum.inr y : Key) = Sum.inr x) = false := decide_eq_false fun e => h (Sum.inr.inj e)
   rw [h1]
   simp [Ne.symm h]
theorem putK_T (ws : List Str) (x : Str) : putK (kvT ws) (Sum.inr x) (.bl true) = kvT (addL ws x) := by
 unfold putK addL
 rw [kvT_any]
 by_cases h : x ∈ ws
 ·rw [if_pos (decide_eq_true h), if_pos h]
  unfold kvT
  rw [List.map_map]
  refine List.map_congr_left fun y _ => ?_
  show (if (Sum.inr y : Key) = Sum.inr x then _ else _) = _
  split <;> rfl
 ·rw [if_neg (by rw [decide_eq_false h]; exact Bool.false_ne_true), if_neg h]
  unfold kvT
  rw [List.map_append]
  rfl
theorem kvT_val (ws : List Str) (x : Str) : (valV (kvT ws) (Sum.inr x)).isSome = decide (x ∈ ws) := by
 induction ws with
 | nil => rfl
 | cons y r ih =>
  by_cases h : y = x
  ·subst h
   rw [show valV (kvT (y :: r)) (Sum.inr y) = some (V.bl true) from valV_pos rfl]
   simp
  ·rw [show valV (kvT (y :: r)) (Sum.inr x) = valV (kvT r) (Sum.inr x) from valV_neg fun e => h (Sum.inr.inj e), ih]
   simp [Ne.symm h]
theorem addL_len (ws : List Str) (x : Str) : (addL ws x).length ≤ ws.length + 1 := by
 unfold addL
 split
 ·omega
 ·rw [List.length_append]; exact Nat.le_refl _
theorem addL_mem {ws : List Str} {x y : Str} : y ∈ addL ws x ↔ y ∈ ws ∨ y = x := by
 unfold addL
 split
 ·exact ⟨.inl, fun h => h.elim id fun e => e ▸ by assumption⟩
 ·simp
end SL
set_option Elab.async false
set_option linter.all false
set_option maxRecDepth 100000
set_option maxHeartbeats 2000000
namespace SL
open PySem PySem.Spec PyProof.Rows L2
structure EcC (K : PySem.W.Frag) (C : Addr) : Prop where
 oe : OexC K C
 xf : XfC K C
 xc : ExcC K C
structure EcI (K : PySem.W.Frag) (C fI : Addr) : Prop where
 ini : PySem.W.findIn K (.ref C) "__init__" = some (some (.ref fI))
 ty : PySem.W.typeIn K (.ref fI) = some (.type "function")
 ga : PySem.W.specialIn K (.ref C) "__getattribute__" = some (some (.builtin "type.__getattribute__"))
 rd : PySem.W.readsIn K C (.type "type") = true
 fd : PySem.W.findCls K (.ref C) (.type "type") "__init__" = some (.val (.ref fI))
 kp : PySem.W.keepIn K (.ref fI) = true
structure ClG (P : Program) (w : World) (K : PySem.W.Frag) (mg : Str → Option Value) (base : Heap) (k : Nat) (x : Str) (C : Addr) (sp : Sp) : Prop where
 m : mg x = some (.ref C)
 ec : EcC K C
 ex : ∃ (fI : Addr) (fd : FuncData) (ps : List Str), FnG P w K mg base CX0 k fI fd ps sp ∧ EcI K C fI ∧ Binds K fd ps []
section
variable {X : Cx} {k j : Nat} {x : Str} {C : Addr} {sp : Sp} {p p1 p2 pos : Pos} {e : Expr} {es : List Expr} {t ta : TA}
def spMk (C : Addr) (sp : Sp) (vs : List V) (H1 : Hp) (Q : VK) : Prop := vs.length ≤ 1000 ∧ ∀ a, H1 a = none → sp (.ref a :: vs) (upd H1 a (exo a C none)) (fun v H2 => v = .non ∧ Q (.ref a) H2) E0
def tMkE (C : Addr) (sp : Sp) (ta : TA) : TE := fun σ H Q => ta σ H fun vs H1 => spMk C sp vs H1 Q
def tXat (K : PySem.W.Frag) (n : Str) (te : TE) : TE := fun σ H Q => te σ H fun x H1 => ∃ (a C d : Addr) (fs : List (Str × V)) (v : V), x = .ref a ∧ EcC K C ∧ PySem.W.findIn K (.ref C) n = some none ∧ H1 a = some (exo a C (some d)) ∧ H1 d = some (exd d fs) ∧ fs.lookup n = some v ∧ Q v H1
end
end SL
namespace PySem.W
open PySem PySem.Spec PySem.Calls PyProof.Rows
section
variable {prog : Program} {w : World} {A : Around} {E : Value → Shared → Prop} {s : Shared} {K : Frag} {x D : Addr} {ox : Obj} {od : Option Obj}
end
end PySem.W
namespace SL
open PySem PySem.Spec PyProof.Rows L2
section
variable {X : Cx} {k j : Nat} {x : Str} {C : Addr} {sp : Sp} {p p1 p2 pos : Pos} {e : Expr} {es : List Expr} {t ta : TA}
def tMkX (C : Addr) (sp : Sp) (ta : TA) : L2.St → Hp → XK → Prop := fun σ H Q => ta σ H fun vs H1 => vs.length ≤ 1000 ∧ ∀ a, H1 a = none → sp (.ref a :: vs) (upd H1 a (exo a C none))
 (fun v H2 => v = .non ∧ ∃ (d : Addr) (fs : List (Str × V)), H2 a = some (exo a C (some d)) ∧ H2 d = some (exd d fs) ∧ H1 d = none ∧ Q (.ref C) (some d) (upd (del H2 a) d (.xd fs))) E0
end
structure CalX (P : Program) (w : World) (K : PySem.W.Frag) (mg : Str → Option Value) (base : Heap) (k : Nat) (x : Str) (sp : Sp) : Prop where
 ex : ∃ (f : Addr) (fd : FuncData) (ps : List Str), FnG P w K mg base (L2.CX P w) k f fd ps sp ∧ mg x = some (.ref f) ∧ PySem.W.keepIn K (.ref f) = true ∧ Binds K fd ps []
section
variable {X : Cx} {k j : Nat} {x : Str} {sp : Sp} {p pos : Pos} {e : Expr} {es : List Expr} {t : TA} {W : WX}
end
end SL
namespace SL
open PySem PySem.Spec PyProof.Rows L2
def tXs (K : PySem.W.Frag) (a : Addr) (cls : Value) (d : Option Addr) (n : Str) (te : TE) : TE := fun σ H Q => te σ H fun x H1 => x = .ref a ∧ ∃ (C dd : Addr) (fs : List (Str × V)) (v : V), cls = .ref C ∧ d = some dd ∧ EcC K C ∧ PySem.W.findIn K (.ref C) n = some none ∧ H1 dd = some (.xd fs) ∧ fs.lookup n = some v ∧ Q v H1
def tRs (t : L2.St → Hp → XK → Prop) (W : WX) : TS := fun _ σ H => t σ H fun cls d H' => W cls d σ H'
def tTry (K : PySem.W.Frag) (c : Value) (i : Nat) (tb : WX → TS) (ts : Addr → Value → Option Addr → TS) (Wout : WX) : TS := fun D σ H => tb (wAs K c i ts Wout D) D σ H
section
variable {X : Cx} {K : PySem.W.Frag} {e : Expr} {st : Stmt} {ta : TA} {te to : TE} {f : Str} {a : Addr} {cls : Value} {d : Option Addr} {σ : L2.St} {H : Hp} {Q : VK} {D : Ends}
theorem g_vei (q : ta σ H fun vs H1 => ∃ (a C : Addr) (ws : List V), vs = .ref a :: ws ∧ ws.length ≤ 1000 ∧ OexC K C ∧ H1 a = some (exo a C none) ∧ Q .non H1) : tVeI K ta σ H Q := q
theorem g_ost (q : te σ H fun y H1 => to σ H1 fun x H2 => ∃ a C : Addr, x = .ref a ∧ OexC K C ∧ PySem.W.findIn K (.ref C) f = some none ∧
 ((H2 a = some (exo a C none) ∧ ∀ dx, H2 dx = none → dx ≠ a → D.nx σ (upd (upd H2 dx (exd dx [(f, y)])) a (exo a C (some dx)))) ∨
  ∃ (dx : Addr) (fs : List (Str × V)), H2 a = some (exo a C (some dx)) ∧ H2 dx = some (exd dx fs) ∧ fs.length ≤ 900 ∧ D.nx σ (upd H2 dx (exd dx ((f, y) :: fs))))) : tOst K f to te D σ H := q
theorem g_xat (q : te σ H fun x H1 => ∃ (a C d : Addr) (fs : List (Str × V)) (v : V), x = .ref a ∧ EcC K C ∧ PySem.W.findIn K (.ref C) f = some none ∧ H1 a = some (exo a C (some d)) ∧ H1 d = some (exd d fs) ∧ fs.lookup f = some v ∧ Q v H1) : tXat K f te σ H Q := q
theorem g_xs (q : te σ H fun x H1 => x = .ref a ∧ ∃ (C dd : Addr) (fs : List (Str × V)) (v : V), cls = .ref C ∧ d = some dd ∧ EcC K C ∧ PySem.W.findIn K (.ref C) f = some none ∧ H1 dd = some (.xd fs) ∧ fs.lookup f = some v ∧ Q v H1) : tXs K a cls d f te σ H Q := q
theorem g_mkE {C : Addr} {sp : Sp} (q : ta σ H fun vs H1 => spMk C sp vs H1 Q) : tMkE C sp ta σ H Q := q
theorem g_rs {t : L2.St → Hp → XK → Prop} {W : WX} (q : t σ H fun cls d H' => W cls d σ H') : tRs t W D σ H := q
theorem g_mkX {C : Addr} {sp : Sp} {Qx : XK} (q : ta σ H fun vs H1 => vs.length ≤ 1000 ∧ ∀ a, H1 a = none → sp (.ref a :: vs) (upd H1 a (exo a C none))
 (fun v H2 => v = .non ∧ ∃ (d : Addr) (fs : List (Str × V)), H2 a = some (exo a C (some d)) ∧ H2 d = some (exd d fs) ∧ H1 d = none ∧ Qx (.ref C) (some d) (upd (del H2 a) d (.xd fs))) E0) : tMkX C sp ta σ H Qx := q
theorem g_try {c : Value} {i : Nat} {tb : WX → TS} {ts : Addr → Value → Option Addr → TS} {Wout : WX} (q : tb (wAs K c i ts Wout D) D σ H) : tTry K c i tb ts Wout D σ H := q
theorem g_callS {sp : Sp} {E : L2.St → XK} (q : ta σ H fun vs H1 => sp vs H1 Q (E σ)) : tCallS sp E ta σ H Q := q
end
theorem nofix_exo {e C : Addr} {d : Option Addr} : ¬ Fix (exo e C d) := fun z => z
theorem Fr.exd {H : Hp} {a d C : Addr} {o u : HO} (hd : H d = none) (ha : H a = some (exo a C none)) : Fr [a] H (upd (upd H d o) a u) := (Fr.new hd).trans (Fr.mut List.mem_cons_self (by rw [upd_ne (ne_of_none ha hd)]; exact ha) nofix_exo)
end SL
namespace SL
open PySem PySem.Spec PyProof.Rows L2
section
variable {K : PySem.W.Frag} {σ : L2.St} {H : Hp} {Q : VK} {ta tb tc te : TE} {r r' : R2}
theorem g_chain (q : ta σ H fun x H1 => tb σ H1 fun y H2 => r x y H2 fun z H3 => ∃ k, z = .bl k ∧ (if k = true then tc σ H3 fun w' H4 => r' y w' H4 Q else Q (.bl false) H3)) : tChain r r' ta tb tc σ H Q := q
theorem g_rU {f : Int → V} {i : Int} (q : Q (f i) H) : rU f (.int i) H Q := ⟨i, rfl, q⟩
theorem g_istr {S : It → Hp → Prop} (q : te σ H fun v H1 => ∃ x, v = .str x ∧ S (Its x) H1) : iStr te σ H S := q
theorem g_leS {a b : Str} (q : Q (.bl (!decide (b.cps.toList < a.cps.toList))) H) : uLe (.str a) (.str b) H Q := q
end
end SL
namespace SL
open PySem PySem.Spec PyProof.Rows L2 He
structure SaysY (fa : List Fa) (fn : List DefD) (ts : List Tab) (ex : PySem.W.Frag → Bool) (w : World) (K : PySem.W.Frag) : Prop where
 t : SaysT fa fn ts w K
 more : ex K = true
end SL
set_option Elab.async false
set_option linter.all false
set_option maxRecDepth 100000
set_option maxHeartbeats 2000000
namespace SL
open PySem PySem.Spec PySem.W PyProof.Rows L2
section
variable {Y : Cx} {pins : List (Addr × Obj)}
end
section
variable {X : Cx}
end
end SL
set_option Elab.async false
set_option linter.all false
set_option maxRecDepth 100000
set_option maxHeartbeats 2000000
namespace SL
open PySem PySem.Spec PySem.W PyProof.Rows L2
structure Clause (P : Program) (w : World) (c : Expr) (k : Nat) (acc : Value) (env : Env) (g : Comprehension) : Prop where
 at_k : (clausesOf c)[k]? = some g
 plain : g.is_async = 0
 quiet : ∀ it, (Code.compLoop c k it acc env).quiet = true
 turn : ∀ it, (model P w).den (.compLoop c k it acc env) = (compTurn c k it acc env).onRaise fun x => do noteFrame x env; theTreesLotGoes x
 start : ∀ it, (model P w).den (.compStart c k it acc env) = (compStart c k it acc env).onRaise fun x => do noteFrame x env; standAt theWindowsPlace
 under : ∀ (A : Around) it, A.under (.compLoop c k it acc env) = A ∧ A.under (.compStart c k it acc env) = A
section
variable {P : Program} {w : World} {A : Around} {c : Expr} {k : Nat} {acc : Value} {env : Env} {g : Comprehension}
end
section
variable {P : Program} {w : World} {env : Env} {kx vx tg iter tg1 iter1 elt : Expr} {ifs ifs1 : List Expr} {scope : Scope} {pos : Pos} {D : Addr}
end
section
variable {X : Cx}
end
end SL
set_option Elab.async false
set_option linter.all false
set_option maxRecDepth 100000
set_option maxHeartbeats 2000000
namespace SL
open PySem PySem.Spec PyProof.Rows L2
section
variable {prog : Program} {w : World} {A : Around} {E : Value → Shared → Prop} {s : Shared}
end
structure EnumT (a e it : Addr) (i : Nat) (h : Heap) : Prop where
 outer : ∃ old, IsEnum h e it ((i : Nat) : Int) old
 inner : h.IsTupleIter it a i
 apart : e ≠ it ∧ a ≠ it ∧ e ≠ a
end SL
namespace SL
open PySem PySem.Spec PyProof.Rows L2
end SL
set_option Elab.async false
set_option linter.all false
set_option maxRecDepth 100000
set_option maxHeartbeats 2000000
namespace SL
open PySem PySem.Spec PySem.W PyProof.Rows
section
variable {prog : Program} {w : World} {A : Around} {s : Shared}
end
open L2
def Keys (sp : Sp) (K : PySem.W.Frag) (H : Hp) (xs : List V) (ds : List PyData) : Prop :=
 ∀ (j : Nat) (x : V) (d : PyData), xs[j]? = some x → ds[j]? = some d → ∀ (H' : Hp) (Q : VK), SL.Fr [] H H' → (∀ y H2, SL.Fr [] H' H2 → Dp K H2 y d → Q y H2) → sp [x] H' Q E0
section
variable {X : Cx} {pins : List (Addr × Obj)} {σ : L2.St} {H : Hp} {s : Shared} {f : Addr} {fd : FuncData} {ps : List Str} {sp : Sp} {k : Nat}
end
structure CalF (P : Program) (w : World) (K : PySem.W.Frag) (mg : Str → Option Value) (base : Heap) (k : Nat) (x : Str) (f : Addr) (sp : Sp) : Prop where
 m : mg x = some (.ref f)
 ex : ∃ (fd : FuncData) (ps : List Str), FnG P w K mg base CX0 k f fd ps sp ∧ PySem.W.keepIn K (.ref f) = true ∧ Binds K fd ps []
theorem CalF.g {P : Program} {w : World} {K : PySem.W.Frag} {mg : Str → Option Value} {base : Heap} {k : Nat} {x : Str} {f : Addr} {sp : Sp} (D : CalF P w K mg base k x f sp) : CalG P w K mg base k x sp := by
 obtain ⟨fd, ps, F, kp, b⟩ := D.ex
 exact ⟨f, fd, ps, F, D.m, kp, b⟩
end SL
set_option Elab.async false
set_option linter.all false
set_option maxRecDepth 100000
set_option maxHeartbeats 2000000
namespace SL
open PySem PySem.Spec PyProof.Rows L2
structure MetG (P : Program) (w : World) (K : PySem.W.Frag) (mg : Str → Option Value) (base : Heap) (CX : CXT) (k : Nat) (C : Addr) (m : Str) (dvs : List V) (sp : Sp) : Prop where
 cls : Cls K C
 ex : ∃ (f : Addr) (fd : FuncData) (ps : List Str) (ds : List Value), Meth K C m f ∧ FnG P w K mg base CX k f fd ps sp ∧ Binds K fd ps ds ∧ Vals dvs ds
section
variable {X : Cx} {k j : Nat} {C : Addr} {sp : Sp} {m : Str} {pos apos : Pos} {e o : Expr} {es : List Expr} {ta : TE} {t : TA} {W : WX} {dvs : List V}
end
section
variable {X : Cx} {K : PySem.W.Frag} {o e value ex : Expr} {f : Str} {pos pos' tpos : Pos} {ta tv : TE} {rd : V → V → Hp → VK → Prop} {st : Stmt}
variable {σ : L2.St} {H : Hp} {Q : VK} {C : Addr} {m : Str} {sp : Sp} {dvs : List V} {E : L2.St → XK} {t : TA} {D : Ends}
end
section
variable {σ : L2.St} {H : Hp} {D : Ends}
end
end SL
set_option Elab.async false
set_option linter.all false
set_option maxRecDepth 100000
set_option maxHeartbeats 2000000
namespace SL
open PySem PySem.Spec PyProof.Rows L2
section
variable {X : Cx} {k j n : Nat} {f C : Addr} {fd : FuncData} {ps ks : List Str} {sp : Sp} {x : Str} {p pos : Pos} {e : Expr} {es : List Expr} {kws : List Keyword} {t tk : TA} {g : List Value → List Value → List Value} {gV : List V → List V → List V} {W : WX}
structure MkX (P : Program) (w : World) (K : PySem.W.Frag) (mg : Str → Option Value) (base : Heap) (k : Nat) (x : Str) (C : Addr) (n : Nat) (ks : List Str) (gV : List V → List V → List V) (sp : Sp) : Prop where
 m : mg x = some (.ref C)
 ex : ∃ (f : Addr) (fd : FuncData) (ps : List Str) (g : List Value → List Value → List Value), Mk K C f ∧ FnG P w K mg base (L2.CX P w) k f fd ps sp ∧ KBn K fd ps (n + 1) ks g gV
end
end SL
set_option Elab.async false
set_option linter.all false
set_option maxRecDepth 100000
set_option maxHeartbeats 2000000
namespace SL
open PySem PySem.Spec PyProof.Rows L2 PySem.Builtin PySem.Builtin.Str
section
variable {X : Cx} {o e : Expr} {te : TE} {to tk : TE} {y : Str} {j1 j2 j3 : Nat} {c0 c1 c2 apos pos pm : Pos}
end
end SL
set_option Elab.async false
set_option linter.all false
set_option maxRecDepth 100000
set_option maxHeartbeats 4000000
namespace LW
open PySem PySem.Spec PyProof.Rows L2 SL
abbrev FnP (K : PySem.W.Frag) (x : Str) (st : Stmt) (f : Addr) (fd : FuncData) : Prop := FunD K x x (defArgs st) (defBody st) (defScope st) [] [] f fd
def topS (i : Nat) : Stmt := PySem.Challenge.pw_sightlore_k07_variables_and_their_order.main.body.getD i (.Pass ⟨0, 0, 0, 0⟩)
local macro_rules | `(tactic| walk_at "q") => `(tactic| repeat walk_at "st")
local macro_rules | `(tactic| walk_at "st") => `(tactic| first
 | with_reducible refine g_seq ?_
 | ((with_reducible show tVar _ _ _ _); refine g_var rfl ?_)
 | with_reducible refine g_c ?_
 | with_reducible refine g_op ?_
 | with_reducible refine g_asg ?_
 | with_reducible refine g_name ?_
 | with_reducible refine g_if ?_
 | with_reducible refine g_test ?_
 | with_reducible refine g_k ?_
 | with_reducible refine g_ret ?_
 | with_reducible refine g_next ?_
 | with_reducible refine g_cons ?_
 | with_reducible refine g_nil ?_
 | with_reducible refine g_call ?_
 | with_reducible refine g_cb ?_
 | with_reducible refine g_addI ?_
 | with_reducible refine g_subI ?_
 | with_reducible refine g_ltI ?_
 | with_reducible refine g_leI ?_
 | with_reducible refine g_gtI ?_
 | with_reducible refine g_geI ?_
 | with_reducible refine g_eqI ?_
 | with_reducible refine g_eqS ?_
 | with_reducible refine g_eqB ?_
 | with_reducible refine g_neI ?_
 | with_reducible refine g_neS ?_
 | with_reducible refine g_neB ?_
 | ((with_reducible refine g_mulI ?h0 ?_); (case h0 => first | exact mulR (by decide) (by decide) | exact mulL (by decide) (by decide) | exact mulR (by omega) (by omega) | exact mulL (by omega) (by omega)))
 | ((with_reducible refine g_modI ?h0 ?_); (case h0 => first | decide | omega))
 | ((with_reducible refine g_divI ?h0 ?_); (case h0 => first | exact divS (by decide) (by decide) | exact divS (by omega) (by omega)))
 | ((with_reducible refine g_powI ?h0 ?_); (case h0 => exact ⟨by decide +kernel, by decide +kernel, by decide +kernel⟩))
 | ((with_reducible show rIx _ (V.ref _) (V.int _) _ _); refine g_ixL (by first | assumption | exact SqL.of (by assumption)) (by exact rfl) ?_)
 | ((with_reducible show rIx _ (V.ref _) (V.int _) _ _); refine g_ixT (by first | assumption | exact SqT.of (by assumption)) (by exact rfl) ?_)
 | ((with_reducible show uLen _ [V.ref _] _ _); first | refine g_len (.inl (SqL.of (by assumption))) ?_ | refine g_len (.inl (by assumption)) ?_ | refine g_len (.inr (by assumption)) ?_ | refine g_len (.inr (SqT.of (by assumption))) ?_)
 | with_reducible refine g_dget ?_
 | with_reducible refine g_dput ?_
 | with_reducible refine g_bm ?_
 | with_reducible refine g_bm0 ?_
 | with_reducible refine g_tyS ?_
 | ((with_reducible show tyV _ "list" (V.ref _) _ ∧ _); refine g_tyL (by first | assumption | exact SqL.of (by assumption)) ?_)
 | with_reducible refine g_pairs ?_
 | with_reducible refine g_pairs0 ?_
 | with_reducible refine g_for ?_
 | with_reducible refine g_iR1 ?_
 | with_reducible refine g_iR2 ?_
 | with_reducible refine g_iL ?_
 | with_reducible refine g_iT ?_
 | with_reducible refine g_lc ?_
 | with_reducible refine g_lc2 ?_
 | with_reducible refine g_dc ?_
 | with_reducible refine g_din ?_
 | with_reducible refine g_listRg ?_
 | with_reducible refine g_rg1 ?_
 | with_reducible refine g_izA ?_
 | with_reducible refine g_iz ?_
 | ((with_reducible show gTup _ _ _ (V.ref _) _ _ _); first | refine g_gtup (SqT.of upd_same) rfl ?_ | refine g_gtup (by first | assumption | exact SqT.of (by assumption)) rfl ?_)
 | with_reducible refine g_gcons ?_
 | with_reducible refine g_gnil ?_
 | with_reducible refine g_yes ?_
 | with_reducible refine g_andT ?_
 | with_reducible refine g_orT ?_
 | with_reducible refine g_notT ?_
 | with_reducible refine g_truB ?_
 | with_reducible refine g_and ?_
 | with_reducible refine g_or ?_
 | with_reducible refine g_not ?_
 | with_reducible refine g_ifE ?_
 | with_reducible refine g_B ?_
 | with_reducible refine g_un ?_
 | with_reducible refine g_sub ?_
 | with_reducible refine g_drop ?_
 | with_reducible refine g_sl ?_
 | with_reducible refine g_noPart ?_
 | with_reducible refine g_part ?_
 | with_reducible refine g_ki ?_
 | with_reducible refine g_fs ?_
 | with_reducible refine g_js0 ?_
 | with_reducible refine g_js ?_
 | with_reducible refine g_fmt ?_
 | with_reducible refine g_is ?_
 | with_reducible refine g_isNot ?_
 | with_reducible refine g_chain ?_
 | with_reducible refine g_istr ?_
 | with_reducible refine g_rU ?_
 | with_reducible refine g_leS ?_
 | with_reducible refine g_vei ?_
 | with_reducible refine g_ost ?_
 | with_reducible refine g_xat ?_
 | with_reducible refine g_xs ?_
 | with_reducible refine g_mkE ?_
 | with_reducible refine g_rs ?_
 | with_reducible refine g_mkX ?_
 | with_reducible refine g_try ?_
 | with_reducible refine g_callS ?_
 | (with_reducible refine g_tup ?_)
 | (with_reducible refine g_lst ?_)
 | ((with_reducible refine g_tt ?h0 ?_); (case h0 => decide +kernel))
 | ((with_reducible refine g_ff ?h0 ?_); (case h0 => decide +kernel)))
local macro_rules | `(tactic| walk_at "sz") => `(tactic| (refine le_of ?_; (try simp only [app_len, lit_q, lit_lp, lit_rp, lit_sp, lit_cs, lit_not, lit_is, lit_if, lit_e, lit_dot]); omega))
local macro_rules | `(tactic| walk_at "fs") => `(tactic| first
 | walk_at "st"
 | (refine g_fmtS ?hz ?_; (case hz => walk_at "sz"))
 | (refine g_jsS ?hz ?_; (case hz => walk_at "sz"))
 | (refine g_addS ?hz ?_; (case hz => walk_at "sz")))
local macro_rules | `(tactic| walk_at "if") => `(tactic| ((fail_if_success (with_reducible refine g_seqIf _ _ _ _ _ _ _ ?_)); walk_at "st"))
inductive SumE where
 | val (v : V) | var (x : Str) | op (s : Str) (a b : SumE)
def SumAt (K : PySem.W.Frag) (H : Hp) : SumE → V → Prop
 | .val u, v => ∃ p, v = .ref p ∧ SqT K H p [.str "value", u]
 | .var x, v => ∃ p, v = .ref p ∧ SqT K H p [.str "var", .str x]
 | .op s a b, v => ∃ p y z, v = .ref p ∧ SqT K H p [.str s, y, z] ∧ SumAt K H a y ∧ SumAt K H b z
theorem SumAt.fr {K : PySem.W.Frag} {H H' : Hp} {M : List Addr} (e : Fr M H H') : ∀ {t : SumE} {v : V}, SumAt K H t v → SumAt K H' t v
 | .val _, _, ⟨p, h1, h2⟩ => ⟨p, h1, e.tup h2⟩
 | .var _, _, ⟨p, h1, h2⟩ => ⟨p, h1, e.tup h2⟩
 | .op _ _ _, _, ⟨p, y, z, h1, h2, h3, h4⟩ => ⟨p, y, z, h1, e.tup h2, SumAt.fr e h3, SumAt.fr e h4⟩
def SumE.deep : SumE → Nat
 | .op _ a b => max a.deep b.deep + 1
 | _ => 0
def isSg (s : Str) : Prop := s = "+" ∨ s = "-" ∨ s = "*"
theorem sg_ne {s : Str} (h : isSg s) : s ≠ "value" ∧ s ≠ "var" := by
 rcases h with rfl | rfl | rfl <;> exact ⟨by decide +kernel, by decide +kernel⟩
inductive TermE where
 | any | s (e : SumE)
inductive PartE where
 | atom (no : Bool) (x : Str) (ts : List TermE) | lt (x : Str) (e : SumE) | test (s : Str) (a b : SumE)
inductive ArgE where
 | s (e : SumE) | fold (w : Str) (x : Option Str)
def SumE.d : SumE → PyData
 | .val u => .tuple [.str "value", scD u]
 | .var x => .tuple [.str "var", .str x]
 | .op s a b => .tuple [.str s, a.d, b.d]
def TermE.d : TermE → PyData
 | .any => .tuple [.str "any"]
 | .s e => e.d
def PartE.d : PartE → PyData
 | .atom no x ts => .tuple [.str (if no then "not" else "atom"), .str x, .tuple (ts.map TermE.d)]
 | .lt x e => .tuple [.str "let", .str x, e.d]
 | .test s a b => .tuple [.str "test", .str s, a.d, b.d]
def ArgE.d : ArgE → PyData
 | .s e => e.d
 | .fold w none => .tuple [.str "fold", .str w, .none]
 | .fold w (some x) => .tuple [.str "fold", .str w, .str x]
structure Tx (n : Nat) (t : Str) : Prop where
 len : t.length ≤ n
 ok : ∀ c ∈ t.cps.toList, c < 0x110000
theorem Tx.mono {m n : Nat} {t : Str} (h : Tx m t) (l : m ≤ n) : Tx n t := ⟨Nat.le_trans h.len l, h.ok⟩
theorem tl_app (a b : Str) : (a ++ b).cps.toList = a.cps.toList ++ b.cps.toList := Array.toList_append
theorem Tx.app {m n : Nat} {a b : Str} (h : Tx m a) (k : Tx n b) : Tx (m + n) (a ++ b) := ⟨by rw [app_len]; exact Nat.add_le_add h.len k.len, fun c hc => by
 rw [tl_app, List.mem_append] at hc
 exact hc.elim (h.ok c) (k.ok c)⟩
def txB (n : Nat) (t : Str) : Bool := decide (t.length ≤ n) && t.cps.toList.all (fun c => decide (c < 0x110000))
theorem Tx.lit {n : Nat} {t : Str} (h : txB n t = true) : Tx n t := by
 unfold txB at h
 simp only [Bool.and_eq_true, decide_eq_true_eq, List.all_eq_true] at h
 exact ⟨h.1, h.2⟩
theorem Tx.short {n : Nat} {t : Str} (h : Tx n t) (l : n ≤ 9000) : (reprText t).length ≤ sizeLine :=
 le_of (Nat.le_trans (StrLaws.reprText_len t fun c hc => Nat.lt_of_lt_of_le (h.ok c hc) (by decide)) (by have := h.len; omega))
theorem join_cons (y a b : Str) (r : List Str) : Txt.join y (a :: b :: r) = a ++ y ++ Txt.join y (b :: r) := by
 rw [TL.join_eq, TL.join_eq]
 rfl
theorem Tx.join {k m : Nat} {y : Str} (hy : Tx k y) : ∀ {ts : List Str}, (∀ t ∈ ts, Tx m t) → Tx (ts.length * (m + k)) (Txt.join y ts)
 | [], _ => by
  rw [TL.join_eq]
  exact ⟨Nat.zero_le _, fun c hc => nomatch hc⟩
 | [a], h => by
  rw [TL.join_eq]
  exact (h a List.mem_cons_self).mono (by simp)
 | a :: b :: r, h => by
  rw [join_cons]
  refine (((h a List.mem_cons_self).app hy).app (Tx.join hy fun t ht => h t (List.mem_cons_of_mem _ ht))).mono ?_
  simp only [List.length_cons, Nat.succ_mul]
  omega
def valT : V → Str
 | .bl b => if b then "yes" else "no"
 | .int i => toString i
 | .str x => "'" ++ x ++ "'"
 | _ => ""
def tightE : SumE → Nat
 | .op s _ _ => if s = "*" then 2 else 1
 | _ => 3
def wrapS (k : Nat) (e : SumE) (t : Str) : Str := if tightE e < k then "(" ++ t ++ ")" else t
def sumT : SumE → Str
 | .val u => valT u
 | .var x => x
 | .op s a b => wrapS (if s = "*" then 2 else 1) a (sumT a) ++ " " ++ s ++ " " ++ wrapS ((if s = "*" then 2 else 1) + 1) b (sumT b)
def termT : TermE → Str
 | .any => "_"
 | .s e => sumT e
def listT (ts : List Str) : Str := Txt.join ", " ts
def atomT (x : Str) (ts : List TermE) : Str := x ++ "(" ++ listT (ts.map termT) ++ ")"
def partT : PartE → Str
 | .atom no x ts => if no then "not " ++ atomT x ts else atomT x ts
 | .lt x e => x ++ " is " ++ sumT e
 | .test s a b => sumT a ++ " " ++ s ++ " " ++ sumT b
def argT : ArgE → Str
 | .s e => sumT e
 | .fold w none => w
 | .fold w (some x) => w ++ " " ++ x
def argsT (as : List ArgE) : Str := listT (as.map argT)
def partsT (ps : List PartE) : Str := listT (ps.map partT)
def ValG (u : V) : Prop := (∃ i : Int, u = .int i ∧ i.natAbs < 10 ^ 30) ∨ (∃ b, u = .bl b) ∨ ∃ x, u = .str x ∧ Tx 12 x
inductive SumG : Nat → SumE → Prop
 | val {n : Nat} {u : V} : ValG u → SumG n (.val u)
 | var {n : Nat} {x : Str} : Tx 12 x → SumG n (.var x)
 | op {n : Nat} {s : Str} {a b : SumE} : isSg s → SumG n a → SumG n b → SumG (n + 1) (.op s a b)
theorem SumG.up {m n : Nat} {e : SumE} (h : SumG m e) (l : m ≤ n) : SumG n e := by
 induction h generalizing n with
 | val h => exact .val h
 | var h => exact .var h
 | op hs _ _ iha ihb =>
  obtain ⟨k, rfl⟩ : ∃ k, n = k + 1 := ⟨n - 1, by omega⟩
  exact .op hs (iha (by omega)) (ihb (by omega))
inductive TermG : TermE → Prop
 | any : TermG .any
 | s {e : SumE} : SumG 0 e → TermG (.s e)
inductive PartG : PartE → Prop
 | atom {no : Bool} {x : Str} {ts : List TermE} : Tx 44 x → ts.length ≤ 4 → (∀ t ∈ ts, TermG t) → PartG (.atom no x ts)
 | lt {x : Str} {e : SumE} : Tx 12 x → SumG 1 e → PartG (.lt x e)
 | test {s : Str} {a b : SumE} : Tx 2 s → SumG 1 a → SumG 1 b → PartG (.test s a b)
inductive ArgG : ArgE → Prop
 | s {e : SumE} : SumG 0 e → ArgG (.s e)
 | fold0 {w : Str} : Tx 5 w → ArgG (.fold w none)
 | fold {w x : Str} : Tx 5 w → Tx 12 x → ArgG (.fold w (some x))
theorem tx_int {i : Int} (h : i.natAbs < 10 ^ 30) : Tx 31 (toString i : Str) := by
 refine ⟨?_, fun c hc => ?_⟩
 ·have e := int_text_length_le10 (k := 30) (by decide) h
  show (Str.ofString (toString i)).length ≤ 31
  rw [PySem.ofString_length]
  exact e
 ·have hc2 : c ∈ (Str.ofString (toString i)).cps.toList := hc
  rw [PyProof.Rows.signs_ofString, List.mem_map] at hc2
  obtain ⟨ch, _, rfl⟩ := hc2
  rcases ch.valid with h | h
  ·exact Nat.lt_trans h (by decide)
  ·exact h.2
theorem ValG.tx {u : V} (h : ValG u) : Tx 31 (valT u) := by
 rcases h with ⟨i, rfl, h⟩ | ⟨b, rfl⟩ | ⟨x, rfl, h⟩
 ·exact tx_int h
 ·cases b
  ·exact Tx.lit (by decide +kernel)
  ·exact Tx.lit (by decide +kernel)
 ·exact (((Tx.lit (n := 1) (by decide +kernel)).app h).app (Tx.lit (n := 1) (by decide +kernel))).mono (by decide)
theorem Tx.wrap {n k : Nat} {e : SumE} {t : Str} (h : Tx n t) : Tx (n + 2) (wrapS k e t) := by
 unfold wrapS
 split
 ·exact (((Tx.lit (n := 1) (by decide +kernel)).app h).app (Tx.lit (n := 1) (by decide +kernel))).mono (by omega)
 ·exact h.mono (by omega)
theorem isSg.tx {s : Str} (h : isSg s) : Tx 1 s := by
 rcases h with rfl | rfl | rfl <;> exact Tx.lit (by decide +kernel)
theorem SumG.tx {m : Nat} {e : SumE} (h : SumG m e) : Tx (48 * 2 ^ m - 7) (sumT e) := by
 induction h with
 | @val n u h => exact h.tx.mono (by have := Nat.one_le_two_pow (n := n); omega)
 | @var n x h => exact h.mono (by have := Nat.one_le_two_pow (n := n); omega)
 | @op n s a b hs _ _ iha ihb =>
  have l1 : Tx 1 (" " : Str) := Tx.lit (by decide +kernel)
  have p := Nat.one_le_two_pow (n := n)
  refine (((((iha.wrap).app l1).app hs.tx).app l1).app ihb.wrap).mono ?_
  rw [Nat.pow_succ]
  omega
theorem TermG.tx {t : TermE} (h : TermG t) : Tx 41 (termT t) := by
 cases h with
 | any => exact Tx.lit (by decide +kernel)
 | s h => exact h.tx.mono (by decide)
theorem txs_map {α : Type} {f : α → Str} {xs : List α} {n : Nat} (h : ∀ x ∈ xs, Tx n (f x)) : ∀ t ∈ xs.map f, Tx n t := fun t ht => by
 obtain ⟨x, hx, rfl⟩ := List.mem_map.mp ht
 exact h x hx
theorem Tx.list {α : Type} {f : α → Str} {xs : List α} {n k : Nat} (h : ∀ x ∈ xs, Tx n (f x)) (l : xs.length ≤ k) : Tx (k * (n + 2)) (listT (xs.map f)) := by
 refine (Tx.join (k := 2) (y := ", ") (Tx.lit (by decide +kernel)) (txs_map h)).mono ?_
 rw [List.length_map]
 exact Nat.mul_le_mul_right _ l
theorem Tx.atom {x : Str} {ts : List TermE} (hx : Tx 44 x) (hl : ts.length ≤ 4) (h : ∀ t ∈ ts, TermG t) : Tx 218 (atomT x ts) :=
 (((hx.app (Tx.lit (n := 1) (by decide +kernel))).app (Tx.list (fun t ht => (h t ht).tx) hl)).app (Tx.lit (n := 1) (by decide +kernel))).mono (by decide)
theorem PartG.tx {p : PartE} (h : PartG p) : Tx 240 (partT p) := by
 cases h with
 | @atom no x ts hx hl h =>
  cases no
  ·exact (Tx.atom hx hl h).mono (by decide)
  ·exact ((Tx.lit (n := 4) (t := "not ") (by decide +kernel)).app (Tx.atom hx hl h)).mono (by decide)
 | lt hx he => exact ((hx.app (Tx.lit (n := 4) (by decide +kernel))).app he.tx).mono (by decide)
 | test hs ha hb => exact ((((ha.tx.app (Tx.lit (n := 1) (by decide +kernel))).app hs).app (Tx.lit (n := 1) (by decide +kernel))).app hb.tx).mono (by decide)
theorem ArgG.tx {a : ArgE} (h : ArgG a) : Tx 41 (argT a) := by
 cases h with
 | s h => exact h.tx.mono (by decide)
 | fold0 h => exact h.mono (by decide)
 | fold h hx => exact ((h.app (Tx.lit (n := 1) (by decide +kernel))).app hx).mono (by decide)
def argsG (as : List ArgE) : Prop := as.length ≤ 8 ∧ ∀ a ∈ as, ArgG a
def partsG (ps : List PartE) : Prop := ps.length ≤ 8 ∧ ∀ p ∈ ps, PartG p
theorem argsG.tx {as : List ArgE} (h : argsG as) : Tx 344 (argsT as) := Tx.list (fun a ha => (h.2 a ha).tx) h.1
theorem partsG.tx {ps : List PartE} (h : partsG ps) : Tx 1936 (partsT ps) := Tx.list (fun a ha => (h.2 a ha).tx) h.1
theorem td_val {K : PySem.W.Frag} {H : Hp} {u v : V} (hu : ValG u) (h : Td K H v (.tuple [.str "value", scD u])) : ∃ p, v = .ref p ∧ SqT K H p [.str "value", u] := by
 obtain ⟨p, x, y, rfl, hp, hx, hy⟩ := h.t2
 cases hx.str_inv
 rcases hu with ⟨i, rfl, _⟩ | ⟨b, rfl⟩ | ⟨x, rfl, _⟩
 ·cases hy.int_inv; exact ⟨p, rfl, hp⟩
 ·cases hy.bl_inv; exact ⟨p, rfl, hp⟩
 ·cases hy.str_inv; exact ⟨p, rfl, hp⟩
theorem sum_deep {m : Nat} {e : SumE} (h : SumG m e) : e.deep ≤ m := by
 induction h with
 | val => exact Nat.zero_le _
 | var => exact Nat.zero_le _
 | op _ _ _ h1 h2 => exact Nat.succ_le_succ (Nat.max_le.mpr ⟨h1, h2⟩)
structure BiT (mg : Str → Option Value) : Prop where
 b_isinstance : mg "isinstance" = none
 b_bool : mg "bool" = none
 b_int : mg "int" = none
 b_str : mg "str" = none
structure Bi (mg : Str → Option Value) : Prop where
 b_len : mg "len" = none
 b_list : mg "list" = none
 b_range : mg "range" = none
def bagO (cs : Addr) (i r k : Int) : HO := .lst [.ref cs, .int i, .int r, .int k]
structure BagAt (H : Hp) (b cs : Addr) : Prop where
 ex : ∃ (cells : List Int) (i r k : Int), H b = some (bagO cs i r k) ∧ H cs = some (.lst (cells.map V.int)) ∧ 0 ≤ i
theorem BagAt.ne {H : Hp} {b cs : Addr} (h : BagAt H b cs) : cs ≠ b := by
 obtain ⟨cells, i, r, k, h1, h2, _⟩ := h.ex
 intro e
 rw [e, h1] at h2
 have h3 : [V.ref cs, .int i, .int r, .int k] = cells.map V.int := HO.lst.inj (Option.some.inj h2)
 cases cells with
 | nil => cases h3
 | cons c r => cases (List.cons.inj h3).1
theorem BagAt.fr {H H' : Hp} {b cs : Addr} {M : List Addr} (h : BagAt H b cs) (e : Fr M H H') (n1 : b ∉ M) (n2 : cs ∉ M) : BagAt H' b cs := by
 obtain ⟨cells, i, r, k, h1, h2, h3⟩ := h.ex
 exact ⟨cells, i, r, k, e.at h1 n1, e.at h2 n2, h3⟩
theorem BagAt.fr0 {H H' : Hp} {b cs : Addr} (h : BagAt H b cs) (e : Fr [] H H') : BagAt H' b cs := h.fr e (fun z => nomatch z) (fun z => nomatch z)
theorem BagAt.put {H : Hp} {b cs : Addr} (h : BagAt H b cs) {i r k : Int} (hi : 0 ≤ i) : BagAt (upd H b (bagO cs i r k)) b cs := by
 obtain ⟨cells, _, _, _, h1, h2, h3⟩ := h.ex
 exact ⟨cells, i, r, k, upd_same, by rw [upd_ne h.ne]; exact h2, hi⟩
theorem BagAt.frp {H : Hp} {b cs : Addr} (h : BagAt H b cs) {o : HO} : Fr [b] H (upd H b o) := by
 obtain ⟨cells, i, r, k, h1, h2, h3⟩ := h.ex
 exact Fr.mut (List.mem_singleton.mpr rfl) h1 nofix_lst
theorem BagAt.some {H : Hp} {b cs : Addr} (h : BagAt H b cs) {p : Addr} (hp : H p = none) : p ≠ b ∧ p ≠ cs := by
 obtain ⟨cells, i, r, k, h1, h2, h3⟩ := h.ex
 exact ⟨fun e => (by rw [e, h1] at hp; cases hp), fun e => (by rw [e, h2] at hp; cases hp)⟩
def spBag (K : PySem.W.Frag) : Sp := fun vs H Q _ => ∃ (a : Addr) (ns : List Int), vs = [.ref a] ∧ SqL K H a (ns.map V.int) ∧ ns.length ≤ 63 ∧
 ∀ b cs H', Fr [] H H' → H b = none → BagAt H' b cs → Q (.ref b) H'
def spPull : Sp := fun vs H Q _ => ∃ (b cs : Addr) (u : Int), vs = [.ref b, .int u] ∧ BagAt H b cs ∧ 0 < u ∧ u < 2 ^ 200 ∧
 ∀ d H', 0 ≤ d → d < u → BagAt H' b cs → Fr [b] H H' → Q (.int d) H'
abbrev s__law_bag : Stmt := topS 10
theorem sc__law_bag : FnScope ["_law_script", "_law_cells", "_law_knot", "_law_cell"] ["_law_script"] (defScope s__law_bag) := ⟨rfl, rfl, rfl, by decide +kernel, rfl, by decide +kernel, by decide +kernel⟩
abbrev s__law_pull : Stmt := topS 11
theorem sc__law_pull : FnScope ["_law_bag_here", "_law_upto", "_law_seed", "_law_fold", "_law_twist", "_law_drawn"] ["_law_bag_here", "_law_upto"] (defScope s__law_pull) := ⟨rfl, rfl, rfl, by decide +kernel, rfl, by decide +kernel, by decide +kernel⟩
section
variable {P : Program} {w : World} {K : PySem.W.Frag} {mg : Str → Option Value} {base : Heap}
theorem ok__law_bag {f : Addr} {fd : FuncData} (F : FnP K "_law_bag" s__law_bag f fd) (B : Bi mg) : FnG P w K mg base CX0 10 f fd ["_law_script"] (spBag K) := by
 refine okG F sc__law_bag (fun vs H Q E h => ?_) (fun cdv A outer s H vs Q E hr h => ?_)
 ·obtain ⟨a, ns, rfl, _⟩ := h
  rfl
 obtain ⟨a, ns, rfl, hS, hl, q⟩ := h
 refine ⟨_, PSs.nox (pss_cons (ps_set (i := 1) sc__law_bag.nd rfl (.inl rfl) (pe_callTy (kCall (K := K) (r := uList) rfl callu_list) (by rfl) B.b_list (by decide +kernel) (pa_cons (pe_slice (kSl (K := K) (r := rSlL) rfl sl_list) (pv 0) po_none (po_some pe_int)) pa_nil)))
 (pss_cons (ps_set (i := 2) sc__law_bag.nd rfl (.inl rfl) (pe_op (kOp (K := K) (r := uAdd) rfl opu_add) pe_int (pe_callB (kCall (K := K) (r := uLen) rfl callu_len) (by rfl) B.b_len (by decide +kernel) (pa_cons (pv 1) pa_nil))))
 (pss_cons (ps_for PassesOwn.never rfl (pi_listK (K := K) rfl (pv 1)) (pg_name (i := 3) sc__law_bag.nd rfl (by first | exact Or.inl rfl | exact Or.inr rfl)) (pss_one (ps_set (i := 2) sc__law_bag.nd rfl (.inl rfl) (pe_op opu_mod (pe_op (kOp (K := K) (r := uAdd) rfl opu_add) (pe_op opu_mul (pv 2) pe_int) (pv 3)) pe_int))))
 (pss_one (ps_ret (pe_lst (pa_cons (pv 1) (pa_cons pe_int (pa_cons pe_int (pa_cons (pv 2) pa_nil)))))))))), rd_start (σ0 := [some (.ref a), none, none, none]) rfl ?_⟩
 walk_at "q"
 refine g_slL hS fun p1 hp1 => ?_
 walk_at "q"
 refine g_list (.inl (SqL.of upd_same)) fun p2 hp2 => ?_
 have ec : cutV (ns.map V.int) none (some 63) = ns.map V.int := by
  have z := cut0 (ns.map V.int) 63
  rw [List.take_of_length_le (by rw [List.length_map]; omega)] at z
  exact z
 rw [ec] at hp2 ⊢
 have e2 : Fr [] H (upd (upd H p1 (.lst (ns.map V.int))) p2 (.lst (ns.map V.int))) := (Fr.new hp1).trans (Fr.new hp2)
 have h2 : (upd (upd H p1 (.lst (ns.map V.int))) p2 (.lst (ns.map V.int))) p2 = some (.lst (ns.map V.int)) := upd_same
 generalize upd (upd H p1 (.lst (ns.map V.int))) p2 (.lst (ns.map V.int)) = H2 at *
 walk_at "q"
 refine ⟨_, rfl, ⟨_, SqL.of h2⟩, for_list (K := K) (a := p2) (xs := ns.map V.int) (fun i σ H' => ∃ (k : Int) (c : Option V), σ = [some (.ref a), some (.ref p2), some (.int k), c] ∧ H' = H2) ⟨_, _, rfl, rfl⟩ (fun i σ H' _ h => ?_) (fun i x σ H' hi h => ?_) (fun σ H' h => ?_)⟩
 ·obtain ⟨k, c, rfl, rfl⟩ := h
  exact SqL.of h2
 ·obtain ⟨k, c, rfl, rfl⟩ := h
  obtain ⟨n, _, rfl⟩ := List.mem_map.mp (List.mem_of_getElem? hi)
  walk_at "q"
  exact ⟨_, _, rfl, rfl⟩
 ·obtain ⟨k, c, rfl, rfl⟩ := h
  walk_at "q"
  refine ⟨le_of (by simp), fun p3 hp3 => ?_⟩
  refine q p3 p2 _ (e2.trans (Fr.new hp3)) (e2.back (fun z => nomatch z) hp3) ⟨ns, 0, 0, k, upd_same, by rw [upd_ne (ne_of_none h2 hp3)]; exact h2, Int.le_refl 0⟩
theorem ok__law_pull {f : Addr} {fd : FuncData} (F : FnP K "_law_pull" s__law_pull f fd) (B : Bi mg) : FnG P w K mg base CX0 10 f fd ["_law_bag_here", "_law_upto"] spPull := by
 refine okG F sc__law_pull (fun vs H Q E h => ?_) (fun cdv A outer s H vs Q E hr h => ?_)
 ·obtain ⟨b, cs, u, rfl, _⟩ := h
  rfl
 obtain ⟨b, cs, u, rfl, hB, hu0, hu1, q⟩ := h
 obtain ⟨cells, i, r, k, hb, hc, hi⟩ := id hB.ex
 refine ⟨_, PSs.nox (pss_cons (ps_if (pt_cmpR (kOp (K := K) (r := uLt) rfl opu_lt) (pe_ix (kIx (K := K) (r := rIx) rfl ix_seq) (pv 0) pe_int (fun _ _ => rfl)) pe_int (nomark _)) (pss_cons (ps_asg (pe_op (kOp (K := K) (r := uAdd) rfl opu_add) (pe_ix (kIx (K := K) (r := rIx) rfl ix_seq) (pv 0) pe_int (fun _ _ => rfl)) pe_int) (pg_sub (pv 0) pe_int set_list))
 (pss_cons (ps_set (i := 2) sc__law_pull.nd rfl (.inl rfl) (pe_op (kOp (K := K) (r := uAdd) rfl opu_add) (pe_ix (kIx (K := K) (r := rIx) rfl ix_seq) (pv 0) pe_int (fun _ _ => rfl)) (pe_op opu_mul (pe_ix (kIx (K := K) (r := rIx) rfl ix_seq) (pv 0) pe_int (fun _ _ => rfl)) pe_int)))
 (pss_cons (ps_if (pt_cmpR opu_le (pe_ix (kIx (K := K) (r := rIx) rfl ix_seq) (pv 0) pe_int (fun _ _ => rfl)) (pe_callB (kCall (K := K) (r := uLen) rfl callu_len) (by rfl) B.b_len (by decide +kernel) (pa_cons (pe_ix (kIx (K := K) (r := rIx) rfl ix_seq) (pv 0) pe_int (fun _ _ => rfl)) pa_nil)) (nomark _)) (pss_one (ps_set (i := 2) sc__law_pull.nd rfl (.inl rfl) (pe_ix (kIx (K := K) (r := rIx) rfl ix_seq) (pe_ix (kIx (K := K) (r := rIx) rfl ix_seq) (pv 0) pe_int (fun _ _ => rfl)) (pe_op opu_sub (pe_ix (kIx (K := K) (r := rIx) rfl ix_seq) (pv 0) pe_int (fun _ _ => rfl)) pe_int) (fun _ _ => rfl)))) pss_nil)
 (pss_cons (ps_if (PW.pt (pw_or (pt_cmpR opu_gt (pe_ix (kIx (K := K) (r := rIx) rfl ix_seq) (pv 0) pe_int (fun _ _ => rfl)) (pe_callB (kCall (K := K) (r := uLen) rfl callu_len) (by rfl) B.b_len (by decide +kernel) (pa_cons (pe_ix (kIx (K := K) (r := rIx) rfl ix_seq) (pv 0) pe_int (fun _ _ => rfl)) pa_nil)) (nomark _)) (pw_or1 (pt_cmpR (kOp (K := K) (r := uLt) rfl opu_lt) (pv 2) (pe_op opu_pow pe_int pe_int) (nomark _))))) (pss_cons (ps_set (i := 3) sc__law_pull.nd rfl (.inl rfl) (pe_op opu_mod (pe_op (kOp (K := K) (r := uAdd) rfl opu_add) (pe_op (kOp (K := K) (r := uAdd) rfl opu_add) (pe_op opu_mul (pv 2) pe_int) (pe_op opu_mul (pe_ix (kIx (K := K) (r := rIx) rfl ix_seq) (pv 0) pe_int (fun _ _ => rfl)) pe_int)) (pe_ix (kIx (K := K) (r := rIx) rfl ix_seq) (pv 0) pe_int (fun _ _ => rfl))) pe_int))
 (pss_cons (ps_set (i := 4) sc__law_pull.nd rfl (.inl rfl) (pe_op opu_mod (pe_op (kOp (K := K) (r := uAdd) rfl opu_add) (pe_op opu_mul (pv 3) (pv 3)) (pe_ix (kIx (K := K) (r := rIx) rfl ix_seq) (pv 0) pe_int (fun _ _ => rfl))) pe_int))
 (pss_one (ps_ret (pe_op opu_mod (pe_op opu_div (pe_op opu_mod (pe_op (kOp (K := K) (r := uAdd) rfl opu_add) (pe_op opu_mul (pv 4) pe_int) (pv 3)) pe_int) pe_int) (pv 1)))))) pss_nil)
 (pss_one (ps_asg (pv 2) (pg_sub (pv 0) pe_int set_list))))))) pss_nil)
 (pss_cons (ps_set (i := 5) sc__law_pull.nd rfl (.inl rfl) (pe_op opu_mod (pe_ix (kIx (K := K) (r := rIx) rfl ix_seq) (pv 0) pe_int (fun _ _ => rfl)) (pv 1)))
 (pss_cons (ps_asg (pe_op opu_div (pe_ix (kIx (K := K) (r := rIx) rfl ix_seq) (pv 0) pe_int (fun _ _ => rfl)) (pv 1)) (pg_sub (pv 0) pe_int set_list))
 (pss_one (ps_ret (pv 5)))))), rd_start (σ0 := [some (.ref b), some (.int u), none, none, none, none]) rfl ?_⟩
 unfold bagO at hb
 have hcb := hB.ne
 walk_at "q"
 refine g_by (fun c1 => ?_) (fun c1 => ?_)
 ·walk_at "q"
  refine g_setL (j := 1) hb rfl ?_
  have hb1 : (upd H b (.lst ([V.ref cs, .int i, .int r, .int k].set 1 (.int (i + 1))))) b = some (.lst [V.ref cs, .int (i + 1), .int r, .int k]) := upd_same
  have hc1 : (upd H b (.lst ([V.ref cs, .int i, .int r, .int k].set 1 (.int (i + 1))))) cs = some (.lst (cells.map V.int)) := by rw [upd_ne hcb]; exact hc
  have hf1 : Fr [b] H (upd H b (.lst ([V.ref cs, .int i, .int r, .int k].set 1 (.int (i + 1))))) := hB.frp
  generalize upd H b (.lst ([V.ref cs, .int i, .int r, .int k].set 1 (.int (i + 1)))) = H1 at *
  walk_at "q"
  refine g_by (fun c2 => ?_) (fun c2 => ?_)
  ·walk_at "q"
   have hl : i + 1 ≤ (cells.length : Int) := by rw [List.length_map] at c2; exact c2
   obtain ⟨j, rfl⟩ : ∃ j : Nat, i = (j : Int) := ⟨i.toNat, by omega⟩
   have hj : j < cells.length := by omega
   have hat : atI (cells.map V.int) ((j : Int) + 1 - 1) = some (.int cells[j]) := by
    rw [show (j : Int) + 1 - 1 = (j : Int) by omega]
    exact atI_nat (by rw [List.getElem?_map, List.getElem?_eq_getElem hj]; rfl)
   refine g_ixL (SqL.of hc1) hat ?_
   generalize cells[j] = seed
   walk_at "q"
   have hB1 : BagAt H1 b cs := ⟨cells, _, r, k, hb1, hc1, by omega⟩
   refine g_by (fun c3 => ?_) (fun c3 => ?_)
   ·have key : ∀ z : Int, Q (.int (z % u)) H1 := fun z => q _ _ (Int.emod_nonneg _ (by omega)) (Int.emod_lt_of_pos _ hu0) hB1 hf1
    walk_at "q"
    exact key _
   ·walk_at "q"
    refine g_by (fun c4 => ?_) (fun c4 => ?_)
    ·have key : ∀ z : Int, Q (.int (z % u)) H1 := fun z => q _ _ (Int.emod_nonneg _ (by omega)) (Int.emod_lt_of_pos _ hu0) hB1 hf1
     walk_at "q"
     exact key _
    ·walk_at "q"
     refine g_setL (j := 2) hb1 rfl ?_
     have hb2 : (upd H1 b (.lst ([V.ref cs, .int ((j : Int) + 1), .int r, .int k].set 2 (.int seed)))) b = some (.lst [V.ref cs, .int ((j : Int) + 1), .int seed, .int k]) := upd_same
     have hB2 : BagAt (upd H1 b (.lst ([V.ref cs, .int ((j : Int) + 1), .int r, .int k].set 2 (.int seed)))) b cs := hB1.put (by omega)
     have hf2 : Fr [b] H (upd H1 b (.lst ([V.ref cs, .int ((j : Int) + 1), .int r, .int k].set 2 (.int seed)))) := hf1.trans hB1.frp
     generalize upd H1 b (.lst ([V.ref cs, .int ((j : Int) + 1), .int r, .int k].set 2 (.int seed))) = H2 at *
     walk_at "q"
     refine g_setL (j := 2) hb2 rfl ?_
     walk_at "q"
     exact q _ _ (Int.emod_nonneg _ (by omega)) (Int.emod_lt_of_pos _ hu0) (hB2.put (by omega)) (hf2.trans hB2.frp)
  ·walk_at "q"
   generalize k + (i + 1) * 7919 = seed
   walk_at "q"
   have hB1 : BagAt H1 b cs := ⟨cells, _, r, k, hb1, hc1, by omega⟩
   refine g_by (fun c3 => ?_) (fun c3 => ?_)
   ·have key : ∀ z : Int, Q (.int (z % u)) H1 := fun z => q _ _ (Int.emod_nonneg _ (by omega)) (Int.emod_lt_of_pos _ hu0) hB1 hf1
    walk_at "q"
    exact key _
   ·walk_at "q"
    refine g_by (fun c4 => ?_) (fun c4 => ?_)
    ·have key : ∀ z : Int, Q (.int (z % u)) H1 := fun z => q _ _ (Int.emod_nonneg _ (by omega)) (Int.emod_lt_of_pos _ hu0) hB1 hf1
     walk_at "q"
     exact key _
    ·walk_at "q"
     refine g_setL (j := 2) hb1 rfl ?_
     have hb2 : (upd H1 b (.lst ([V.ref cs, .int (i + 1), .int r, .int k].set 2 (.int seed)))) b = some (.lst [V.ref cs, .int (i + 1), .int seed, .int k]) := upd_same
     have hB2 : BagAt (upd H1 b (.lst ([V.ref cs, .int (i + 1), .int r, .int k].set 2 (.int seed)))) b cs := hB1.put (by omega)
     have hf2 : Fr [b] H (upd H1 b (.lst ([V.ref cs, .int (i + 1), .int r, .int k].set 2 (.int seed)))) := hf1.trans hB1.frp
     generalize upd H1 b (.lst ([V.ref cs, .int (i + 1), .int r, .int k].set 2 (.int seed))) = H2 at *
     walk_at "q"
     refine g_setL (j := 2) hb2 rfl ?_
     walk_at "q"
     exact q _ _ (Int.emod_nonneg _ (by omega)) (Int.emod_lt_of_pos _ hu0) (hB2.put (by omega)) (hf2.trans hB2.frp)
 ·walk_at "q"
  refine g_setL (j := 2) hb rfl ?_
  walk_at "q"
  exact q _ _ (Int.emod_nonneg _ (by omega)) (Int.emod_lt_of_pos _ hu0) (hB.put hi) hB.frp
end
theorem atI_in {α : Type} {xs : List α} {d : Int} (h0 : 0 ≤ d) (h1 : d < (xs.length : Int)) : ∃ v, v ∈ xs ∧ atI xs d = some v := by
 obtain ⟨j, rfl⟩ : ∃ j : Nat, d = (j : Int) := ⟨d.toNat, by omega⟩
 have hj : j < xs.length := by omega
 exact ⟨xs[j], List.getElem_mem hj, atI_nat (List.getElem?_eq_getElem hj)⟩
def spOne (K : PySem.W.Frag) : Sp := fun vs H Q _ => ∃ (b cs r : Addr) (xs : List V), vs = [.ref b, .ref r] ∧ BagAt H b cs ∧ ((SqL K H r xs ∧ r ≠ b) ∨ SqT K H r xs) ∧ 0 < xs.length ∧ xs.length ≤ 1000 ∧
 ∀ v H', v ∈ xs → BagAt H' b cs → Fr [b] H H' → Q v H'
abbrev s__law_one : Stmt := topS 12
theorem sc__law_one : FnScope ["_law_bag_here", "_law_row"] ["_law_bag_here", "_law_row"] (defScope s__law_one) := ⟨rfl, rfl, rfl, by decide +kernel, rfl, by decide +kernel, by decide +kernel⟩
section
variable {P : Program} {w : World} {K : PySem.W.Frag} {mg : Str → Option Value} {base : Heap}
theorem ok__law_one {f : Addr} {fd : FuncData} (F : FnP K "_law_one" s__law_one f fd) (B : Bi mg) (C__law_pull : CalG P w K mg base 10 "_law_pull" spPull) : FnG P w K mg base CX0 20 f fd ["_law_bag_here", "_law_row"] (spOne K) := by
 refine okG F sc__law_one (fun vs H Q E h => ?_) (fun cdv A outer s H vs Q E hr h => ?_)
 ·obtain ⟨b, cs, r, xs, rfl, _⟩ := h
  rfl
 obtain ⟨b, cs, r, xs, rfl, hB, hx, h0, h1, q⟩ := h
 refine ⟨_, PSs.nox (pss_one (ps_ret (pe_ix (kIx (K := K) (r := rIx) rfl ix_seq) (pv 1) (pe_calG C__law_pull hr rfl (pa_cons (pv 0) (pa_cons (pe_callB (kCall (K := K) (r := uLen) rfl callu_len) (by rfl) B.b_len (by decide +kernel) (pa_cons (pv 1) pa_nil)) pa_nil))) (fun _ _ => rfl)))), rd_start (σ0 := [some (.ref b), some (.ref r)]) rfl ?_⟩
 walk_at "q"
 refine g_len (hx.imp (fun z => z.1) id) ?_
 walk_at "q"
 refine ⟨b, cs, _, rfl, hB, by omega, Int.lt_of_le_of_lt (b := 1000) (by omega) (by decide), fun d H' d0 d1 hB' hF => ?_⟩
 obtain ⟨v, hv, ha⟩ := atI_in d0 d1
 rcases hx with ⟨hx, hn⟩ | hx
 ·exact g_ixL (hF.seq (fun z => hn (List.mem_singleton.mp z)) hx) ha (q v H' hv hB' hF)
 ·exact g_ixT (hF.tup hx) ha (q v H' hv hB' hF)
end
def isLet (c : Nat) : Bool := decide (97 ≤ c ∧ c ≤ 122)
def isFig (c : Nat) : Bool := decide (48 ≤ c ∧ c ≤ 57)
def WordP (x : Str) : Prop := ∃ c r, x.cps.toList = c :: r ∧ isLet c = true ∧ (∀ d ∈ r, (isLet d || isFig d) = true) ∧ r.length ≤ 11
def signs36 : Str := "abcdefghijklmnopqrstuvwxyz0123456789"
theorem signs36_list : signs36.cps.toList = [97, 98, 99, 100, 101, 102, 103, 104, 105, 106, 107, 108, 109, 110, 111, 112, 113, 114, 115, 116, 117, 118, 119, 120, 121, 122, 48, 49, 50, 51, 52, 53, 54, 55, 56, 57] := by decide +kernel
theorem signs36_at {d : Int} (h0 : 0 ≤ d) (h1 : d < 36) : ∃ c, atI signs36.cps.toList d = some c ∧ (isLet c || isFig c) = true := by
 obtain ⟨c, hc, ha⟩ := atI_in (xs := signs36.cps.toList) h0 (by rw [signs36_list]; exact h1)
 refine ⟨c, ha, ?_⟩
 rw [signs36_list] at hc
 have z : ∀ x ∈ ([97, 98, 99, 100, 101, 102, 103, 104, 105, 106, 107, 108, 109, 110, 111, 112, 113, 114, 115, 116, 117, 118, 119, 120, 121, 122, 48, 49, 50, 51, 52, 53, 54, 55, 56, 57] : List Nat), (isLet x || isFig x) = true := by decide
 exact z c hc
theorem signs26_at {d : Int} (h0 : 0 ≤ d) (h1 : d < 26) : ∃ c, atI signs36.cps.toList d = some c ∧ isLet c = true := by
 obtain ⟨j, rfl⟩ : ∃ j : Nat, d = (j : Int) := ⟨d.toNat, by omega⟩
 have hj : j < 26 := by omega
 have z : ∀ j : Nat, j < 26 → ∃ c, signs36.cps.toList[j]? = some c ∧ isLet c = true := by
  rw [signs36_list]
  intro j hj
  have y : ∀ i : Fin 26, isLet (([97, 98, 99, 100, 101, 102, 103, 104, 105, 106, 107, 108, 109, 110, 111, 112, 113, 114, 115, 116, 117, 118, 119, 120, 121, 122, 48, 49, 50, 51, 52, 53, 54, 55, 56, 57] : List Nat).getD i.val 0) = true := by decide
  have y2 := y ⟨j, hj⟩
  have hl : j < ([97, 98, 99, 100, 101, 102, 103, 104, 105, 106, 107, 108, 109, 110, 111, 112, 113, 114, 115, 116, 117, 118, 119, 120, 121, 122, 48, 49, 50, 51, 52, 53, 54, 55, 56, 57] : List Nat).length := by
   show j < 36
   omega
  refine ⟨_, List.getElem?_eq_getElem hl, ?_⟩
  rw [List.getD_eq_getElem?_getD, List.getElem?_eq_getElem hl] at y2
  exact y2
 obtain ⟨c, h1, h2⟩ := z j hj
 exact ⟨c, atI_nat h1, h2⟩
theorem len_le12 {x : Str} (h : WordP x) : x.length ≤ 12 := by
 obtain ⟨c, r, e, _, _, l⟩ := h
 rw [TL.len_tl]
 show x.cps.toList.length ≤ 12
 rw [e, List.length_cons]
 omega
def spWord : Sp := fun vs H Q _ => ∃ (b cs : Addr), vs = [.ref b] ∧ BagAt H b cs ∧ ∀ x H', WordP x → BagAt H' b cs → Fr [b] H H' → Q (.str x) H'
abbrev s__law_word : Stmt := topS 14
theorem sc__law_word : FnScope ["_law_bag_here", "_law_signs", "_law_word_here", "_law_k"] ["_law_bag_here"] (defScope s__law_word) := ⟨rfl, rfl, rfl, by decide +kernel, rfl, by decide +kernel, by decide +kernel⟩
section
variable {P : Program} {w : World} {K : PySem.W.Frag} {mg : Str → Option Value} {base : Heap}
theorem ok__law_word {f : Addr} {fd : FuncData} (F : FnP K "_law_word" s__law_word f fd) (B : Bi mg) (C__law_pull : CalG P w K mg base 10 "_law_pull" spPull) (C__law_one : CalG P w K mg base 20 "_law_one" (spOne K)) : FnG P w K mg base CX0 30 f fd ["_law_bag_here"] spWord := by
 refine okG F sc__law_word (fun vs H Q E h => ?_) (fun cdv A outer s H vs Q E hr h => ?_)
 ·obtain ⟨b, cs, rfl, _⟩ := h
  rfl
 obtain ⟨b, cs, rfl, hB, q⟩ := h
 refine ⟨_, PSs.nox (pss_cons (ps_set (i := 1) sc__law_word.nd rfl (.inl rfl) pe_str)
 (pss_cons (ps_set (i := 2) sc__law_word.nd rfl (.inl rfl) (pe_ix (kIx (K := K) (r := rIx) rfl ix_seq) (pv 1) (pe_calG C__law_pull hr rfl (pa_cons (pv 0) (pa_cons pe_int pa_nil))) (fun _ _ => rfl)))
 (pss_cons (ps_for PassesOwn.never rfl (pi_range1 rfl B.b_range (pa_cons (pe_calG C__law_pull hr rfl (pa_cons (pv 0) (pa_cons (pe_calG C__law_one hr rfl (pa_cons (pv 0) (pa_cons (pe_lst (pa_cons pe_int (pa_cons pe_int pa_nil))) pa_nil))) pa_nil))) pa_nil)) (pg_name (i := 3) sc__law_word.nd rfl (by first | exact Or.inl rfl | exact Or.inr rfl)) (pss_one (ps_set (i := 2) sc__law_word.nd rfl (.inl rfl) (pe_op (kOp (K := K) (r := uAdd) rfl opu_add) (pv 2) (pe_ix (kIx (K := K) (r := rIx) rfl ix_seq) (pv 1) (pe_calG C__law_pull hr rfl (pa_cons (pv 0) (pa_cons pe_int pa_nil))) (fun _ _ => rfl))))))
 (pss_one (ps_ret (pv 2)))))), rd_start (σ0 := [some (.ref b), none, none, none]) rfl ?_⟩
 walk_at "q"
 refine ⟨b, cs, _, rfl, hB, by decide, by decide, fun d H1 d0 d1 hB1 hF1 => ?_⟩
 obtain ⟨c0, ha, hc0⟩ := signs26_at d0 d1
 refine g_ixS (le_of (by decide)) ha ?_
 walk_at "q"
 refine ⟨le_of (by decide), fun p hp => ?_⟩
 have hF2 : Fr [b] H1 (upd H1 p (.lst [V.int 3, .int 12])) := Fr.new hp
 have hB2 := hB1.fr0 (Fr.new (M := []) (o := .lst [V.int 3, .int 12]) hp)
 have hpl : (upd H1 p (.lst [V.int 3, .int 12])) p = some (.lst [V.int 3, .int 12]) := upd_same
 generalize upd H1 p (.lst [V.int 3, .int 12]) = H2 at *
 walk_at "q"
 refine ⟨b, cs, p, [V.int 3, .int 12], rfl, hB2, .inl ⟨SqL.of hpl, (hB1.some hp).1⟩, by decide, by decide, fun v H3 hv hB3 hF3 => ?_⟩
 obtain ⟨n, rfl, n0, n1⟩ : ∃ n : Int, v = .int n ∧ 0 < n ∧ n ≤ 12 := by
  rcases List.mem_cons.mp hv with e | hv
  ·exact ⟨3, e, by decide, by decide⟩
  ·exact ⟨12, List.mem_singleton.mp hv, by decide, by decide⟩
 walk_at "q"
 refine ⟨b, cs, n, rfl, hB3, n0, Int.lt_of_le_of_lt n1 (by decide), fun m H4 m0 m1 hB4 hF4 => ?_⟩
 walk_at "q"
 refine ⟨m, rfl, by omega, by omega, for_range (lo := 0) (n := m.toNat) (fun i σ H' => ∃ (x : Str) (z : Option V), σ = [some (.ref b), some (.str signs36), some (.str x), z] ∧ Fr [b] H H' ∧ BagAt H' b cs ∧
  ∃ r, x.cps.toList = c0 :: r ∧ (∀ d ∈ r, (isLet d || isFig d) = true) ∧ r.length = i) ⟨_, _, rfl, ((hF1.trans hF2).trans hF3).trans hF4, hB4, [], rfl, (fun _ z => nomatch z), rfl⟩ (fun i σ H' hi h => ?_) (fun σ H' h => ?_)⟩
 ·obtain ⟨x, z, rfl, hF, hB', r, hx, hr1, hr2⟩ := h
  walk_at "q"
  refine ⟨b, cs, _, rfl, hB', by decide, by decide, fun d H5 d0 d1 hB5 hF5 => ?_⟩
  obtain ⟨c1, ha1, hc1⟩ := signs36_at d0 d1
  refine g_ixS (le_of (by decide)) ha1 ?_
  have hxl : x.length = r.length + 1 := by rw [TL.len_tl]; show x.cps.toList.length = _; rw [hx]; rfl
  refine g_addS (le_of (by rw [hxl]; show r.length + 1 + 1 ≤ _; omega)) ?_
  walk_at "q"
  refine ⟨_, _, rfl, hF.trans hF5, hB5, r ++ [c1], ?_, ?_, by rw [List.length_append, hr2]; rfl⟩
  ·show TL.tl (x ++ ⟨#[c1]⟩) = _
   rw [TL.tl_append]
   show x.cps.toList ++ [c1] = _
   rw [hx]
   rfl
  ·intro d hd
   rcases List.mem_append.mp hd with hd | hd
   ·exact hr1 d hd
   ·rw [List.mem_singleton.mp hd]; exact hc1
 ·obtain ⟨x, z, rfl, hF, hB', r, hx, hr1, hr2⟩ := h
  walk_at "q"
  exact q x H' ⟨c0, r, hx, hc0, hr1, by omega⟩ hB' hF
end
def spNumber : Sp := fun vs H Q _ => ∃ (b cs : Addr), vs = [.ref b] ∧ BagAt H b cs ∧ ∀ n H', -(10 ^ 30) < n → n < 10 ^ 30 → BagAt H' b cs → Fr [b] H H' → Q (.int n) H'
abbrev s__law_number : Stmt := topS 15
theorem sc__law_number : FnScope ["_law_bag_here"] ["_law_bag_here"] (defScope s__law_number) := ⟨rfl, rfl, rfl, by decide +kernel, rfl, by decide +kernel, by decide +kernel⟩
section
variable {P : Program} {w : World} {K : PySem.W.Frag} {mg : Str → Option Value} {base : Heap}
theorem ok__law_number {f : Addr} {fd : FuncData} (F : FnP K "_law_number" s__law_number f fd) (C__law_pull : CalG P w K mg base 10 "_law_pull" spPull) : FnG P w K mg base CX0 30 f fd ["_law_bag_here"] spNumber := by
 refine okG F sc__law_number (fun vs H Q E h => ?_) (fun cdv A outer s H vs Q E hr h => ?_)
 ·obtain ⟨b, cs, rfl, _⟩ := h
  rfl
 obtain ⟨b, cs, rfl, hB, q⟩ := h
 refine ⟨_, PSs.nox (pss_cons (ps_if (pt_cmpR (kOp (K := K) (r := uEq) rfl (opu_eq hr.units)) (pe_calG C__law_pull hr rfl (pa_cons (pv 0) (pa_cons pe_int pa_nil))) pe_int (nomark _)) (pss_one (ps_ret (pe_op opu_mul (pe_ix (kIx (K := K) (r := rIx) rfl ix_seq) (pe_lst (pa_cons pe_int (pa_cons (pe_op opu_sub pe_int pe_int) pa_nil))) (pe_calG C__law_pull hr rfl (pa_cons (pv 0) (pa_cons pe_int pa_nil))) (fun _ _ => rfl)) (pe_calG C__law_pull hr rfl (pa_cons (pv 0) (pa_cons (pe_op opu_pow pe_int pe_int) pa_nil)))))) pss_nil)
 (pss_one (ps_ret (pe_op opu_sub (pe_calG C__law_pull hr rfl (pa_cons (pv 0) (pa_cons pe_int pa_nil))) pe_int)))), rd_start (σ0 := [some (.ref b)]) rfl ?_⟩
 walk_at "q"
 refine ⟨b, cs, _, rfl, hB, by decide, by decide, fun d H1 d0 d1 hB1 hF1 => ?_⟩
 walk_at "q"
 refine g_by (fun c => ?_) (fun c => ?_)
 ·walk_at "q"
  refine ⟨le_of (by decide), fun p hp => ?_⟩
  have hF2 : Fr [b] H1 (upd H1 p (.lst [V.int 1, .int (0 - 1)])) := Fr.new hp
  have hB2 := hB1.fr0 (Fr.new (M := []) (o := .lst [V.int 1, .int (0 - 1)]) hp)
  have hpl : (upd H1 p (.lst [V.int 1, .int (0 - 1)])) p = some (.lst [V.int 1, .int (0 - 1)]) := upd_same
  generalize upd H1 p (.lst [V.int 1, .int (0 - 1)]) = H2 at *
  walk_at "q"
  refine ⟨b, cs, _, rfl, hB2, by decide, by decide, fun d2 H3 d20 d21 hB3 hF3 => ?_⟩
  obtain ⟨v, hv, ha⟩ := atI_in (xs := [V.int 1, .int (0 - 1)]) d20 d21
  refine g_ixL (hF3.seq (fun z => (hB1.some hp).1 (List.mem_singleton.mp z)) (SqL.of hpl)) ha ?_
  walk_at "q"
  refine ⟨b, cs, _, rfl, hB3, by decide +kernel, by decide +kernel, fun d4 H5 d40 d41 hB5 hF5 => ?_⟩
  have d41' : d4 < 10 ^ 30 := d41
  have fin : ∀ n : Int, -(10 ^ 30) < n → n < 10 ^ 30 → Q (.int n) H5 := fun n h1 h2 => q n H5 h1 h2 hB5 (((hF1.trans hF2).trans hF3).trans hF5)
  rcases List.mem_cons.mp hv with e | hv
  ·subst e
   walk_at "q"
   exact fin _ (by omega) (by omega)
  ·obtain rfl : v = .int (0 - 1) := List.mem_singleton.mp hv
   walk_at "q"
   exact fin _ (by omega) (by omega)
 ·walk_at "q"
  refine ⟨b, cs, _, rfl, hB1, by decide, by decide, fun d2 H2 d20 d21 hB2 hF2 => ?_⟩
  walk_at "q"
  exact q _ _ (by omega) (by omega) hB2 (hF1.trans hF2)
end
def ValOf (k : Str) (v : V) : Prop := (k = "number" ∧ ∃ n, v = .int n ∧ -(10 ^ 30) < n ∧ n < 10 ^ 30) ∨ (k = "flag" ∧ ∃ c, v = .bl c) ∨ (k = "word" ∧ ∃ x, v = .str x ∧ WordP x)
def spValue : Sp := fun vs H Q _ => ∃ (b cs : Addr) (k : Str), vs = [.ref b, .str k] ∧ (k = "number" ∨ k = "flag" ∨ k = "word") ∧ BagAt H b cs ∧ ∀ v H', ValOf k v → BagAt H' b cs → Fr [b] H H' → Q v H'
abbrev s__law_value : Stmt := topS 16
theorem sc__law_value : FnScope ["_law_bag_here", "_law_kind"] ["_law_bag_here", "_law_kind"] (defScope s__law_value) := ⟨rfl, rfl, rfl, by decide +kernel, rfl, by decide +kernel, by decide +kernel⟩
def wordB (x : Str) : Bool := match x.cps.toList with
 | [] => false
 | c :: r => isLet c && r.all (fun d => isLet d || isFig d) && decide (r.length ≤ 11)
theorem wordB_ok {x : Str} (h : wordB x = true) : WordP x := by
 unfold wordB at h
 cases e : x.cps.toList with
 | nil => rw [e] at h; cases h
 | cons c r =>
  rw [e] at h
  simp only [Bool.and_eq_true, decide_eq_true_eq, List.all_eq_true] at h
  exact ⟨c, r, e, h.1.1, h.1.2, h.2⟩
theorem WordP.b {x : Str} (h : WordP x) : wordB x = true := by
 obtain ⟨c, r, e, h1, h2, h3⟩ := h
 unfold wordB
 rw [e]
 simp only [Bool.and_eq_true, decide_eq_true_eq, List.all_eq_true]
 exact ⟨⟨h1, h2⟩, h3⟩
section
variable {P : Program} {w : World} {K : PySem.W.Frag} {mg : Str → Option Value} {base : Heap}
theorem ok__law_value {f : Addr} {fd : FuncData} (F : FnP K "_law_value" s__law_value f fd) (C__law_pull : CalG P w K mg base 10 "_law_pull" spPull) (C__law_one : CalG P w K mg base 20 "_law_one" (spOne K))
  (C__law_word : CalG P w K mg base 30 "_law_word" spWord) (C__law_number : CalG P w K mg base 30 "_law_number" spNumber) : FnG P w K mg base CX0 40 f fd ["_law_bag_here", "_law_kind"] spValue := by
 refine okG F sc__law_value (fun vs H Q E h => ?_) (fun cdv A outer s H vs Q E hr h => ?_)
 ·obtain ⟨b, cs, k, rfl, _⟩ := h
  rfl
 obtain ⟨b, cs, k, rfl, hk, hB, q⟩ := h
 refine ⟨_, PSs.nox (pss_cons (ps_if (pt_cmpR (kOp (K := K) (r := uEq) rfl (opu_eq hr.units)) (pv 1) pe_str (nomark _)) (pss_one (ps_ret (pe_calG C__law_number hr rfl (pa_cons (pv 0) pa_nil)))) pss_nil)
 (pss_cons (ps_if (pt_cmpR (kOp (K := K) (r := uEq) rfl (opu_eq hr.units)) (pv 1) pe_str (nomark _)) (pss_one (ps_ret (pe_cmpR (kOp (K := K) (r := uEq) rfl (opu_eq hr.units)) (pe_calG C__law_pull hr rfl (pa_cons (pv 0) (pa_cons pe_int pa_nil))) pe_int (nomark _)))) pss_nil)
 (pss_cons (ps_if (pt_cmpR (kOp (K := K) (r := uEq) rfl (opu_eq hr.units)) (pe_calG C__law_pull hr rfl (pa_cons (pv 0) (pa_cons pe_int pa_nil))) pe_int (nomark _)) (pss_one (ps_ret (pe_calG C__law_word hr rfl (pa_cons (pv 0) pa_nil)))) pss_nil)
 (pss_one (ps_ret (pe_calG C__law_one hr rfl (pa_cons (pv 0) (pa_cons (pe_lst (pa_cons pe_str (pa_cons pe_str (pa_cons pe_str (pa_cons pe_str (pa_cons pe_str pa_nil)))))) pa_nil)))))))), rd_start (σ0 := [some (.ref b), some (.str k)]) rfl ?_⟩
 rcases hk with rfl | rfl | rfl
 ·walk_at "q"
  exact ⟨b, cs, rfl, hB, fun n H' h1 h2 hB' hF => q _ _ (.inl ⟨rfl, n, rfl, h1, h2⟩) hB' hF⟩
 ·walk_at "q"
  refine ⟨b, cs, _, rfl, hB, by decide, by decide, fun d H1 d0 d1 hB1 hF1 => ?_⟩
  walk_at "q"
  exact q _ _ (.inr (.inl ⟨rfl, _, rfl⟩)) hB1 hF1
 ·walk_at "q"
  refine ⟨b, cs, _, rfl, hB, by decide, by decide, fun d H1 d0 d1 hB1 hF1 => ?_⟩
  walk_at "q"
  refine g_by (fun c => ?_) (fun c => ?_)
  ·walk_at "q"
   exact ⟨b, cs, rfl, hB1, fun x H' hx hB' hF => q _ _ (.inr (.inr ⟨rfl, x, rfl, hx⟩)) hB' (hF1.trans hF)⟩
  ·walk_at "q"
   refine ⟨le_of (by decide), fun p hp => ?_⟩
   have hF2 : Fr [b] H1 (upd H1 p (.lst [V.str "ann", .str "b", .str "z9", .str "if", .str "me"])) := Fr.new hp
   have hB2 := hB1.fr0 (Fr.new (M := []) (o := .lst [V.str "ann", .str "b", .str "z9", .str "if", .str "me"]) hp)
   have hpl : (upd H1 p (.lst [V.str "ann", .str "b", .str "z9", .str "if", .str "me"])) p = some (.lst [V.str "ann", .str "b", .str "z9", .str "if", .str "me"]) := upd_same
   generalize upd H1 p (.lst [V.str "ann", .str "b", .str "z9", .str "if", .str "me"]) = H2 at *
   walk_at "q"
   refine ⟨b, cs, p, _, rfl, hB2, .inl ⟨SqL.of hpl, (hB1.some hp).1⟩, by decide, by decide, fun v H3 hv hB3 hF3 => ?_⟩
   refine q _ _ (.inr (.inr ⟨rfl, ?_⟩)) hB3 ((hF1.trans hF2).trans hF3)
   simp only [List.mem_cons, List.not_mem_nil, or_false] at hv
   rcases hv with rfl | rfl | rfl | rfl | rfl
   all_goals exact ⟨_, rfl, wordB_ok (by decide +kernel)⟩
end
def kvOf (vd : List (Str × Str)) : List (Key × V) := vd.map fun p => ((Sum.inr p.1 : Key), V.str p.2)
theorem kvOf_val (vd : List (Str × Str)) (x : Str) : valV (kvOf vd) (Sum.inr x : Key) = (vd.lookup x).map V.str := by
 induction vd with
 | nil => rfl
 | cons p r ih =>
  obtain ⟨y, k⟩ := p
  by_cases h : y = x
  ·subst h
   show valV (((Sum.inr y : Key), V.str k) :: kvOf r) (Sum.inr y) = _
   rw [valV_pos rfl, List.lookup_cons_self]
   rfl
  ·show valV (((Sum.inr y : Key), V.str k) :: kvOf r) (Sum.inr x) = _
   have h2 : (x == y) = false := beq_eq_false_iff_ne.mpr (Ne.symm h)
   rw [valV_neg (fun z => h (Sum.inr.inj z)), List.lookup_cons, h2]
   exact ih
theorem kvOf_keys (vd : List (Str × Str)) : ((kvOf vd).map fun kv => kV kv.1) = (vd.map (·.1)).map V.str := by
 unfold kvOf
 rw [List.map_map, List.map_map]
 rfl
theorem lookup_mem {vd : List (Str × Str)} {x : Str} (h : x ∈ vd.map (·.1)) : ∃ k, vd.lookup x = some k := by
 cases e : vd.lookup x with
 | some k => exact ⟨k, rfl⟩
 | none =>
  rw [List.lookup_eq_none_iff] at e
  obtain ⟨p, hp, rfl⟩ := List.mem_map.mp h
  have := e p hp
  simp at this
def strsD (ws : List Str) : PyData := .list (ws.map .str)
theorem dp_strs {K : PySem.W.Frag} {H : Hp} {p : Addr} {ws : List Str} (h : SqL K H p (ws.map V.str)) : Dp K H (.ref p) (strsD ws) := by
 refine .lst h ?_
 induction ws with
 | nil => exact .nil
 | cons x r ih => exact .cons (.str x) (dpa_strs r)
where
 dpa_strs {K : PySem.W.Frag} {H : Hp} : ∀ ws : List Str, DpAll K H (ws.map V.str) (ws.map .str)
 | [] => .nil
 | x :: r => .cons (.str x) (dpa_strs r)
theorem shaped_strs {ws : List Str} (h : ∀ x ∈ ws, PyData.strOk x = true) : SeqAt.shaped (strsD ws) = true := by
 have h1 : ∀ ws : List Str, (∀ x ∈ ws, PyData.strOk x = true) → PyData.canLayAll0 (ws.map .str) = true := by
  intro ws h
  induction ws with
  | nil => simp only [List.map_nil, PyData.canLayAll0]
  | cons x r ih => simp only [List.map_cons, PyData.canLayAll0, PyData.canLay0, h x List.mem_cons_self, ih fun y hy => h y (List.mem_cons_of_mem _ hy), Bool.and_self]
 have h2 : ∀ ws : List Str, PyData.depthAll (ws.map .str) = 0 := by
  intro ws
  induction ws with
  | nil => simp only [List.map_nil, PyData.depthAll]
  | cons x r ih => simp only [List.map_cons, PyData.depthAll, PyData.depth, ih, Nat.max_self]
 unfold SeqAt.shaped strsD
 simp only [PyData.canLay0, h1 ws h, PyData.depth, h2 ws, Bool.true_and]
 decide
theorem shaped_nil : SeqAt.shaped (.list []) = true := by decide +kernel
theorem eqv_strs_nil (ws : List Str) : PyData.eqv (strsD ws) (.list []) = decide (ws = []) := by
 unfold strsD
 cases ws with
 | nil => simp only [List.map_nil, PyData.eqv, PyData.eqvAll, decide_true]
 | cons x r => simp only [List.map_cons, PyData.eqv, PyData.eqvAll, reduceCtorEq, decide_false]
structure BiL (mg : Str → Option Value) : Prop where
 b_list : mg "list" = none
 b_sorted : mg "sorted" = none
def LeafAt (K : PySem.W.Frag) (H : Hp) (vd : List (Str × Str)) (k : Str) (p : Addr) : Prop := (∃ u, SqT K H p [.str "value", u] ∧ ValOf k u) ∨ ∃ x, SqT K H p [.str "var", .str x] ∧ vd.lookup x = some k
structure VarsAt (H : Hp) (d : Addr) (vd : List (Str × Str)) : Prop where
 at_ : H d = some (.dK (kvOf vd))
 len : vd.length < 60
 ok : ∀ p ∈ vd, PyData.strOk p.1 = true
theorem VarsAt.fr {H H' : Hp} {M : List Addr} {d : Addr} {vd : List (Str × Str)} (h : VarsAt H d vd) (e : Fr M H H') (n : d ∉ M) : VarsAt H' d vd := ⟨e.at h.at_ n, h.len, h.ok⟩
theorem VarsAt.ne {H : Hp} {d b cs : Addr} {vd : List (Str × Str)} (h : VarsAt H d vd) (hB : BagAt H b cs) : d ≠ b ∧ d ≠ cs := by
 obtain ⟨cells, i, r, k, h1, h2, h3⟩ := hB.ex
 exact ⟨fun e => (by have z := h.at_; rw [e, h1] at z; cases z), fun e => (by have z := h.at_; rw [e, h2] at z; cases z)⟩
def KindW (k : Str) : Prop := k = "number" ∨ k = "flag" ∨ k = "word"
def spLeaf (K : PySem.W.Frag) : Sp := fun vs H Q _ => ∃ (b cs d : Addr) (k : Str) (vd : List (Str × Str)), vs = [.ref b, .str k, .ref d] ∧ KindW k ∧ BagAt H b cs ∧ VarsAt H d vd ∧
 ∀ p H', LeafAt K H' vd k p → BagAt H' b cs → Fr [b] H H' → Q (.ref p) H'
abbrev s__law_leaf : Stmt := topS 22
theorem sc__law_leaf : FnScope ["_law_bag_here", "_law_kind", "_law_vars_of", "_law_alike", "_law_name"] ["_law_bag_here", "_law_kind", "_law_vars_of"] (defScope s__law_leaf) := ⟨rfl, rfl, rfl, by decide +kernel, rfl, by decide +kernel, by decide +kernel⟩
section
variable {P : Program} {w : World} {K : PySem.W.Frag} {mg : Str → Option Value} {base : Heap}
theorem ok__law_leaf {f : Addr} {fd : FuncData} (F : FnP K "_law_leaf" s__law_leaf f fd) (B : BiL mg) (C__law_pull : CalG P w K mg base 10 "_law_pull" spPull) (C__law_one : CalG P w K mg base 20 "_law_one" (spOne K))
  (C__law_value : CalG P w K mg base 40 "_law_value" spValue) : FnG P w K mg base CX0 50 f fd ["_law_bag_here", "_law_kind", "_law_vars_of"] (spLeaf K) := by
 refine okG F sc__law_leaf (fun vs H Q E h => ?_) (fun cdv A outer s H vs Q E hr h => ?_)
 ·obtain ⟨b, cs, d, k, vd, rfl, _⟩ := h
  rfl
 obtain ⟨b, cs, d, k, vd, rfl, hk, hB, hV, q⟩ := h
 have hu := hu_of hr.rm
 refine ⟨_, PSs.nox (pss_cons (ps_setLc (i := 3) (own := [("_law_name", 4)]) (g := gName 4) rfl sc__law_leaf.nd rfl rfl (sw_true rfl rfl rfl (by decide +kernel)) (pi_listK (K := K) rfl (pe_callB (kCall (K := K) (r := rSortedS) rfl cr_sortedS) (by rfl) B.b_sorted (by decide +kernel) (pa_cons (pe_callTy (kCall (K := K) (r := uList) rfl callu_list) (by rfl) B.b_list (by decide +kernel) (pa_cons (pv 2) pa_nil)) pa_nil))) (blkOk_by (own := [("_law_name", 4)]) (N := ["_law_bag_here", "_law_kind", "_law_vars_of", "_law_alike", "_law_name"]) (sc := defScope s__law_leaf) (by decide +kernel)) (fun _ _ _ _ _ => (by exact (pg_name (i := 4) sc__law_leaf.nd rfl (by first | exact Or.inl rfl | exact Or.inr rfl)))) (fun _ _ _ _ _ => (by exact pts_one (pt_cmpR (kOp (K := K) (r := uEq) rfl (opu_eq hr.units)) (pe_dget hu (pv 2) (pv 4) (fun _ _ => rfl)) (pv 1) (nomark _)))) (fun _ _ _ _ _ => (by exact (pv 4))))
 (pss_cons (ps_if (PW.pt (pw_or (pt_cmpR (kOp (K := K) (r := uEq) rfl (opu_eq hr.units)) (pv 3) (pe_lst pa_nil) (nomark _)) (pw_or1 (pt_cmpR (kOp (K := K) (r := uEq) rfl (opu_eq hr.units)) (pe_calG C__law_pull hr rfl (pa_cons (pv 0) (pa_cons pe_int pa_nil))) pe_int (nomark _))))) (pss_one (ps_ret (pe_tup (pa_cons pe_str (pa_cons (pe_calG C__law_value hr rfl (pa_cons (pv 0) (pa_cons (pv 1) pa_nil))) pa_nil))))) pss_nil)
 (pss_one (ps_ret (pe_tup (pa_cons pe_str (pa_cons (pe_calG C__law_one hr rfl (pa_cons (pv 0) (pa_cons (pv 3) pa_nil))) pa_nil))))))), rd_start (σ0 := [some (.ref b), some (.str k), some (.ref d), none, none]) rfl ?_⟩
 walk_at "q"
 refine g_listD hV.at_ fun l hl => ?_
 rw [kvOf_keys]
 have f1 : Fr [] H (upd H l (.lst ((vd.map (·.1)).map V.str))) := Fr.new hl
 have hl1 : (upd H l (.lst ((vd.map (·.1)).map V.str))) l = some (.lst ((vd.map (·.1)).map V.str)) := upd_same
 generalize upd H l (.lst ((vd.map (·.1)).map V.str)) = H1 at *
 walk_at "q"
 refine ⟨l, vd.map (·.1), rfl, SqL.of hl1, by rw [List.length_map]; have := hV.len; omega, fun ys p2 hperm _ hp2 => ?_⟩
 have f2 : Fr [] H (upd H1 p2 (.lst (ys.map V.str))) := f1.trans (Fr.new hp2)
 have hp21 : (upd H1 p2 (.lst (ys.map V.str))) p2 = some (.lst (ys.map V.str)) := upd_same
 generalize upd H1 p2 (.lst (ys.map V.str)) = H2 at *
 have hyl : ys.length < 60 := by rw [hperm.length_eq, List.length_map]; exact hV.len
 refine ⟨p2, rfl, ⟨_, SqL.of hp21⟩, fun D hD => lc_it (walk_list (xs := ys.map V.str)) (fun i H' => Fr [] H2 H' ∧ ∃ ws : List Str, H' D = some (.lst (ws.map V.str)) ∧ ws.length ≤ i ∧ ∀ x ∈ ws, vd.lookup x = some k)
  ⟨Fr.new hD, [], upd_same, Nat.le_refl _, (fun _ z => nomatch z)⟩ (fun i H' _ h => h.1.seq (fun z => nomatch z) (SqL.of hp21)) (fun i x H' H'' hi h y => ?_) (fun H' h => ?_)⟩
 ·obtain ⟨rfl, hx⟩ := y
  obtain ⟨h1, ws, h2, h3, h4⟩ := h
  obtain ⟨z, hz, rfl⟩ := List.mem_map.mp (List.mem_of_getElem? hx)
  obtain ⟨k2, hk2⟩ := lookup_mem (hperm.mem_iff.mp hz)
  walk_at "q"
  refine ⟨rfl, ?_⟩
  walk_at "q"
  have hV' := (hV.fr f2 (fun z => nomatch z)).fr h1 (fun z => nomatch z)
  refine g_dgetS hV'.at_ (v := V.str k2) (by rw [kvOf_val, hk2]; rfl) ?_
  walk_at "q"
  refine g_by (fun c => ?_) (fun c => ?_)
  ·walk_at "q"
   refine ⟨_, h2, lt_of (by rw [List.length_map]; rw [List.length_map] at hi; omega), h1.over hD, ws ++ [z], ?_, ?_, ?_⟩
   ·rw [upd_same, List.map_append]; rfl
   ·rw [List.length_append]; exact Nat.succ_le_succ h3
   ·intro x hx
    rcases List.mem_append.mp hx with hx | hx
    ·exact h4 x hx
    ·rw [List.mem_singleton.mp hx, hk2, c]
  ·exact ⟨h1, ws, h2, Nat.le_succ_of_le h3, h4⟩
 ·obtain ⟨h1, ws, h2, h3, h4⟩ := h
  have f3 : Fr [] H H' := f2.trans h1
  walk_at "q"
  refine ⟨le_of (by decide), fun p4 hp4 => ?_⟩
  have f4 : Fr [] H' (upd H' p4 (.lst [])) := Fr.new hp4
  have hn4 : (upd H' p4 (.lst [])) p4 = some (.lst []) := upd_same
  have hD4 := f4.at h2 (fun z => nomatch z)
  have hB4 := (hB.fr0 f3).fr0 f4
  have hV4 := (hV.fr f3 (fun z => nomatch z)).fr f4 (fun z => nomatch z)
  have f5 := f3.trans f4
  generalize upd H' p4 (.lst []) = H4 at *
  refine g_eqD (dp_strs (SqL.of hD4)) (.lst (SqL.of hn4) .nil) (shaped_strs fun x hx => ?_) shaped_nil ?_
  ·have hm : x ∈ vd.map (·.1) := by
    have h5 := h4 x hx
    rw [List.lookup_eq_some_iff] at h5
    obtain ⟨l1, l2, e, _⟩ := h5
    rw [e]
    simp
   obtain ⟨pp, hpp, rfl⟩ := List.mem_map.mp hm
   exact hV.ok pp hpp
  rw [eqv_strs_nil]
  walk_at "q"
  have hDb : D ≠ b := fun e => by
   have z := hB4.ne
   obtain ⟨cells, i, r, kk, h6, _⟩ := hB.ex
   have h7 := f2.at h6 (fun z => nomatch z)
   rw [← e, hD] at h7
   cases h7
  have value : ∀ H5, BagAt H5 b cs → Fr [b] H H5 → ∀ (tm : TE), True := fun _ _ _ _ => trivial
  refine g_by (fun c => ?_) (fun c => ?_)
  ·walk_at "q"
   refine ⟨b, cs, k, rfl, hk, hB4, fun u H5 hu5 hB5 hF5 => ?_⟩
   walk_at "q"
   refine ⟨le_of (by simp), fun p6 hp6 => ?_⟩
   exact q p6 _ (.inl ⟨u, SqT.of upd_same, hu5⟩) (hB5.fr0 (Fr.new hp6)) ((f5.nil.trans hF5).trans (Fr.new hp6))
  ·walk_at "q"
   refine ⟨b, cs, _, rfl, hB4, by decide, by decide, fun dd H5 d0 d1 hB5 hF5 => ?_⟩
   walk_at "q"
   refine g_by (fun c2 => ?_) (fun c2 => ?_)
   ·walk_at "q"
    refine ⟨b, cs, k, rfl, hk, hB5, fun u H6 hu6 hB6 hF6 => ?_⟩
    walk_at "q"
    refine ⟨le_of (by simp), fun p6 hp6 => ?_⟩
    exact q p6 _ (.inl ⟨u, SqT.of upd_same, hu6⟩) (hB6.fr0 (Fr.new hp6)) (((f5.nil.trans hF5).trans hF6).trans (Fr.new hp6))
   ·walk_at "q"
    have hw0 : 0 < ws.length := by
     cases ws with
     | nil => exact absurd rfl c
     | cons x r => exact Nat.succ_pos _
    rw [List.length_map] at h3
    refine ⟨b, cs, D, ws.map V.str, rfl, hB5, .inl ⟨hF5.seq (fun z => hDb (List.mem_singleton.mp z)) (SqL.of hD4), hDb⟩, by rw [List.length_map]; exact hw0, by rw [List.length_map]; omega, fun v H6 hv hB6 hF6 => ?_⟩
    obtain ⟨x, hx, rfl⟩ := List.mem_map.mp hv
    walk_at "q"
    refine ⟨le_of (by simp), fun p6 hp6 => ?_⟩
    exact q p6 _ (.inr ⟨x, SqT.of upd_same, h4 x hx⟩) (hB6.fr0 (Fr.new hp6)) (((f5.nil.trans hF5).trans hF6).trans (Fr.new hp6))
end
structure BiS (mg : Str → Option Value) : Prop where
 b_isinstance : mg "isinstance" = none
 b_list : mg "list" = none
 b_tuple : mg "tuple" = none
 b_repr : mg "repr" = none
 b_zip : mg "zip" = none
 b_all : mg "all" = none
 b_len : mg "len" = none
def spSame (K : PySem.W.Frag) (n : Nat) : Sp := fun vs H Q _ => ∃ (x y : V) (d : PyData), vs = [x, y] ∧ Dp K H x d ∧ Dp K H y d ∧ Sm n d ∧ ∀ H', Fr [] H H' → Q (.bl true) H'
theorem sm_zero {d : PyData} (h : Sm 0 d) : False := by
 cases d <;> simp only [Sm] at h
abbrev s__law_same : Stmt := topS 13
theorem sc__law_same : FnScope ["_law_found", "_law_due", "_law_same_here", "_law_one_here", "_law_other"] ["_law_found", "_law_due"] (defScope s__law_same) := ⟨rfl, rfl, rfl, by decide +kernel, rfl, by decide +kernel, by decide +kernel⟩
section
variable {P : Program} {w : World} {K : PySem.W.Frag} {mg : Str → Option Value} {base : Heap}
theorem same_leaf {H : Hp} {x y : V} {d : PyData} {n : Nat} (hx : Dp K H x d) (hy : Dp K H y d) (hs : Sm (n + 1) d) (h : ∀ ds, d ≠ .list ds ∧ d ≠ .tuple ds) : x = y ∧ shortV x ∧ ∃ T, TyX K H x (.type T) ∧ kitB T "list" = some false ∧ kitB T "tuple" = some false := by
 cases hx with
 | non => cases hy; exact ⟨rfl, trivial, "NoneType", .base .non, by decide +kernel, by decide +kernel⟩
 | bl b => cases hy; exact ⟨rfl, trivial, "bool", .base (.bl b), by decide +kernel, by decide +kernel⟩
 | int b => cases hy; exact ⟨rfl, hs, "int", .base (.int b), by decide +kernel, by decide +kernel⟩
 | str b => cases hy; exact ⟨rfl, hs, "str", .base (.str b), by decide +kernel, by decide +kernel⟩
 | lst h1 h2 => exact absurd rfl (h _).1
 | tup h1 h2 => exact absurd rfl (h _).2
theorem ok__law_same {n : Nat} {f : Addr} {fd : FuncData} (F : FnP K "_law_same" s__law_same f fd) (B : BiS mg) (C__law_same : CalG P w K mg base n "_law_same" (spSame K n)) : FnG P w K mg base CX0 (n + 1) f fd ["_law_found", "_law_due"] (spSame K (n + 1)) := by
 refine okG F sc__law_same (fun vs H Q E h => ?_) (fun cdv A outer s H vs Q E hr h => ?_)
 ·obtain ⟨x, y, d, rfl, _⟩ := h
  rfl
 obtain ⟨x, y, d, rfl, hx, hy, hs, q⟩ := h
 refine ⟨_, PSs.nox (pss_cons (ps_if (pt_not (pt_val (pe_callB (kCall (K := K) (r := uIsi) rfl callu_isi) (by rfl) B.b_isinstance (by decide +kernel) (pa_cons (pv 1) (pa_cons (pe_tup (pa_cons (pe_bltn (v := .ty "list") (by rfl) B.b_list (by decide +kernel) rfl) (pa_cons (pe_bltn (v := .ty "tuple") (by rfl) B.b_tuple (by decide +kernel) rfl) pa_nil))) pa_nil))))) (pss_one (ps_ret (pe_cmpR (kOp (K := K) (r := uEq) rfl (opu_eq hr.units)) (pe_callB (kCall (K := K) (r := uReprG) rfl (callu_reprG hr)) (by rfl) B.b_repr (by decide +kernel) (pa_cons (pv 0) pa_nil)) (pe_callB (kCall (K := K) (r := uReprG) rfl (callu_reprG hr)) (by rfl) B.b_repr (by decide +kernel) (pa_cons (pv 1) pa_nil)) (nomark _)))) pss_nil)
 (pss_cons (ps_if (PW.pt (pw_or (pt_cmpR (kOp (K := K) (r := uNe) rfl (opu_ne hr.units)) (pe_callB (kCall (K := K) (r := uIsi) rfl callu_isi) (by rfl) B.b_isinstance (by decide +kernel) (pa_cons (pv 1) (pa_cons (pe_bltn (v := .ty "list") (by rfl) B.b_list (by decide +kernel) rfl) pa_nil))) (pe_callB (kCall (K := K) (r := uIsi) rfl callu_isi) (by rfl) B.b_isinstance (by decide +kernel) (pa_cons (pv 0) (pa_cons (pe_bltn (v := .ty "list") (by rfl) B.b_list (by decide +kernel) rfl) pa_nil))) (nomark _)) (pw_or1 (pt_cmpR (kOp (K := K) (r := uNe) rfl (opu_ne hr.units)) (pe_callB (kCall (K := K) (r := uIsi) rfl callu_isi) (by rfl) B.b_isinstance (by decide +kernel) (pa_cons (pv 1) (pa_cons (pe_bltn (v := .ty "tuple") (by rfl) B.b_tuple (by decide +kernel) rfl) pa_nil))) (pe_callB (kCall (K := K) (r := uIsi) rfl callu_isi) (by rfl) B.b_isinstance (by decide +kernel) (pa_cons (pv 0) (pa_cons (pe_bltn (v := .ty "tuple") (by rfl) B.b_tuple (by decide +kernel) rfl) pa_nil))) (nomark _))))) (pss_one (ps_ret pe_bl)) pss_nil)
 (pss_cons (ps_setLc (i := 2) (own := [("_law_one_here", 3), ("_law_other", 4)]) (g := gTup K 2 (gCons (gName 3) (gCons (gName 4) gNil))) (tt := tYes) rfl sc__law_same.nd rfl rfl (sw_true rfl rfl rfl (by decide +kernel)) (RZ.pi_zipA (by rfl) B.b_zip (pa_cons (pv 0) (pa_cons (pv 1) pa_nil))) (blkOk_by (own := [("_law_one_here", 3), ("_law_other", 4)]) (N := ["_law_found", "_law_due", "_law_same_here", "_law_one_here", "_law_other"]) (sc := defScope s__law_same) (by decide +kernel)) (fun _ _ _ _ _ => (by exact (pg_tupK (K := K) rfl rfl (pgs_cons (pg_name (i := 3) sc__law_same.nd rfl (by first | exact Or.inl rfl | exact Or.inr rfl)) (pgs_cons (pg_name (i := 4) sc__law_same.nd rfl (by first | exact Or.inl rfl | exact Or.inr rfl)) pgs_nil))))) (fun _ _ _ _ _ => pts_nil) (fun _ _ _ _ _ => (by exact (pe_calG C__law_same hr rfl (pa_cons (pv 3) (pa_cons (pv 4) pa_nil))))))
 (pss_one (ps_ret (pe_andTK (K := K) rfl (pe_cmpR (kOp (K := K) (r := uEq) rfl (opu_eq hr.units)) (pe_callB (kCall (K := K) (r := uLen) rfl callu_len) (by rfl) B.b_len (by decide +kernel) (pa_cons (pv 0) pa_nil)) (pe_callB (kCall (K := K) (r := uLen) rfl callu_len) (by rfl) B.b_len (by decide +kernel) (pa_cons (pv 1) pa_nil)) (nomark _)) (pe_one (pe_callB (kCall (K := K) (r := rAll) rfl (cr_all rfl)) (by rfl) B.b_all (by decide +kernel) (pa_cons (pv 2) pa_nil))))))))), rd_start (σ0 := [some x, some y, none, none, none]) rfl ?_⟩
 walk_at "q"
 refine ⟨le_of (by decide), fun p hp => ?_⟩
 have e1 : Fr [] H (upd H p (.tup [.ty "list", .ty "tuple"])) := Fr.new hp
 have hpt : (upd H p (.tup [.ty "list", .ty "tuple"])) p = some (.tup [.ty "list", .ty "tuple"]) := upd_same
 generalize upd H p (.tup [.ty "list", .ty "tuple"]) = H1 at *
 replace hx := dp_same e1.same hx
 replace hy := dp_same e1.same hy
 walk_at "q"
 by_cases hd : ∀ ds, d ≠ .list ds ∧ d ≠ .tuple ds
 ·obtain ⟨rfl, hsh, T, ty, k1, k2⟩ := same_leaf hx hy hs hd
  refine g_isi2 hpt ty k1 k2 ?_
  walk_at "q"
  refine g_reprS hsh ?_
  walk_at "q"
  refine g_reprS hsh ?_
  walk_at "q"
  rw [decide_eq_true rfl]
  exact q _ e1
 ·have hcase : (∃ ds, d = .list ds) ∨ (∃ ds, d = .tuple ds) := by
   cases d with
   | list ds => exact .inl ⟨ds, rfl⟩
   | tuple ds => exact .inr ⟨ds, rfl⟩
   | _ => exact absurd (fun ds => ⟨(fun z => nomatch z), (fun z => nomatch z)⟩) hd
  rcases hcase with ⟨ds, rfl⟩ | ⟨ds, rfl⟩
  ·obtain ⟨hs1, hs2⟩ := hs
   cases hx with
   | @lst a xs _ ha hxs =>
   cases hy with
   | @lst b ys _ hb hys =>
   refine g_isi2 hpt (tyx_l hb) (b1 := true) (b2 := false) (by decide +kernel) (by decide +kernel) ?_
   walk_at "q"
   refine g_isi (tyx_l hb) (b := true) (by decide +kernel) ?_
   walk_at "q"
   refine g_isi (tyx_l ha) (b := true) (by decide +kernel) ?_
   walk_at "q"
   refine g_isi (tyx_l hb) (b := false) (by decide +kernel) ?_
   walk_at "q"
   refine g_isi (tyx_l ha) (b := false) (by decide +kernel) ?_
   walk_at "q"
   have hl1 := dpa_len hxs
   have hl2 := dpa_len hys
   refine ⟨a, b, xs, ys, rfl, .inl ⟨ha, hb, fun D hD => lc_it (walk_zip (xs := xs) (ys := ys) (n := ds.length) (by omega)) (fun i H' => Fr [] H1 H' ∧ H' D = some (.lst (List.replicate i (.bl true)))) ⟨Fr.new hD, upd_same⟩ (fun i H' _ h => ⟨h.1.seq (fun z => nomatch z) ha, h.1.seq (fun z => nomatch z) hb⟩) (fun i z H' H'' hi h y => ?_) (fun H' h => ?_)⟩⟩
   ·obtain ⟨T, u, v, rfl, hT, rfl, hu, hv⟩ := y
    obtain ⟨h1, h2⟩ := h
    walk_at "q"
    refine ⟨rfl, ?_⟩
    walk_at "q"
    have eT : Fr [] H' (upd H' T (.tup [u, v])) := Fr.new hT
    obtain ⟨d1, hd1, q1⟩ := dpa_get hxs hu
    obtain ⟨d2, hd2, q2⟩ := dpa_get hys hv
    have ed : d1 = d2 := Option.some.inj (hd1.symm.trans hd2)
    subst ed
    refine ⟨u, v, d1, rfl, dp_same ((h1.trans eT).same) q1, dp_same ((h1.trans eT).same) q2, hs2 d1 (List.mem_of_getElem? hd1), fun H3 e3 => ?_⟩
    refine ⟨_, e3.at (eT.at h2 (fun z => nomatch z)) (fun z => nomatch z), lt_of (by rw [List.length_replicate]; omega), ((h1.trans eT).trans e3).over hD, ?_⟩
    rw [upd_same, List.replicate_succ']
   ·obtain ⟨h1, h2⟩ := h
    walk_at "q"
    refine g_len (.inl (h1.seq (fun z => nomatch z) ha)) ?_
    walk_at "q"
    refine g_len (.inl (h1.seq (fun z => nomatch z) hb)) ?_
    walk_at "q"
    rw [decide_eq_true (show (xs.length : Int) = ys.length by omega)]
    walk_at "q"
    refine ⟨D, List.replicate ds.length true, rfl, SqL.of (by rw [h2, List.map_replicate]), ?_⟩
    rw [show (List.replicate ds.length true).all id = true by simp]
    exact q _ (e1.trans h1)
  ·obtain ⟨hs1, hs2⟩ := hs
   cases hx with
   | @tup a xs _ ha hxs =>
   cases hy with
   | @tup b ys _ hb hys =>
   refine g_isi2 hpt (tyx_t hb) (b1 := false) (b2 := true) (by decide +kernel) (by decide +kernel) ?_
   walk_at "q"
   refine g_isi (tyx_t hb) (b := false) (by decide +kernel) ?_
   walk_at "q"
   refine g_isi (tyx_t ha) (b := false) (by decide +kernel) ?_
   walk_at "q"
   refine g_isi (tyx_t hb) (b := true) (by decide +kernel) ?_
   walk_at "q"
   refine g_isi (tyx_t ha) (b := true) (by decide +kernel) ?_
   walk_at "q"
   have hl1 := dpa_len hxs
   have hl2 := dpa_len hys
   refine ⟨a, b, xs, ys, rfl, .inr ⟨ha, hb, fun D hD => lc_it (walk_zipT (xs := xs) (ys := ys) (n := ds.length) (by omega)) (fun i H' => Fr [] H1 H' ∧ H' D = some (.lst (List.replicate i (.bl true)))) ⟨Fr.new hD, upd_same⟩ (fun i H' _ h => ⟨h.1.tup ha, h.1.tup hb⟩) (fun i z H' H'' hi h y => ?_) (fun H' h => ?_)⟩⟩
   ·obtain ⟨T, u, v, rfl, hT, rfl, hu, hv⟩ := y
    obtain ⟨h1, h2⟩ := h
    walk_at "q"
    refine ⟨rfl, ?_⟩
    walk_at "q"
    have eT : Fr [] H' (upd H' T (.tup [u, v])) := Fr.new hT
    obtain ⟨d1, hd1, q1⟩ := dpa_get hxs hu
    obtain ⟨d2, hd2, q2⟩ := dpa_get hys hv
    have ed : d1 = d2 := Option.some.inj (hd1.symm.trans hd2)
    subst ed
    refine ⟨u, v, d1, rfl, dp_same ((h1.trans eT).same) q1, dp_same ((h1.trans eT).same) q2, hs2 d1 (List.mem_of_getElem? hd1), fun H3 e3 => ?_⟩
    refine ⟨_, e3.at (eT.at h2 (fun z => nomatch z)) (fun z => nomatch z), lt_of (by rw [List.length_replicate]; omega), ((h1.trans eT).trans e3).over hD, ?_⟩
    rw [upd_same, List.replicate_succ']
   ·obtain ⟨h1, h2⟩ := h
    walk_at "q"
    refine g_len (.inr (h1.tup ha)) ?_
    walk_at "q"
    refine g_len (.inr (h1.tup hb)) ?_
    walk_at "q"
    rw [decide_eq_true (show (xs.length : Int) = ys.length by omega)]
    walk_at "q"
    refine ⟨D, List.replicate ds.length true, rfl, SqL.of (by rw [h2, List.map_replicate]), ?_⟩
    rw [show (List.replicate ds.length true).all id = true by simp]
    exact q _ (e1.trans h1)
end
inductive SumN (vd : List (Str × Str)) : Nat → SumE → Prop
 | num {m : Nat} {k : Str} {u : V} : ValOf k u → k = "number" → SumN vd m (.val u)
 | var {m : Nat} {x : Str} : vd.lookup x = some "number" → SumN vd m (.var x)
 | op {m : Nat} {s : Str} {a b : SumE} : isSg s → SumN vd m a → SumN vd m b → SumN vd (m + 1) (.op s a b)
theorem SumN.deep {vd : List (Str × Str)} {m : Nat} {e : SumE} (h : SumN vd m e) : e.deep ≤ m := by
 induction h with
 | num _ _ => exact Nat.zero_le _
 | var _ => exact Nat.zero_le _
 | op _ _ _ h1 h2 => exact Nat.succ_le_succ (Nat.max_le.mpr ⟨h1, h2⟩)
def spSum (K : PySem.W.Frag) (n : Nat) : Sp := fun vs H Q _ => ∃ (b cs d : Addr) (m : Nat) (vd : List (Str × Str)), vs = [.ref b, .ref d, .int (m : Int)] ∧ m < n ∧ BagAt H b cs ∧ VarsAt H d vd ∧
 ∀ e v H', SumN vd m e → SumAt K H' e v → BagAt H' b cs → Fr [b] H H' → Q v H'
abbrev s__law_sum : Stmt := topS 23
theorem sc__law_sum : FnScope ["_law_bag_here", "_law_vars_of", "_law_deep", "_law_sign"] ["_law_bag_here", "_law_vars_of", "_law_deep"] (defScope s__law_sum) := ⟨rfl, rfl, rfl, by decide +kernel, rfl, by decide +kernel, by decide +kernel⟩
theorem leaf_sum {K : PySem.W.Frag} {H : Hp} {vd : List (Str × Str)} {p : Addr} (m : Nat) (h : LeafAt K H vd "number" p) : ∃ e, SumN vd m e ∧ SumAt K H e (.ref p) := by
 rcases h with ⟨u, h1, h2⟩ | ⟨x, h1, h2⟩
 ·exact ⟨.val u, .num h2 rfl, p, rfl, h1⟩
 ·exact ⟨.var x, .var h2, p, rfl, h1⟩
section
variable {P : Program} {w : World} {K : PySem.W.Frag} {mg : Str → Option Value} {base : Heap}
theorem ok__law_sum {n : Nat} {f : Addr} {fd : FuncData} (F : FnP K "_law_sum" s__law_sum f fd) (C__law_pull : CalG P w K mg base 10 "_law_pull" spPull) (C__law_one : CalG P w K mg base 20 "_law_one" (spOne K))
  (C__law_leaf : CalG P w K mg base 50 "_law_leaf" (spLeaf K)) (C__law_sum : CalG P w K mg base (50 + n) "_law_sum" (spSum K n)) : FnG P w K mg base CX0 (50 + n + 1) f fd ["_law_bag_here", "_law_vars_of", "_law_deep"] (spSum K (n + 1)) := by
 refine okG F sc__law_sum (fun vs H Q E h => ?_) (fun cdv A outer s H vs Q E hr h => ?_)
 ·obtain ⟨b, cs, d, m, vd, rfl, _⟩ := h
  rfl
 obtain ⟨b, cs, d, m, vd, rfl, hm, hB, hV, q⟩ := h
 refine ⟨_, PSs.nox (pss_cons (ps_if (PW.pt (pw_or (pt_cmpR (kOp (K := K) (r := uEq) rfl (opu_eq hr.units)) (pv 2) pe_int (nomark _)) (pw_or1 (pt_cmpR (kOp (K := K) (r := uEq) rfl (opu_eq hr.units)) (pe_calG C__law_pull hr rfl (pa_cons (pv 0) (pa_cons pe_int pa_nil))) pe_int (nomark _))))) (pss_one (ps_ret (pe_calG C__law_leaf hr rfl (pa_cons (pv 0) (pa_cons pe_str (pa_cons (pv 1) pa_nil)))))) pss_nil)
 (pss_cons (ps_set (i := 3) sc__law_sum.nd rfl (.inl rfl) (pe_calG C__law_one hr rfl (pa_cons (pv 0) (pa_cons (pe_lst (pa_cons pe_str (pa_cons pe_str (pa_cons pe_str pa_nil)))) pa_nil))))
 (pss_one (ps_ret (pe_tup (pa_cons (pv 3) (pa_cons (pe_calG C__law_sum hr rfl (pa_cons (pv 0) (pa_cons (pv 1) (pa_cons (pe_op opu_sub (pv 2) pe_int) pa_nil)))) (pa_cons (pe_calG C__law_sum hr rfl (pa_cons (pv 0) (pa_cons (pv 1) (pa_cons (pe_op opu_sub (pv 2) pe_int) pa_nil)))) pa_nil)))))))), rd_start (σ0 := [some (.ref b), some (.ref d), some (.int (m : Int)), none]) rfl ?_⟩
 have hdb := hV.ne hB
 have hn : ∀ {x : Addr}, x ≠ b → x ∉ [b] := fun h z => h (List.mem_singleton.mp z)
 walk_at "q"
 refine g_by (fun c => ?_) (fun c => ?_)
 ·walk_at "q"
  refine ⟨b, cs, d, "number", vd, rfl, .inl rfl, hB, hV, fun p H1 hp hB1 hF1 => ?_⟩
  obtain ⟨e, he, hs⟩ := leaf_sum m hp
  exact q e _ H1 he hs hB1 hF1
 ·walk_at "q"
  refine ⟨b, cs, _, rfl, hB, by decide, by decide, fun dd H1 d0 d1 hB1 hF1 => ?_⟩
  have hV1 := hV.fr hF1 (hn hdb.1)
  walk_at "q"
  refine g_by (fun c2 => ?_) (fun c2 => ?_)
  ·walk_at "q"
   refine ⟨b, cs, d, "number", vd, rfl, .inl rfl, hB1, hV1, fun p H2 hp hB2 hF2 => ?_⟩
   obtain ⟨e, he, hs⟩ := leaf_sum m hp
   exact q e _ H2 he hs hB2 (hF1.trans hF2)
  ·walk_at "q"
   refine ⟨le_of (by simp), fun p hp => ?_⟩
   have hF2 : Fr [b] H1 (upd H1 p (.lst [.str "+", .str "-", .str "*"])) := Fr.new hp
   have hB2 := hB1.fr0 (Fr.new (M := []) (o := .lst [.str "+", .str "-", .str "*"]) hp)
   have hV2 := hV1.fr hF2 (hn hdb.1)
   have hpl : (upd H1 p (.lst [V.str "+", .str "-", .str "*"])) p = some (.lst [V.str "+", .str "-", .str "*"]) := upd_same
   generalize upd H1 p (.lst [V.str "+", .str "-", .str "*"]) = H2 at *
   walk_at "q"
   refine ⟨b, cs, p, _, rfl, hB2, .inl ⟨SqL.of hpl, (hB1.some hp).1⟩, by decide, by decide, fun sv H3 hsv hB3 hF3 => ?_⟩
   have hV3 := hV2.fr hF3 (hn hdb.1)
   obtain ⟨sg, hsg, rfl⟩ : ∃ sg, isSg sg ∧ sv = .str sg := by
    simp only [List.mem_cons, List.not_mem_nil, or_false] at hsv
    rcases hsv with rfl | rfl | rfl
    ·exact ⟨_, .inl rfl, rfl⟩
    ·exact ⟨_, .inr (.inl rfl), rfl⟩
    ·exact ⟨_, .inr (.inr rfl), rfl⟩
   obtain ⟨m', rfl⟩ : ∃ m', m = m' + 1 := ⟨m - 1, by omega⟩
   have em : ((m' + 1 : Nat) : Int) - 1 = (m' : Int) := by omega
   walk_at "q"
   rw [em]
   refine ⟨b, cs, d, m', vd, rfl, by omega, hB3, hV3, fun e1 v1 H4 he1 hs1 hB4 hF4 => ?_⟩
   have hV4 := hV3.fr hF4 (hn hdb.1)
   walk_at "q"
   rw [em]
   refine ⟨b, cs, d, m', vd, rfl, by omega, hB4, hV4, fun e2 v2 H5 he2 hs2 hB5 hF5 => ?_⟩
   walk_at "q"
   refine ⟨le_of (by simp), fun p6 hp6 => ?_⟩
   have f6 : Fr [b] H5 (upd H5 p6 (.tup [.str sg, v1, v2])) := Fr.new hp6
   refine q (.op sg e1 e2) _ _ (.op hsg he1 he2) ⟨p6, v1, v2, rfl, SqT.of upd_same, (hs1.fr hF5).fr f6, hs2.fr f6⟩ (hB5.fr0 (Fr.new hp6)) (((((hF1.trans hF2).trans hF3).trans hF4).trans hF5).trans f6)
end
def barredL : List Str := ["if", "not", "is", "count", "sum", "least", "most", "yes", "no", "me"]
def VarN (x : Str) : Prop := WordP x ∧ x ∉ barredL
def varB (x : Str) : Bool := wordB x && !(barredL.any fun y => decide (x = y))
theorem varB_ok {x : Str} (h : varB x = true) : VarN x := by
 unfold varB at h
 simp only [Bool.and_eq_true, Bool.not_eq_true', List.any_eq_false, decide_eq_true_eq] at h
 exact ⟨wordB_ok h.1, fun z => h.2 x z rfl⟩
theorem WordP.tx {x : Str} (h : WordP x) : Tx 12 x := by
 refine ⟨len_le12 h, fun c hc => ?_⟩
 obtain ⟨d, r, e, h1, h2, _⟩ := h
 have lt : ∀ d, (isLet d || isFig d) = true → d < 0x110000 := by
  intro d hd
  unfold isLet isFig at hd
  simp only [Bool.or_eq_true, decide_eq_true_eq] at hd
  omega
 rw [e] at hc
 rcases List.mem_cons.mp hc with rfl | hc
 ·exact lt _ (by rw [h1]; rfl)
 ·exact lt _ (h2 c hc)
def putS (vd : List (Str × Str)) (x k : Str) : List (Str × Str) := if (vd.any fun p => decide (p.1 = x)) = true then vd.map (fun p => if p.1 = x then (p.1, k) else p) else vd ++ [(x, k)]
structure VdG (vd : List (Str × Str)) : Prop where
 len : vd.length ≤ 12
 ok : ∀ p ∈ vd, VarN p.1 ∧ KindW p.2
theorem putS_mem {vd : List (Str × Str)} {x k : Str} {p : Str × Str} (h : p ∈ putS vd x k) : p ∈ vd ∨ p = (x, k) := by
 unfold putS at h
 split at h
 ·obtain ⟨c, hc, rfl⟩ := List.mem_map.mp h
  split
  ·rename_i e
   exact .inr (by rw [e])
  ·exact .inl hc
 ·rcases List.mem_append.mp h with h | h
  ·exact .inl h
  ·exact .inr (List.mem_singleton.mp h)
theorem putS_len {vd : List (Str × Str)} {x k : Str} : (putS vd x k).length ≤ vd.length + 1 := by
 unfold putS
 split
 ·rw [List.length_map]; omega
 ·rw [List.length_append]; exact Nat.le_refl _
theorem VdG.put {vd : List (Str × Str)} {x k : Str} (h : VdG vd) (hl : vd.length ≤ 11) (hx : VarN x) (hk : KindW k) : VdG (putS vd x k) := by
 refine ⟨Nat.le_trans putS_len (by omega), fun p hp => ?_⟩
 rcases putS_mem hp with hp | rfl
 ·exact h.ok p hp
 ·exact ⟨hx, hk⟩
theorem VdG.lk {vd : List (Str × Str)} {x k : Str} (h : VdG vd) (e : vd.lookup x = some k) : VarN x ∧ KindW k := by
 rw [List.lookup_eq_some_iff] at e
 obtain ⟨l1, l2, e, _⟩ := e
 exact h.ok (x, k) (by rw [e]; simp)
theorem VarN.ok {x : Str} (h : VarN x) : PyData.strOk x = true := by
 unfold PyData.strOk
 rw [← Array.all_toList, List.all_eq_true]
 exact fun c hc => decide_eq_true (h.1.tx.ok c hc)
theorem VarsAt.put {H : Hp} {d : Addr} {vd : List (Str × Str)} {x k : Str} (h : VarsAt H d vd) (hx : VarN x) (hl : vd.length ≤ 50) : VarsAt (upd H d (.dK (kvOf (putS vd x k)))) d (putS vd x k) :=
 ⟨upd_same, Nat.lt_of_le_of_lt putS_len (by omega), fun p hp => by
  rcases putS_mem hp with hp | rfl
  ·exact h.ok p hp
  ·exact hx.ok⟩
def ValW (u : V) : Prop := (∃ i : Int, u = .int i ∧ i.natAbs < 10 ^ 30) ∨ (∃ b, u = .bl b) ∨ ∃ x, u = .str x ∧ WordP x
theorem ValOf.w {k : Str} {u : V} (h : ValOf k u) : ValW u := by
 rcases h with ⟨_, n, rfl, h1, h2⟩ | ⟨_, c, rfl⟩ | ⟨_, x, rfl, hx⟩
 ·exact .inl ⟨n, rfl, by omega⟩
 ·exact .inr (.inl ⟨c, rfl⟩)
 ·exact .inr (.inr ⟨x, rfl, hx⟩)
theorem ValW.g {u : V} (h : ValW u) : ValG u := by
 rcases h with ⟨i, rfl, h⟩ | ⟨b, rfl⟩ | ⟨x, rfl, h⟩
 ·exact .inl ⟨i, rfl, h⟩
 ·exact .inr (.inl ⟨b, rfl⟩)
 ·exact .inr (.inr ⟨x, rfl, h.tx⟩)
theorem ValW.td {K : PySem.W.Frag} {H : Hp} {u : V} (h : ValW u) : Td K H u (scD u) := by
 rcases h with ⟨i, rfl, h⟩ | ⟨b, rfl⟩ | ⟨x, rfl, h⟩
 ·exact .int i
 ·exact .bl b
 ·exact .str x
inductive SumW : Nat → SumE → Prop
 | val {n : Nat} {u : V} : ValW u → SumW n (.val u)
 | var {n : Nat} {x : Str} : VarN x → SumW n (.var x)
 | op {n : Nat} {s : Str} {a b : SumE} : isSg s → SumW n a → SumW n b → SumW (n + 1) (.op s a b)
theorem SumW.up {m n : Nat} {e : SumE} (h : SumW m e) (l : m ≤ n) : SumW n e := by
 induction h generalizing n with
 | val h => exact .val h
 | var h => exact .var h
 | op hs _ _ iha ihb =>
  obtain ⟨k, rfl⟩ : ∃ k, n = k + 1 := ⟨n - 1, by omega⟩
  exact .op hs (iha (by omega)) (ihb (by omega))
theorem SumW.g {n : Nat} {e : SumE} (h : SumW n e) : SumG n e := by
 induction h with
 | val h => exact .val h.g
 | var h => exact .var h.1.tx
 | op hs _ _ h1 h2 => exact .op hs h1 h2
inductive TermW : TermE → Prop
 | any : TermW .any
 | s {e : SumE} : SumW 0 e → TermW (.s e)
theorem TermW.g {t : TermE} (h : TermW t) : TermG t := by
 cases h with
 | any => exact .any
 | s h => exact .s h.g
inductive NameD : Str → Prop
 | one {a : Str} : VarN a → NameD a
 | two {a b : Str} : VarN a → VarN b → NameD (a ++ "." ++ b)
 | three {a b c : Str} : VarN a → VarN b → VarN c → NameD (a ++ "." ++ b ++ "." ++ c)
theorem NameD.tx {x : Str} (h : NameD x) : Tx 38 x := by
 have d : Tx 1 (".": Str) := Tx.lit (by decide +kernel)
 cases h with
 | one h => exact h.1.tx.mono (by decide)
 | two h k => exact ((h.1.tx.app d).app k.1.tx).mono (by decide)
 | three h k l => exact ((((h.1.tx.app d).app k.1.tx).app d).app l.1.tx).mono (by decide)
def testL : List Str := ["=", "!=", "<", "<=", ">", ">="]
inductive PartW : PartE → Prop
 | atom {no : Bool} {x : Str} {ts : List TermE} : Tx 40 x → (∃ y, NameD y ∧ (x = y ∨ x = "q." ++ y)) → 1 ≤ ts.length → ts.length ≤ 4 → (∀ t ∈ ts, TermW t) → PartW (.atom no x ts)
 | lt {x : Str} {e : SumE} : VarN x → SumW 1 e → PartW (.lt x e)
 | test {s : Str} {a b : SumE} : s ∈ testL → SumW 1 a → SumW 1 b → PartW (.test s a b)
theorem testL_tx {s : Str} (h : s ∈ testL) : Tx 2 s := by
 have z : ∀ s ∈ testL, txB 2 s = true := by decide +kernel
 exact Tx.lit (z s h)
theorem PartW.g {p : PartE} (h : PartW p) : PartG p := by
 cases h with
 | atom hx _ _ hl h => exact .atom (hx.mono (by decide)) hl fun t ht => (h t ht).g
 | lt hx h => exact .lt hx.1.tx h.g
 | test hs h k => exact .test (testL_tx hs) h.g k.g
inductive ArgW : ArgE → Prop
 | s {e : SumE} : SumW 0 e → ArgW (.s e)
 | fold0 : ArgW (.fold "count" none)
 | fold {w x : Str} : w ∈ (["sum", "least", "most"] : List Str) → VarN x → ArgW (.fold w (some x))
theorem ArgW.g {a : ArgE} (h : ArgW a) : ArgG a := by
 cases h with
 | s h => exact .s h.g
 | fold0 => exact .fold0 (Tx.lit (by decide +kernel))
 | fold h k =>
  have z : ∀ s ∈ (["sum", "least", "most"] : List Str), txB 5 s = true := by decide +kernel
  exact .fold (Tx.lit (z _ h)) k.1.tx
theorem LeafAt.w {K : PySem.W.Frag} {H : Hp} {vd : List (Str × Str)} {k : Str} {p : Addr} (h : LeafAt K H vd k p) (hv : VdG vd) : ∃ e, SumW 0 e ∧ Td K H (.ref p) e.d := by
 rcases h with ⟨u, h1, h2⟩ | ⟨x, h1, h2⟩
 ·exact ⟨.val u, .val h2.w, .tup h1 (.cons (.str _) (.cons h2.w.td .nil))⟩
 ·exact ⟨.var x, .var (hv.lk h2).1, .tup h1 (.cons (.str _) (.cons (.str _) .nil))⟩
theorem SumN.w {vd : List (Str × Str)} {m : Nat} {e : SumE} (h : SumN vd m e) (hv : VdG vd) : SumW m e := by
 induction h with
 | num h _ => exact .val h.w
 | var h => exact .var (hv.lk h).1
 | op hs _ _ h1 h2 => exact .op hs h1 h2
theorem SumAt.td {K : PySem.W.Frag} {H : Hp} {m : Nat} : ∀ {e : SumE} {v : V}, SumW m e → SumAt K H e v → Td K H v e.d := by
 intro e v hw
 induction hw generalizing v with
 | val h => exact fun ⟨p, e, hp⟩ => by rw [e]; exact .tup hp (.cons (.str _) (.cons h.td .nil))
 | var h => exact fun ⟨p, e, hp⟩ => by rw [e]; exact .tup hp (.cons (.str _) (.cons (.str _) .nil))
 | op hs _ _ h1 h2 => exact fun ⟨p, y, z, e, hp, ha, hb⟩ => by rw [e]; exact .tup hp (.cons (.str _) (.cons (h1 ha) (.cons (h2 hb) .nil)))
def sumV : SumE → List Str
 | .val _ => []
 | .var x => [x]
 | .op _ a b => sumV a ++ sumV b
def termV : TermE → List Str
 | .s (.var x) => [x]
 | _ => []
def partV : PartE → List Str
 | .atom _ _ ts => ts.flatMap termV
 | .lt x e => x :: sumV e
 | .test _ a b => sumV a ++ sumV b
def wantV : PartE → List Str
 | .lt _ e => sumV e
 | p => partV p
def giveV : PartE → List Str
 | .atom false _ ts => ts.flatMap termV
 | .lt x _ => [x]
 | _ => []
inductive PartA : PartE → Prop
 | atom {no : Bool} {x : Str} {ts : List TermE} : ts.length ≤ 8 → (∀ t ∈ ts, TermG t) → PartA (.atom no x ts)
 | lt {x : Str} {e : SumE} : Tx 12 x → SumG 2 e → PartA (.lt x e)
 | test {s : Str} {a b : SumE} : SumG 2 a → SumG 2 b → PartA (.test s a b)
theorem sumV_len {m : Nat} {e : SumE} (h : SumG m e) : (sumV e).length ≤ 2 ^ m := by
 induction h with
 | val => exact Nat.zero_le _
 | @var n x => exact Nat.one_le_two_pow
 | op _ _ _ h1 h2 => rw [Nat.pow_succ]; simp only [sumV, List.length_append]; omega
theorem termV_len (t : TermE) : (termV t).length ≤ 1 := by
 unfold termV
 split
 ·exact Nat.le_refl _
 ·exact Nat.zero_le _
theorem termsV_len (ts : List TermE) : (ts.flatMap termV).length ≤ ts.length := by
 induction ts with
 | nil => exact Nat.le_refl _
 | cons t r ih =>
  have := termV_len t
  simp only [List.flatMap_cons, List.length_append, List.length_cons]
  omega
theorem partV_len {p : PartE} (h : PartA p) : (partV p).length ≤ 8 := by
 cases h with
 | atom hl _ => exact Nat.le_trans (termsV_len _) hl
 | lt _ h => have := sumV_len h; simp only [partV, List.length_cons]; omega
 | test h k => have := sumV_len h; have := sumV_len k; simp only [partV, List.length_append]; omega
theorem sumV_tx {m : Nat} {e : SumE} (h : SumG m e) : ∀ x ∈ sumV e, Tx 12 x := by
 induction h with
 | val => exact fun x hx => nomatch hx
 | var h => exact fun x hx => by rw [List.mem_singleton.mp hx]; exact h
 | op _ _ _ h1 h2 => exact fun x hx => (List.mem_append.mp hx).elim (h1 x) (h2 x)
theorem partV_tx {p : PartE} (h : PartA p) : ∀ x ∈ partV p, Tx 12 x := by
 cases h with
 | atom _ hts =>
  intro x hx
  obtain ⟨t, ht, hx⟩ := List.mem_flatMap.mp hx
  cases hts t ht with
  | any => cases hx
  | s he =>
   cases he with
   | val => cases hx
   | var h => rw [List.mem_singleton.mp hx]; exact h
 | lt hx h => exact fun y hy => (List.mem_cons.mp hy).elim (fun e => by rw [e]; exact hx) (sumV_tx h y)
 | test h k => exact fun x hx => (List.mem_append.mp hx).elim (sumV_tx h x) (sumV_tx k x)
def spNames1 {α : Type} (K : PySem.W.Frag) (d : α → PyData) (G : α → Prop) (T : α → List Str) : Sp := fun vs H Q _ => ∃ v a, vs = [v] ∧ Td K H v (d a) ∧ G a ∧ ∀ p H', Fr [] H H' → H p = none → H' p = some (.lst ((T a).map V.str)) → Q (.ref p) H'
def spSumV (K : PySem.W.Frag) (n : Nat) : Sp := fun vs H Q _ => ∃ v e m, vs = [v] ∧ Td K H v (SumE.d e) ∧ SumG m e ∧ m ≤ 4 ∧ e.deep < n ∧ ∀ p H', Fr [] H H' → H p = none → H' p = some (.lst ((sumV e).map V.str)) → Q (.ref p) H'
abbrev s_sum_variables : Stmt := topS 1
theorem sc_sum_variables : FnScope ["thing"] ["thing"] (defScope s_sum_variables) := ⟨rfl, rfl, rfl, by decide +kernel, rfl, by decide +kernel, by decide +kernel⟩
abbrev s_part_variables : Stmt := topS 2
theorem sc_part_variables : FnScope ["part", "term"] ["part"] (defScope s_part_variables) := ⟨rfl, rfl, rfl, by decide +kernel, rfl, by decide +kernel, by decide +kernel⟩
abbrev s_wanted : Stmt := topS 3
theorem sc_wanted : FnScope ["part"] ["part"] (defScope s_wanted) := ⟨rfl, rfl, rfl, by decide +kernel, rfl, by decide +kernel, by decide +kernel⟩
abbrev s_given_by : Stmt := topS 4
theorem sc_given_by : FnScope ["part"] ["part"] (defScope s_given_by) := ⟨rfl, rfl, rfl, by decide +kernel, rfl, by decide +kernel, by decide +kernel⟩
section
variable {P : Program} {w : World} {K : PySem.W.Frag} {mg : Str → Option Value} {base : Heap}
theorem two_in {K : PySem.W.Frag} (H : Hp) (z a b : Str) (A : V → Hp → Prop) (k : ∀ H', Fr [] H H' → A (.bl (decide (z ∈ ([a, b] : List Str)))) H') : ∀ p, H p = none → uIn K (.str z) (.ref p) (upd H p (.tup [.str a, .str b])) A := fun p hp => by
 refine g_inT (xs := ([a, b] : List Str).map V.str) (.inr (SqT.of upd_same)) (flat_strs _) ?_
 rw [inV_str]
 exact k _ (Fr.new hp)
theorem ok_sum_variables {n : Nat} {f : Addr} {fd : FuncData} (F : FnP K "sum_variables" s_sum_variables f fd) (C_sum_variables : CalG P w K mg base n "sum_variables" (spSumV K n)) : FnG P w K mg base CX0 (n + 1) f fd ["thing"] (spSumV K (n + 1)) := by
 refine okG F sc_sum_variables (fun vs H Q E h => ?_) (fun cdv A outer s H vs Q E hr h => ?_)
 ·obtain ⟨v, e, m, rfl, _⟩ := h
  rfl
 obtain ⟨v, e, m, rfl, hv, he, hm, hn, q⟩ := h
 refine ⟨_, PSs.nox (pss_cons (ps_if (pt_cmpR (kOp (K := K) (r := uEq) rfl (opu_eq hr.units)) (pe_ix (kIx (K := K) (r := rIx) rfl ix_seq) (pv 0) pe_int (fun _ _ => rfl)) pe_str (nomark _)) (pss_one (ps_ret (pe_lst (pa_cons (pe_ix (kIx (K := K) (r := rIx) rfl ix_seq) (pv 0) pe_int (fun _ _ => rfl)) pa_nil)))) pss_nil)
 (pss_cons (ps_if (pt_cmpR (kOp (K := K) (r := uEq) rfl (opu_eq hr.units)) (pe_ix (kIx (K := K) (r := rIx) rfl ix_seq) (pv 0) pe_int (fun _ _ => rfl)) pe_str (nomark _)) (pss_one (ps_ret (pe_lst pa_nil))) pss_nil)
 (pss_one (ps_ret (pe_op (kOp (K := K) (r := uAdd) rfl opu_add) (pe_calG C_sum_variables hr rfl (pa_cons (pe_ix (kIx (K := K) (r := rIx) rfl ix_seq) (pv 0) pe_int (fun _ _ => rfl)) pa_nil)) (pe_calG C_sum_variables hr rfl (pa_cons (pe_ix (kIx (K := K) (r := rIx) rfl ix_seq) (pv 0) pe_int (fun _ _ => rfl)) pa_nil))))))), rd_start (σ0 := [some v]) rfl ?_⟩
 cases he with
 | @val m u hu =>
  obtain ⟨p, rfl, hp⟩ := td_val hu hv
  walk_at "q"
  refine ⟨le_of (by simp), fun p2 hp2 => ?_⟩
  exact q _ _ (Fr.new hp2) hp2 upd_same
 | @var m x hx =>
  obtain ⟨p, x', y, rfl, hp, hx', hy⟩ := Td.t2 (show Td K H v (.tuple [.str "var", .str x]) from hv)
  cases hx'.str_inv
  cases hy.str_inv
  walk_at "q"
  refine ⟨le_of (by simp), fun p2 hp2 => ?_⟩
  exact q _ _ (Fr.new hp2) hp2 upd_same
 | @op m s a b hs ha hb =>
  obtain ⟨p, x, y, z, rfl, hp, hx, hy, hz⟩ := Td.t3 (show Td K H v (.tuple [.str s, a.d, b.d]) from hv)
  cases hx.str_inv
  have hdeep : max a.deep b.deep + 1 < n + 1 := hn
  walk_at "q"
  refine g_ff (decide_eq_false (sg_ne hs).2) ?_
  walk_at "q"
  refine g_ff (decide_eq_false (sg_ne hs).1) ?_
  walk_at "q"
  refine ⟨y, a, m, rfl, hy, ha, by omega, by omega, fun p1 H1 e1 _ h1 => ?_⟩
  have hp1 := e1.tup hp
  walk_at "q"
  refine ⟨z, b, m, rfl, hz.fr e1, hb, by omega, by omega, fun p2 H2 e2 _ h2 => ?_⟩
  have l1 := sumV_len (ha.up (show m ≤ 4 by omega))
  have l2 := sumV_len (hb.up (show m ≤ 4 by omega))
  refine g_addL (e2.at h1 (fun z => nomatch z)) h2 (le_of (by rw [List.length_map, List.length_map]; omega)) fun p3 hp3 => ?_
  have hp3H : H p3 = none := (e1.trans e2).back (fun z => nomatch z) hp3
  refine q _ _ ((e1.trans e2).trans (Fr.new hp3)) hp3H ?_
  rw [upd_same, ← List.map_append]
  rfl
end
section
variable {P : Program} {w : World} {K : PySem.W.Frag} {mg : Str → Option Value} {base : Heap}
theorem ok_part_variables {f : Addr} {fd : FuncData} (F : FnP K "part_variables" s_part_variables f fd) (C_sum_variables : CalG P w K mg base 5 "sum_variables" (spSumV K 5)) : FnG P w K mg base CX0 6 f fd ["part"] (spNames1 K PartE.d PartA partV) := by
 refine okG F sc_part_variables (fun vs H Q E h => ?_) (fun cdv A outer s H vs Q E hr h => ?_)
 ·obtain ⟨v, a, rfl, _⟩ := h
  rfl
 obtain ⟨v, p, rfl, hv, hp, q⟩ := h
 refine ⟨_, PSs.nox (pss_cons (ps_if (pt_cmpR (kOp (K := K) (r := uIn) rfl opu_in) (pe_ix (kIx (K := K) (r := rIx) rfl ix_seq) (pv 0) pe_int (fun _ _ => rfl)) (pe_tup (pa_cons pe_str (pa_cons pe_str pa_nil))) (by rfl)) (pss_one (ps_ret (pe_lc (own := [("term", 1)]) (g := gName 1) rfl sc_part_variables.nd (pi_tupK (K := K) rfl (pe_ix (kIx (K := K) (r := rIx) rfl ix_seq) (pv 0) pe_int (fun _ _ => rfl))) (blkOk_by (own := [("term", 1)]) (N := ["part", "term"]) (sc := defScope s_part_variables) (by decide +kernel)) (fun _ _ _ _ _ => (by exact (pg_name (i := 1) sc_part_variables.nd rfl (by first | exact Or.inl rfl | exact Or.inr rfl)))) (fun _ _ _ _ _ => (by exact pts_one (pt_cmpR (kOp (K := K) (r := uEq) rfl (opu_eq hr.units)) (pe_ix (kIx (K := K) (r := rIx) rfl ix_seq) (pv 1) pe_int (fun _ _ => rfl)) pe_str (nomark _)))) (fun _ _ _ _ _ => (by exact (pe_ix (kIx (K := K) (r := rIx) rfl ix_seq) (pv 1) pe_int (fun _ _ => rfl))))))) pss_nil)
 (pss_cons (ps_if (pt_cmpR (kOp (K := K) (r := uEq) rfl (opu_eq hr.units)) (pe_ix (kIx (K := K) (r := rIx) rfl ix_seq) (pv 0) pe_int (fun _ _ => rfl)) pe_str (nomark _)) (pss_one (ps_ret (pe_op (kOp (K := K) (r := uAdd) rfl opu_add) (pe_lst (pa_cons (pe_ix (kIx (K := K) (r := rIx) rfl ix_seq) (pv 0) pe_int (fun _ _ => rfl)) pa_nil)) (pe_calG C_sum_variables hr rfl (pa_cons (pe_ix (kIx (K := K) (r := rIx) rfl ix_seq) (pv 0) pe_int (fun _ _ => rfl)) pa_nil))))) pss_nil)
 (pss_one (ps_ret (pe_op (kOp (K := K) (r := uAdd) rfl opu_add) (pe_calG C_sum_variables hr rfl (pa_cons (pe_ix (kIx (K := K) (r := rIx) rfl ix_seq) (pv 0) pe_int (fun _ _ => rfl)) pa_nil)) (pe_calG C_sum_variables hr rfl (pa_cons (pe_ix (kIx (K := K) (r := rIx) rfl ix_seq) (pv 0) pe_int (fun _ _ => rfl)) pa_nil))))))), rd_start (σ0 := [some v, none]) rfl ?_⟩
 cases hp with
 | @atom no x ts hl hts =>
  obtain ⟨a, y1, y2, y3, rfl, ha, h1, h2, h3⟩ := Td.t3 (show Td K H v (.tuple [.str (if no then "not" else "atom"), .str x, .tuple (ts.map TermE.d)]) from hv)
  cases h1.str_inv
  cases h2.str_inv
  obtain ⟨r, us, rfl, hr3, ht⟩ := h3.tuple_inv
  walk_at "q"
  refine ⟨le_of (by simp), two_in _ _ _ _ _ fun H1 e1 => ?_⟩
  have ha1 := e1.tup ha
  have hr1 := e1.tup hr3
  obtain ⟨k1, k2⟩ := tda_get (ht.fr e1)
  rw [decide_eq_true (show (if no = true then ("not" : Str) else "atom") ∈ (["atom", "not"] : List Str) by cases no <;> decide +kernel)]
  walk_at "q"
  refine ⟨r, rfl, ⟨_, hr1⟩, fun D hD => lc_it (walk_tup (xs := us)) (fun i H' => Fr [] H1 H' ∧ H' D = some (.lst (((ts.take i).flatMap termV).map V.str))) ⟨Fr.new hD, upd_same⟩ (fun i H' _ h => h.1.tup hr1) (fun i y H' H'' hi h yy => ?_) (fun H' h => ?_)⟩
  ·obtain ⟨rfl, hxx⟩ := yy
   obtain ⟨f1, f2⟩ := h
   obtain ⟨t, ht0, htd⟩ := k2 i y hxx
   have htd := htd.fr f1
   have hlen : ((ts.take i).flatMap termV).length ≤ 8 := Nat.le_trans (termsV_len _) (by rw [List.length_take]; omega)
   have step : ((ts.take (i + 1)).flatMap termV) = (ts.take i).flatMap termV ++ termV t := by rw [List.take_succ, ht0, List.flatMap_append]; simp
   walk_at "q"
   refine ⟨rfl, ?_⟩
   cases hts t (List.mem_of_getElem? ht0) with
   | any =>
    obtain ⟨p, z, rfl, hp, hz⟩ := Td.t1 (show Td K H'' y (.tuple [.str "any"]) from htd)
    cases hz.str_inv
    walk_at "q"
    exact ⟨f1, by rw [step, f2]; simp [termV]⟩
   | @s e he =>
    cases he with
    | @val _ u hu =>
     obtain ⟨p, rfl, hp⟩ := td_val hu (show Td K H'' y (.tuple [.str "value", scD u]) from htd)
     walk_at "q"
     exact ⟨f1, by rw [step, f2]; simp [termV]⟩
    | @var _ x hx =>
     obtain ⟨p, x', z, rfl, hp, hx', hz⟩ := Td.t2 (show Td K H'' y (.tuple [.str "var", .str x]) from htd)
     cases hx'.str_inv
     cases hz.str_inv
     walk_at "q"
     refine ⟨_, f2, lt_of (by rw [List.length_map]; omega), f1.over hD, ?_⟩
     rw [upd_same, step, List.map_append]
     rfl
  ·refine q _ _ (e1.trans h.1) (e1.back (fun z => nomatch z) hD) ?_
   rw [h.2, k1, List.take_length]
   rfl
 | @lt x e hx0 he =>
  obtain ⟨a, y1, y2, y3, rfl, ha, h1, h2, h3⟩ := Td.t3 (show Td K H v (.tuple [.str "let", .str x, e.d]) from hv)
  cases h1.str_inv
  cases h2.str_inv
  walk_at "q"
  refine ⟨le_of (by simp), two_in _ _ _ _ _ fun H1 e1 => ?_⟩
  have ha1 := e1.tup ha
  walk_at "q"
  refine ⟨le_of (by simp), fun p2 hp2 => ?_⟩
  have e2 : Fr [] H1 (upd H1 p2 (.lst [.str x])) := Fr.new hp2
  have h2l : (upd H1 p2 (.lst [V.str x])) p2 = some (.lst [.str x]) := upd_same
  have ha2 := e2.tup ha1
  generalize upd H1 p2 (.lst [V.str x]) = H2 at *
  walk_at "q"
  refine ⟨_, e, 2, rfl, (h3.fr e1).fr e2, he, by decide, by have := sum_deep he; omega, fun p3 H3 e3 _ h3l => ?_⟩
  have l1 := sumV_len he
  refine g_addL (e3.at h2l (fun z => nomatch z)) h3l (le_of (by rw [List.length_map]; simp only [List.length_singleton]; omega)) fun p4 hp4 => ?_
  have ee := (e1.trans e2).trans e3
  refine q _ _ (ee.trans (Fr.new hp4)) (ee.back (fun z => nomatch z) hp4) ?_
  rw [upd_same]
  rfl
 | @test sg a b ha hb =>
  obtain ⟨p, y1, y2, y3, y4, rfl, hp, h1, h2, h3, h4⟩ := Td.t4 (show Td K H v (.tuple [.str "test", .str sg, a.d, b.d]) from hv)
  cases h1.str_inv
  cases h2.str_inv
  walk_at "q"
  refine ⟨le_of (by simp), two_in _ _ _ _ _ fun H1 e1 => ?_⟩
  have hp1 := e1.tup hp
  walk_at "q"
  refine ⟨_, a, 2, rfl, h3.fr e1, ha, by decide, by have := sum_deep ha; omega, fun p2 H2 e2 _ h2l => ?_⟩
  have hp2 := e2.tup hp1
  walk_at "q"
  refine ⟨_, b, 2, rfl, (h4.fr e1).fr e2, hb, by decide, by have := sum_deep hb; omega, fun p3 H3 e3 _ h3l => ?_⟩
  have l1 := sumV_len ha
  have l2 := sumV_len hb
  refine g_addL (e3.at h2l (fun z => nomatch z)) h3l (le_of (by rw [List.length_map, List.length_map]; omega)) fun p4 hp4 => ?_
  have ee := (e1.trans e2).trans e3
  refine q _ _ (ee.trans (Fr.new hp4)) (ee.back (fun z => nomatch z) hp4) ?_
  rw [upd_same, ← List.map_append]
  rfl
def headP : PartE → Str
 | .atom no _ _ => if no then "not" else "atom"
 | .lt _ _ => "let"
 | .test _ _ _ => "test"
theorem part_head {K : PySem.W.Frag} {H : Hp} {p : PartE} {v : V} (h : Td K H v p.d) : ∃ a xs hd, v = .ref a ∧ SqT K H a (.str hd :: xs) ∧ hd = headP p := by
 cases p with
 | atom no x ts =>
  obtain ⟨a, y1, y2, y3, rfl, ha, h1, h2, h3⟩ := Td.t3 (show Td K H v (.tuple [.str (if no then "not" else "atom"), .str x, .tuple (ts.map TermE.d)]) from h)
  cases h1.str_inv
  exact ⟨a, _, _, rfl, ha, rfl⟩
 | lt x e =>
  obtain ⟨a, y1, y2, y3, rfl, ha, h1, h2, h3⟩ := Td.t3 (show Td K H v (.tuple [.str "let", .str x, e.d]) from h)
  cases h1.str_inv
  exact ⟨a, _, _, rfl, ha, rfl⟩
 | test sg a b =>
  obtain ⟨p, y1, y2, y3, y4, rfl, hp, h1, h2, h3, h4⟩ := Td.t4 (show Td K H v (.tuple [.str "test", .str sg, a.d, b.d]) from h)
  cases h1.str_inv
  exact ⟨p, _, _, rfl, hp, rfl⟩
theorem ok_wanted {f : Addr} {fd : FuncData} (F : FnP K "wanted" s_wanted f fd) (C_part_variables : CalG P w K mg base 6 "part_variables" (spNames1 K PartE.d PartA partV)) : FnG P w K mg base CX0 7 f fd ["part"] (spNames1 K PartE.d PartA wantV) := by
 refine okG F sc_wanted (fun vs H Q E h => ?_) (fun cdv A outer s H vs Q E hr h => ?_)
 ·obtain ⟨v, a, rfl, _⟩ := h
  rfl
 obtain ⟨v, p, rfl, hv, hp, q⟩ := h
 refine ⟨_, PSs.nox (pss_one (ps_ret (pe_ifExp (pt_cmpR (kOp (K := K) (r := uEq) rfl (opu_eq hr.units)) (pe_ix (kIx (K := K) (r := rIx) rfl ix_seq) (pv 0) pe_int (fun _ _ => rfl)) pe_str (nomark _)) (pe_slice (kSl (K := K) (r := rSlL) rfl sl_list) (pe_calG C_part_variables hr rfl (pa_cons (pv 0) pa_nil)) (po_some pe_int) po_none) (pe_calG C_part_variables hr rfl (pa_cons (pv 0) pa_nil))))), rd_start (σ0 := [some v]) rfl ?_⟩
 obtain ⟨a, xs, hd, rfl, ha, hh⟩ := part_head hv
 walk_at "q"
 refine g_ixT ha (atI_nat (j := 0) rfl) ?_
 walk_at "q"
 have hlet : (∃ x e, p = .lt x e ∧ hd = "let") ∨ (hd ≠ "let" ∧ wantV p = partV p) := by
  cases p with
  | lt x e => exact .inl ⟨x, e, rfl, hh⟩
  | atom no x ts => exact .inr ⟨by rw [hh]; cases no; exact (show ¬ (("atom" : Str) = "let") by decide +kernel); exact (show ¬ (("not" : Str) = "let") by decide +kernel), rfl⟩
  | test s a b => exact .inr ⟨by rw [hh]; exact (show ¬ (("test" : Str) = "let") by decide +kernel), rfl⟩
 rcases hlet with ⟨x, e, rfl, rfl⟩ | ⟨hn, hw⟩
 ·refine g_tt (by decide +kernel) ?_
  walk_at "q"
  refine ⟨_, _, rfl, hv, hp, fun p1 H1 e1 _ h1 => ?_⟩
  walk_at "q"
  refine g_slL (SqL.of h1) fun p2 hp2 => ?_
  refine q _ _ (e1.trans (Fr.new hp2)) (e1.back (fun z => nomatch z) hp2) ?_
  rw [upd_same]
  rw [show cutV ((partV (.lt x e)).map V.str) (some 1) none = ((partV (.lt x e)).map V.str).drop 1 from cutA _ 1]
  rfl
 ·refine g_ff (decide_eq_false hn) ?_
  walk_at "q"
  refine ⟨_, _, rfl, hv, hp, fun p1 H1 e1 hn1 h1 => ?_⟩
  exact q _ _ e1 hn1 (by rw [hw]; exact h1)
theorem ok_given_by {f : Addr} {fd : FuncData} (F : FnP K "given_by" s_given_by f fd) (C_part_variables : CalG P w K mg base 6 "part_variables" (spNames1 K PartE.d PartA partV)) : FnG P w K mg base CX0 7 f fd ["part"] (spNames1 K PartE.d PartA giveV) := by
 refine okG F sc_given_by (fun vs H Q E h => ?_) (fun cdv A outer s H vs Q E hr h => ?_)
 ·obtain ⟨v, a, rfl, _⟩ := h
  rfl
 obtain ⟨v, p, rfl, hv, hp, q⟩ := h
 refine ⟨_, PSs.nox (pss_cons (ps_if (pt_cmpR (kOp (K := K) (r := uEq) rfl (opu_eq hr.units)) (pe_ix (kIx (K := K) (r := rIx) rfl ix_seq) (pv 0) pe_int (fun _ _ => rfl)) pe_str (nomark _)) (pss_one (ps_ret (pe_calG C_part_variables hr rfl (pa_cons (pv 0) pa_nil)))) pss_nil)
 (pss_one (ps_ret (pe_ifExp (pt_cmpR (kOp (K := K) (r := uEq) rfl (opu_eq hr.units)) (pe_ix (kIx (K := K) (r := rIx) rfl ix_seq) (pv 0) pe_int (fun _ _ => rfl)) pe_str (nomark _)) (pe_lst (pa_cons (pe_ix (kIx (K := K) (r := rIx) rfl ix_seq) (pv 0) pe_int (fun _ _ => rfl)) pa_nil)) (pe_lst pa_nil))))), rd_start (σ0 := [some v]) rfl ?_⟩
 cases p with
 | atom no x ts =>
  obtain ⟨a, y1, y2, y3, rfl, ha, h1, h2, h3⟩ := Td.t3 (show Td K H v (.tuple [.str (if no then "not" else "atom"), .str x, .tuple (ts.map TermE.d)]) from hv)
  cases h1.str_inv
  cases no with
  | false =>
   walk_at "q"
   exact ⟨_, _, rfl, hv, hp, q⟩
  | true =>
   walk_at "q"
   refine ⟨le_of (by simp), fun p2 hp2 => ?_⟩
   exact q _ _ (Fr.new hp2) hp2 upd_same
 | lt x e =>
  obtain ⟨a, y1, y2, y3, rfl, ha, h1, h2, h3⟩ := Td.t3 (show Td K H v (.tuple [.str "let", .str x, e.d]) from hv)
  cases h1.str_inv
  cases h2.str_inv
  walk_at "q"
  refine ⟨le_of (by simp), fun p2 hp2 => ?_⟩
  exact q _ _ (Fr.new hp2) hp2 upd_same
 | test sg a b =>
  obtain ⟨p, y1, y2, y3, y4, rfl, hp, h1, h2, h3, h4⟩ := Td.t4 (show Td K H v (.tuple [.str "test", .str sg, a.d, b.d]) from hv)
  cases h1.str_inv
  walk_at "q"
  refine ⟨le_of (by simp), fun p2 hp2 => ?_⟩
  exact q _ _ (Fr.new hp2) hp2 upd_same
end
def spOnce (K : PySem.W.Frag) : Sp := fun vs H Q _ => ∃ (p : Addr) (ws : List Str), vs = [.ref p] ∧ SqL K H p (ws.map V.str) ∧ ws.length ≤ 500 ∧ ∀ r H', Fr [] H H' → H r = none → H' r = some (.lst ((onceA [] ws).map V.str)) → Q (.ref r) H'
def partsA (ps : List PartE) : Prop := ps.length ≤ 10 ∧ ∀ p ∈ ps, PartA p
def partsDd (ps : List PartE) : PyData := .tuple (ps.map PartE.d)
abbrev s_once : Stmt := topS 5
theorem sc_once : FnScope ["names", "name"] ["names"] (defScope s_once) := ⟨rfl, rfl, rfl, by decide +kernel, rfl, by decide +kernel, by decide +kernel⟩
abbrev s_variables : Stmt := topS 6
theorem sc_variables : FnScope ["parts", "name", "part"] ["parts"] (defScope s_variables) := ⟨rfl, rfl, rfl, by decide +kernel, rfl, by decide +kernel, by decide +kernel⟩
section
variable {P : Program} {w : World} {K : PySem.W.Frag} {mg : Str → Option Value} {base : Heap}
theorem onceA_len (ws : List Str) : ∀ acc : List Str, (onceA acc ws).length ≤ acc.length + ws.length := by
 induction ws with
 | nil => exact fun acc => Nat.le_refl _
 | cons x r ih =>
  intro acc
  have h := ih (addL acc x)
  have h2 := addL_len acc x
  show (onceA (addL acc x) r).length ≤ acc.length + (r.length + 1)
  omega
theorem onceA_snoc (ws : List Str) (x : Str) (acc : List Str) : onceA acc (ws ++ [x]) = addL (onceA acc ws) x := by
 unfold onceA
 rw [List.foldl_append]
 rfl
theorem ok_once {f : Addr} {fd : FuncData} (F : FnP K "once" s_once f fd) (B : BiL mg) : FnG P w K mg base CX0 2 f fd ["names"] (spOnce K) := by
 refine okG F sc_once (fun vs H Q E h => ?_) (fun cdv A outer s H vs Q E hr h => ?_)
 ·obtain ⟨v, a, rfl, _⟩ := h
  rfl
 obtain ⟨p, ws, rfl, hp, hl, q⟩ := h
 refine ⟨_, PSs.nox (pss_one (ps_ret (pe_callTy (kCall (K := K) (r := uList) rfl callu_list) (by rfl) B.b_list (by decide +kernel) (pa_cons (pe_dc (own := [("name", 1)]) (g := gName 1) (tt := tYes) rfl sc_once.nd (pi_listK (K := K) rfl (pv 0)) (blkOk_by (own := [("name", 1)]) (N := ["names", "name"]) (sc := defScope s_once) (by decide +kernel)) (fun _ _ _ _ _ => by exact (pg_name (i := 1) sc_once.nd rfl (by first | exact Or.inl rfl | exact Or.inr rfl))) (fun _ _ _ _ _ => pts_nil) (fun _ _ _ _ _ => by exact (pv 1)) (fun _ _ _ _ _ => by exact pe_bl)) pa_nil)))), rd_start (σ0 := [some (.ref p), none]) rfl ?_⟩
 walk_at "q"
 refine ⟨p, rfl, ⟨_, hp⟩, fun D hD => dc_it (walk_list (xs := ws.map V.str)) (fun i H' => Fr [] H H' ∧ H' D = some (.dK (kvT (onceA [] (ws.take i))))) ⟨Fr.new hD, upd_same⟩ (fun i H' _ h => h.1.seq (fun z => nomatch z) hp) (fun i x H' H'' hi h y => ?_) (fun H' h => ?_)⟩
 ·obtain ⟨rfl, hx⟩ := y
  obtain ⟨e1, h1⟩ := h
  obtain ⟨z, hz, rfl⟩ := List.mem_map.mp (List.mem_of_getElem? hx)
  have hz2 : ws[i]? = some z := by
   rw [List.getElem?_map] at hx
   cases hw : ws[i]? with
   | none => rw [hw] at hx; cases hx
   | some u => rw [hw] at hx; cases hx; rfl
  walk_at "q"
  refine ⟨rfl, ?_⟩
  walk_at "q"
  refine ⟨_, Sum.inr z, rfl, h1, lt_of ?_, e1.over hD, ?_⟩
  ·unfold kvT
   rw [List.length_map]
   have := onceA_len (ws.take i) []
   rw [List.length_take, List.length_nil] at this
   omega
  ·rw [upd_same, putK_T, List.take_succ, hz2]
   show _ = some (HO.dK (kvT (onceA [] (ws.take i ++ [z]))))
   rw [onceA_snoc]
 ·obtain ⟨e1, h1⟩ := h
  refine g_listD h1 fun l hl2 => ?_
  refine q l _ (e1.trans (Fr.new hl2)) (e1.back (fun z => nomatch z) hl2) ?_
  rw [upd_same, List.length_map, List.take_length]
  unfold kvT
  rw [List.map_map]
  rfl
theorem flat_len {ps : List PartE} (h : ∀ p ∈ ps, PartA p) : (ps.flatMap partV).length ≤ ps.length * 8 := by
 induction ps with
 | nil => exact Nat.le_refl _
 | cons p r ih =>
  have h1 := partV_len (h p List.mem_cons_self)
  have h2 := ih fun x hx => h x (List.mem_cons_of_mem _ hx)
  simp only [List.flatMap_cons, List.length_append, List.length_cons, Nat.succ_mul]
  omega
theorem ok_variables {f : Addr} {fd : FuncData} (F : FnP K "variables" s_variables f fd) (C_once : CalG P w K mg base 2 "once" (spOnce K)) (C_part_variables : CalG P w K mg base 6 "part_variables" (spNames1 K PartE.d PartA partV)) :
  FnG P w K mg base CX0 7 f fd ["parts"] (spNames1 K partsDd partsA fun ps => onceA [] (ps.flatMap partV)) := by
 refine okG F sc_variables (fun vs H Q E h => ?_) (fun cdv A outer s H vs Q E hr h => ?_)
 ·obtain ⟨v, a, rfl, _⟩ := h
  rfl
 obtain ⟨v, ps, rfl, hv, hp, q⟩ := h
 obtain ⟨r, us, rfl, hr3, ht⟩ := Td.tuple_inv (show Td K H v (.tuple (ps.map PartE.d)) from hv)
 obtain ⟨k1, k2⟩ := tda_get ht
 refine ⟨_, PSs.nox (pss_one (ps_ret (pe_calG C_once hr rfl (pa_cons (pe_lc2 (own := [("part", 2), ("name", 1)]) (vs1 := [1]) (g := gName 2) (g1 := gName 1) (tt := tYes) (tt1 := tYes) rfl sc_variables.nd (pi_tupK (K := K) rfl (pv 0)) (blkOk_by (own := [("part", 2), ("name", 1)]) (N := ["parts", "name", "part"]) (sc := defScope s_variables) (by decide +kernel)) (by decide) (fun _ _ _ _ _ => by exact (pg_name (i := 2) sc_variables.nd rfl (by first | exact Or.inl rfl | exact Or.inr rfl))) (fun _ _ _ _ _ => pts_nil) (fun _ _ _ _ _ => by exact (pi_listK (K := K) rfl (pe_calG C_part_variables hr rfl (pa_cons (pv 2) pa_nil)))) (fun _ _ _ _ _ => by exact (pg_name (i := 1) sc_variables.nd rfl (by first | exact Or.inl rfl | exact Or.inr rfl))) (fun _ _ _ _ _ => pts_nil) (fun _ _ _ _ _ => by exact (pv 1))) pa_nil)))), rd_start (σ0 := [some (.ref r), none, none]) rfl ?_⟩
 walk_at "q"
 refine ⟨r, rfl, ⟨_, hr3⟩, fun D hD => lc2_out (walk_tup (xs := us)) (fun i H' => Fr [] H H' ∧ H' D = some (.lst (((ps.take i).flatMap partV).map V.str))) ⟨Fr.new hD, upd_same⟩ (fun i H' _ h => h.1.tup hr3) (fun i x H' H'' hi h y => ?_) (fun H' h => ?_)⟩
 ·obtain ⟨rfl, hx⟩ := y
  obtain ⟨e1, h1⟩ := h
  obtain ⟨p, hpp, htd⟩ := k2 i x hx
  have hpA := hp.2 p (List.mem_of_getElem? hpp)
  have step : (ps.take (i + 1)).flatMap partV = (ps.take i).flatMap partV ++ partV p := by rw [List.take_succ, hpp, List.flatMap_append]; simp
  have len1 : ((ps.take i).flatMap partV).length ≤ 80 := by
   have := flat_len (ps := ps.take i) fun p hp' => hp.2 p (List.mem_of_mem_take hp')
   rw [List.length_take] at this
   have := hp.1
   omega
  have len2 := partV_len hpA
  walk_at "q"
  refine ⟨rfl, ?_⟩
  walk_at "q"
  refine ⟨x, p, rfl, htd.fr e1, hpA, fun l H2 e2 hn2 h2 => ?_⟩
  have hD2 := e2.at h1 (fun z => nomatch z)
  have hlD : l ≠ D := fun e => by rw [e, h1] at hn2; cases hn2
  refine ⟨l, rfl, ⟨_, SqL.of h2⟩, lc2_in (walk_list (xs := (partV p).map V.str)) (fun j H' => Fr [] H H' ∧ H' l = some (.lst ((partV p).map V.str)) ∧ H' D = some (.lst (((ps.take i).flatMap partV ++ (partV p).take j).map V.str))) ⟨e1.trans e2, h2, by rw [List.take_zero, List.append_nil]; exact hD2⟩ (fun i H' _ h => SqL.of h.2.1) (fun j y H3 H4 hj h yy => ?_) (fun H3 h => ?_)⟩
  ·obtain ⟨rfl, hy⟩ := yy
   obtain ⟨e3, h3, h4⟩ := h
   have hy2 : ∃ z, (partV p)[j]? = some z ∧ y = .str z := by
    rw [List.getElem?_map] at hy
    cases hw : (partV p)[j]? with
    | none => rw [hw] at hy; cases hy
    | some u => rw [hw] at hy; cases hy; exact ⟨u, rfl, rfl⟩
   obtain ⟨z, hz, rfl⟩ := hy2
   walk_at "q"
   refine ⟨rfl, ?_⟩
   walk_at "q"
   refine ⟨_, h4, lt_of (by rw [List.length_map, List.length_append, List.length_take]; omega), e3.over hD, by rw [upd_ne hlD]; exact h3, ?_⟩
   rw [upd_same, List.take_succ, hz, ← List.append_assoc]
   simp only [Option.toList, List.map_append, List.map_cons, List.map_nil]
  ·obtain ⟨e3, h3, h4⟩ := h
   rw [List.length_map, List.take_length] at h4
   exact ⟨e3, by rw [step]; exact h4⟩
 ·obtain ⟨e1, h1⟩ := h
  rw [k1, List.take_length] at h1
  have hfl := flat_len hp.2
  walk_at "q"
  refine ⟨D, _, rfl, SqL.of h1, by have := hp.1; omega, fun r2 H2 e2 hn h2 => ?_⟩
  exact q _ _ (e1.trans e2) (e1.back (fun z => nomatch z) hn) h2
end
def readyB (ps : List PartE) (xs : List Str) (k : Nat) : Bool := match ps[k]? with
 | some p => !decide (headP p = "atom") && (wantV p).all fun x => decide (x ∈ xs)
 | none => false
def atomB (ps : List PartE) (k : Nat) : Bool := match ps[k]? with
 | some p => decide (headP p = "atom")
 | none => false
def nextP (ps : List PartE) (ns : List Nat) (xs : List Str) : Option Nat := match ns.find? (readyB ps xs) with
 | some k => some k
 | none => (ns.filter (atomB ps)).head?
def nextV : Option Nat → V
 | some k => .int (k : Int)
 | none => .non
def natsV (ns : List Nat) : List V := ns.map fun k : Nat => V.int (k : Int)
def spNext (K : PySem.W.Frag) : Sp := fun vs H Q _ => ∃ (v : V) (l bd : Addr) (ps : List PartE) (ns : List Nat) (xs : List Str), vs = [v, .ref l, .ref bd] ∧ Td K H v (partsDd ps) ∧ partsA ps ∧ SqL K H l (natsV ns) ∧ ns.length ≤ 10 ∧ (∀ k ∈ ns, k < ps.length) ∧ H bd = some (.dK (kvT xs)) ∧
 ∀ H', Fr [] H H' → Q (nextV (nextP ps ns xs)) H'
abbrev s_next_place : Stmt := topS 7
theorem sc_next_place : FnScope ["parts", "left", "bound", "place", "atoms", "name"] ["parts", "left", "bound"] (defScope s_next_place) := ⟨rfl, rfl, rfl, by decide +kernel, rfl, by decide +kernel, by decide +kernel⟩
section
variable {P : Program} {w : World} {K : PySem.W.Frag} {mg : Str → Option Value} {base : Heap}
structure BiN (mg : Str → Option Value) : Prop where
 b_all : mg "all" = none
 b_list : mg "list" = none
 b_range : mg "range" = none
 b_len : mg "len" = none
theorem atI_natsV {ns : List Nat} {i : Nat} {x : V} (h : (natsV ns)[i]? = some x) : ∃ k, ns[i]? = some k ∧ x = .int (k : Int) := by
 unfold natsV at h
 rw [List.getElem?_map] at h
 cases e : ns[i]? with
 | none => rw [e] at h; cases h
 | some k => rw [e] at h; cases h; exact ⟨k, rfl, rfl⟩
theorem ok_next_place {f : Addr} {fd : FuncData} (F : FnP K "next_place" s_next_place f fd) (B : BiN mg) (C_wanted : CalG P w K mg base 7 "wanted" (spNames1 K PartE.d PartA wantV)) : FnG P w K mg base CX0 8 f fd ["parts", "left", "bound"] (spNext K) := by
 refine okG F sc_next_place (fun vs H Q E h => ?_) (fun cdv A outer s H vs Q E hr h => ?_)
 ·obtain ⟨v, l, bd, ps, ns, xs, rfl, _⟩ := h
  rfl
 obtain ⟨v, l, bd, ps, ns, xs, rfl, hv, hp, hl, hnl, hnp, hbd, q⟩ := h
 have hu := hu_of hr.rm
 obtain ⟨r, us, rfl, hr3, ht⟩ := Td.tuple_inv (show Td K H v (.tuple (ps.map PartE.d)) from hv)
 obtain ⟨k1, k2⟩ := tda_get ht
 have part : ∀ (H' : Hp) (k : Nat), Fr [] H H' → k < ps.length → ∃ p y, ps[k]? = some p ∧ atI us (k : Int) = some y ∧ Td K H' y p.d ∧ PartA p := fun H' k e hk => by
  have hku : k < us.length := by omega
  obtain ⟨p, hpp, htd⟩ := k2 k us[k] (List.getElem?_eq_getElem hku)
  exact ⟨p, us[k], hpp, atI_nat (List.getElem?_eq_getElem hku), htd.fr e, hp.2 p (List.mem_of_getElem? hpp)⟩
 refine ⟨_, PSs.nox (pss_cons (ps_for PassesOwn.never rfl (pi_listK (K := K) rfl (pv 1)) (pg_name (i := 3) sc_next_place.nd rfl (by first | exact Or.inl rfl | exact Or.inr rfl)) (pss_one (ps_if (PW.pt (pw_and (pt_cmpR (kOp (K := K) (r := uNe) rfl (opu_ne hr.units)) (pe_ix (kIx (K := K) (r := rIx) rfl ix_seq) (pe_ix (kIx (K := K) (r := rIx) rfl ix_seq) (pv 0) (pv 3) (fun _ _ => rfl)) pe_int (fun _ _ => rfl)) pe_str (nomark _)) (pw_and1 (pt_val (pe_callB (kCall (K := K) (r := rAll) rfl (cr_all rfl)) (by rfl) B.b_all (by decide +kernel) (pa_cons (pe_lc (own := [("name", 5)]) (g := gName 5) (tt := tYes) rfl sc_next_place.nd (pi_listK (K := K) rfl (pe_calG C_wanted hr rfl (pa_cons (pe_ix (kIx (K := K) (r := rIx) rfl ix_seq) (pv 0) (pv 3) (fun _ _ => rfl)) pa_nil))) (blkOk_by (own := [("name", 5)]) (N := ["parts", "left", "bound", "place", "atoms", "name"]) (sc := defScope s_next_place) (by decide +kernel)) (fun _ _ _ _ _ => (by exact (pg_name (i := 5) sc_next_place.nd rfl (by first | exact Or.inl rfl | exact Or.inr rfl)))) (fun _ _ _ _ _ => pts_nil) (fun _ _ _ _ _ => (by exact (pe_cmp (pc_din hu (pv 5) (pv 2)))))) pa_nil)))))) (pss_one (ps_ret (pv 3))) pss_nil)))
 (pss_cons (ps_setLc (i := 4) (own := [("place", 3)]) (g := gName 3) rfl sc_next_place.nd rfl rfl (sw_true rfl rfl rfl (by decide +kernel)) (pi_listK (K := K) rfl (pv 1)) (blkOk_by (own := [("place", 3)]) (N := ["parts", "left", "bound", "place", "atoms", "name"]) (sc := defScope s_next_place) (by decide +kernel)) (fun _ _ _ _ _ => (by exact (pg_name (i := 3) sc_next_place.nd rfl (by first | exact Or.inl rfl | exact Or.inr rfl)))) (fun _ _ _ _ _ => (by exact pts_one (pt_cmpR (kOp (K := K) (r := uEq) rfl (opu_eq hr.units)) (pe_ix (kIx (K := K) (r := rIx) rfl ix_seq) (pe_ix (kIx (K := K) (r := rIx) rfl ix_seq) (pv 0) (pv 3) (fun _ _ => rfl)) pe_int (fun _ _ => rfl)) pe_str (nomark _)))) (fun _ _ _ _ _ => (by exact (pv 3))))
 (pss_one (ps_ret (pe_ifExp (pt_cmpR (kOp (K := K) (r := uNe) rfl (opu_ne hr.units)) (pv 4) (pe_lst pa_nil) (nomark _)) (pe_ix (kIx (K := K) (r := rIx) rfl ix_seq) (pv 4) pe_int (fun _ _ => rfl)) pe_non))))), rd_start (σ0 := [some (.ref r), some (.ref l), some (.ref bd), none, none, none]) rfl ?_⟩
 walk_at "q"
 refine ⟨l, rfl, ⟨_, hl⟩, for_list (xs := natsV ns) (fun i σ H' => (∃ z1 z2 z3, σ = [some (.ref r), some (.ref l), some (.ref bd), z1, z2, z3]) ∧ Fr [] H H' ∧ (ns.take i).find? (readyB ps xs) = none) ⟨⟨_, _, _, rfl⟩, .refl, rfl⟩ (fun i σ H' _ h => h.2.1.seq (fun z => nomatch z) hl) (fun i x σ H1 hx h => ?_) (fun σ H1 h => ?_)⟩
 ·obtain ⟨⟨z1, z2, z3, rfl⟩, e1, hnone⟩ := h
  obtain ⟨k, hk, rfl⟩ := atI_natsV hx
  obtain ⟨p, y, hpp, hy, htd, hpA⟩ := part H1 k e1 (hnp k (List.mem_of_getElem? hk))
  obtain ⟨a, ys, hd, rfl, ha, hh⟩ := part_head htd
  have hrdy : readyB ps xs k = (!decide (hd = "atom") && (wantV p).all fun x => decide (x ∈ xs)) := by unfold readyB; rw [hpp, hh]
  have next1 : ∀ b, readyB ps xs k = b → b = false → (ns.take (i + 1)).find? (readyB ps xs) = none := fun b hb e => by
   rw [List.take_succ, hk, List.find?_append, hnone]
   show ([k] : List Nat).find? _ = none
   rw [List.find?_cons_of_neg (by rw [hb, e]; exact Bool.false_ne_true)]
   rfl
  walk_at "q"
  refine g_ixT (e1.tup hr3) hy ?_
  walk_at "q"
  refine g_ixT ha (atI_nat (j := 0) rfl) ?_
  have hr1 := e1.tup hr3
  walk_at "q"
  refine g_byN (fun c => ?_) (fun c => ?_)
  ·walk_at "q"
   refine g_ixT hr1 hy ?_
   walk_at "q"
   refine ⟨_, p, rfl, htd, hpA, fun l1 H2 e2 hn2 h2 => ?_⟩
   have hbd2 := (e1.trans e2).at hbd (fun z => nomatch z)
   have hwl : (wantV p).length ≤ 8 := by
    have h8 := partV_len hpA
    cases p with
    | lt x e => exact Nat.le_trans (Nat.le_succ _) h8
    | atom => exact h8
    | test => exact h8
   refine ⟨l1, rfl, ⟨_, SqL.of h2⟩, fun D hD => lc_map (walk_list (xs := (wantV p).map V.str)) (ys := (wantV p).map fun x => V.bl (decide (x ∈ xs))) (fun H' e => SqL.of (e.at h2 (fun z => nomatch z))) rfl (by rw [List.length_map, List.length_map]) (by rw [List.length_map]; omega) hD (fun i x y H' A hx hy e k => ?_) (fun H3 e3 h3 => ?_)⟩
   ·rw [List.getElem?_map] at hx hy
    cases hw : (wantV p)[i]? with
    | none => rw [hw] at hx; cases hx
    | some z =>
     rw [hw] at hx hy
     cases hx
     cases hy
     walk_at "q"
     refine ⟨rfl, ?_⟩
     walk_at "q"
     refine g_dinS (z := z) (A := fun b => A (.bl b) H') (e.at hbd2 (fun z => nomatch z)) ?_
     rw [kvT_val]
     exact k _ Fr.refl
   ·walk_at "q"
    refine ⟨D, (wantV p).map fun x => decide (x ∈ xs), rfl, SqL.of (by rw [h3, List.map_map]; rfl), ?_⟩
    have e13 := (e1.trans e2).trans e3
    have hall : ((wantV p).map fun x => decide (x ∈ xs)).all id = readyB ps xs k := by
     rw [hrdy, decide_eq_false c, List.all_map]
     rfl
    rw [hall]
    walk_at "q"
    refine g_byB (fun c2 => ?_) (fun c2 => ?_)
    ·walk_at "q"
     have hf : nextP ps ns xs = some k := by
      unfold nextP
      have : ns.find? (readyB ps xs) = some k := by
       rw [← List.take_append_drop i ns, List.find?_append, hnone]
       have hd : ns.drop i = k :: ns.drop (i + 1) := by
        have hi : i < ns.length := (List.getElem?_eq_some_iff.mp hk).1
        rw [List.drop_eq_getElem_cons hi]
        rw [(List.getElem?_eq_some_iff.mp hk).2]
       show (ns.drop i).find? _ = _
       rw [hd, List.find?_cons_of_pos (by exact c2)]
      rw [this]
     have z := q _ e13
     rw [hf] at z
     exact z
    ·walk_at "q"
     exact ⟨⟨_, _, _, rfl⟩, e13, next1 _ rfl c2⟩
  ·walk_at "q"
   exact ⟨⟨_, _, _, rfl⟩, e1, next1 _ rfl (by rw [hrdy, decide_eq_true c]; rfl)⟩
 ·obtain ⟨⟨z1, z2, z3, rfl⟩, e1, hnone⟩ := h
  have hl1 := e1.seq (fun z => nomatch z) hl
  have hr1 := e1.tup hr3
  have hnn : ns.find? (readyB ps xs) = none := by
   unfold natsV at hnone
   rw [List.length_map, List.take_length] at hnone
   exact hnone
  have hf : nextP ps ns xs = (ns.filter (atomB ps)).head? := by unfold nextP; rw [hnn]
  walk_at "q"
  refine ⟨l, rfl, ⟨_, hl1⟩, fun D hD => lc_it (walk_list (xs := natsV ns)) (fun i H' => Fr [] H1 H' ∧ H' D = some (.lst (natsV ((ns.take i).filter (atomB ps))))) ⟨Fr.new hD, upd_same⟩ (fun i H' _ h => h.1.seq (fun z => nomatch z) hl1) (fun i x H' H'' hi h y => ?_) (fun H2 h => ?_)⟩
  ·obtain ⟨rfl, hx⟩ := y
   obtain ⟨e2, h2⟩ := h
   obtain ⟨k, hk, rfl⟩ := atI_natsV hx
   obtain ⟨p, y, hpp, hy, htd, hpA⟩ := part H'' k (e1.trans e2) (hnp k (List.mem_of_getElem? hk))
   obtain ⟨a, ys, hd, rfl, ha, hh⟩ := part_head htd
   have hat : atomB ps k = decide (hd = "atom") := by unfold atomB; rw [hpp, hh]
   have len : ((ns.take i).filter (atomB ps)).length ≤ 10 := Nat.le_trans (List.length_filter_le _ _) (by rw [List.length_take]; omega)
   walk_at "q"
   refine ⟨rfl, ?_⟩
   walk_at "q"
   refine g_ixT (e2.tup hr1) hy ?_
   walk_at "q"
   refine g_ixT ha (atI_nat (j := 0) rfl) ?_
   walk_at "q"
   refine g_by (fun c => ?_) (fun c => ?_)
   ·walk_at "q"
    refine ⟨_, h2, lt_of (by unfold natsV; rw [List.length_map]; omega), e2.over hD, ?_⟩
    rw [upd_same, List.take_succ, hk, List.filter_append]
    show _ = some (HO.lst (natsV (_ ++ ([k] : List Nat).filter (atomB ps))))
    rw [List.filter_cons_of_pos (by rw [hat]; exact decide_eq_true c)]
    unfold natsV
    rw [List.map_append]
    rfl
   ·refine ⟨e2, ?_⟩
    rw [h2, List.take_succ, hk, List.filter_append]
    show _ = some (HO.lst (natsV (_ ++ ([k] : List Nat).filter (atomB ps))))
    rw [List.filter_cons_of_neg (by rw [hat, decide_eq_false c]; exact Bool.false_ne_true)]
    simp
  ·obtain ⟨e2, h2⟩ := h
   rw [show (natsV ns).length = ns.length from List.length_map .., List.take_length] at h2
   walk_at "q"
   refine ⟨le_of (by decide), fun p4 hp4 => ?_⟩
   have e4 : Fr [] H2 (upd H2 p4 (.lst [])) := Fr.new hp4
   have hn4 : (upd H2 p4 (.lst [])) p4 = some (.lst []) := upd_same
   have h4 := e4.at h2 (fun z => nomatch z)
   have e14 := (e1.trans e2).trans e4
   generalize upd H2 p4 (.lst []) = H4 at *
   refine g_neEL (SqL.of h4) (SqL.of hn4) ?_
   have z := q _ e14
   rw [hf] at z
   cases hfl : ns.filter (atomB ps) with
   | nil =>
    rw [hfl] at z
    walk_at "q"
    exact z
   | cons k r =>
    rw [hfl] at z h4
    walk_at "q"
    refine g_tt (by rfl) ?_
    walk_at "q"
    refine g_ixL (SqL.of h4) (atI_nat (j := 0) rfl) ?_
    exact z
end
def addAll (xs ys : List Str) : List Str := ys.foldl addL xs
theorem addAll_mem {ys : List Str} : ∀ {xs : List Str} {x : Str}, x ∈ addAll xs ys ↔ x ∈ xs ∨ x ∈ ys := by
 induction ys with
 | nil => intro xs x; simp [addAll]
 | cons y r ih =>
  intro xs x
  show x ∈ addAll (addL xs y) r ↔ _
  rw [ih, addL_mem, List.mem_cons]
  exact or_assoc
theorem addAll_len (ys : List Str) (xs : List Str) : (addAll xs ys).length ≤ xs.length + ys.length := onceA_len ys xs
def orderP (ps : List PartE) : Nat → List Nat → List Str → List Nat
 | 0, _, _ => []
 | f + 1, ns, xs => match nextP ps ns xs with
  | none => []
  | some k => k :: orderP ps f (ns.erase k) (addAll xs (match ps[k]? with
   | some p => giveV p
   | none => []))
theorem nextP_mem {ps : List PartE} {ns : List Nat} {xs : List Str} {k : Nat} (h : nextP ps ns xs = some k) : k ∈ ns := by
 unfold nextP at h
 split at h
 ·rename_i j e
  cases h
  exact List.mem_of_find?_eq_some e
 ·have := List.mem_of_mem_head? h
  exact (List.mem_filter.mp this).1
def giveK (ps : List PartE) (k : Nat) : List Str := match ps[k]? with
 | some p => giveV p
 | none => []
theorem order_none {ps : List PartE} {f : Nat} {ns : List Nat} {xs : List Str} (h : nextP ps ns xs = none) : orderP ps f ns xs = [] := by
 cases f with
 | zero => rfl
 | succ f => unfold orderP; rw [h]
theorem order_some {ps : List PartE} {f : Nat} {ns : List Nat} {xs : List Str} {k : Nat} (h : nextP ps ns xs = some k) (hf : ns.length ≤ f) : orderP ps f ns xs = k :: orderP ps (f - 1) (ns.erase k) (addAll xs (giveK ps k)) := by
  cases f with
  | zero =>
    have := nextP_mem h
    have hn : ns = [] := List.length_eq_zero_iff.mp (by omega)
    rw [hn] at this
    cases this
  | succ f => rw [show f + 1 - 1 = f from rfl]; conv => lhs; unfold orderP; rw [h]
              rfl
def spOrder (K : PySem.W.Frag) : Sp := fun vs H Q _ => ∃ (v : V) (ps : List PartE), vs = [v] ∧ Td K H v (partsDd ps) ∧ partsA ps ∧ ∀ r H', Fr [] H H' → H r = none → H' r = some (.lst (natsV (orderP ps ps.length (List.range ps.length) []))) → Q (.ref r) H'
abbrev s_ordered : Stmt := topS 8
theorem sc_ordered : FnScope ["parts", "left", "found", "bound", "place", "name"] ["parts"] (defScope s_ordered) := ⟨rfl, rfl, rfl, by decide +kernel, rfl, by decide +kernel, by decide +kernel⟩
section
variable {P : Program} {w : World} {K : PySem.W.Frag} {mg : Str → Option Value} {base : Heap}
theorem natsV_erase (ns : List Nat) (k : Nat) (h : k ∈ ns) : ∃ j, ns[j]? = some k ∧ (∀ m : Nat, m < j → ns[m]? ≠ some k) ∧ ns.eraseIdx j = ns.erase k := by
 induction ns with
 | nil => cases h
 | cons a r ih =>
  by_cases e : a = k
  ·subst e
   exact ⟨0, rfl, fun m hm => absurd hm (Nat.not_lt_zero m), by simp⟩
  ·obtain ⟨j, h1, h2, h3⟩ := ih ((List.mem_cons.mp h).resolve_left (Ne.symm e))
   refine ⟨j + 1, by simpa using h1, fun m hm => ?_, ?_⟩
   ·cases m with
    | zero => intro h0; simp at h0; exact e h0
    | succ m => simpa using h2 m (by omega)
   ·rw [List.eraseIdx_cons_succ, h3, List.erase_cons_tail (by simpa using e)]
theorem eraseIdx_map' {α β : Type} (f : α → β) : ∀ (xs : List α) (j : Nat), (xs.map f).eraseIdx j = (xs.eraseIdx j).map f
 | [], _ => rfl
 | _ :: _, 0 => rfl
 | x :: r, j + 1 => by rw [List.map_cons, List.eraseIdx_cons_succ, List.eraseIdx_cons_succ, eraseIdx_map' f r j]; rfl
theorem g_remN {H : Hp} {Q : VK} {l : Addr} {ns : List Nat} {k : Nat} (h : H l = some (.lst (natsV ns))) (hk : k ∈ ns) (q : Q .non (upd H l (.lst (natsV (ns.erase k))))) : rRemI (.ref l) [.int (k : Int)] H Q := by
 obtain ⟨j, h1, h2, h3⟩ := natsV_erase ns k hk
 refine ⟨l, ns.map fun k : Nat => (k : Int), (k : Int), j, rfl, rfl, by rw [h, List.map_map]; rfl, by rw [List.getElem?_map, h1]; rfl, fun m hm e => ?_, ?_⟩
 ·rw [List.getElem?_map] at e
  cases hm2 : ns[m]? with
  | none => rw [hm2] at e; cases e
  | some a =>
   rw [hm2] at e
   have : (a : Int) = (k : Int) := Option.some.inj e
   exact h2 m hm (by rw [hm2]; congr 1; omega)
 ·rw [eraseIdx_map', h3, List.map_map]
  exact q
theorem ok_ordered {f : Addr} {fd : FuncData} (F : FnP K "ordered" s_ordered f fd) (B : BiN mg) (C_next_place : CalG P w K mg base 8 "next_place" (spNext K)) (C_given_by : CalG P w K mg base 7 "given_by" (spNames1 K PartE.d PartA giveV)) : FnG P w K mg base CX0 9 f fd ["parts"] (spOrder K) := by
 refine okG F sc_ordered (fun vs H Q E h => ?_) (fun cdv A outer s H vs Q E hr h => ?_)
 ·obtain ⟨v, ps, rfl, _⟩ := h
  rfl
 obtain ⟨v, ps, rfl, hv, hp, q⟩ := h
 have hu := hu_of hr.rm
 obtain ⟨r, us, rfl, hr3, ht⟩ := Td.tuple_inv (show Td K H v (.tuple (ps.map PartE.d)) from hv)
 obtain ⟨k1, k2⟩ := tda_get ht
 refine ⟨_, PSs.nox (pss_cons (ps_set (i := 1) sc_ordered.nd rfl (.inl rfl) (pe_listRg rfl (by rfl) B.b_list (prg_1 (by rfl) B.b_range (pe_callB (kCall (K := K) (r := uLen) rfl callu_len) (by rfl) B.b_len (by decide +kernel) (pa_cons (pv 0) pa_nil)))))
 (pss_cons (ps_set (i := 2) sc_ordered.nd rfl (.inl rfl) (pe_lst pa_nil))
 (pss_cons (ps_set (i := 3) sc_ordered.nd rfl (.inl rfl) pe_dnewK)
 (pss_cons (ps_set (i := 4) sc_ordered.nd rfl (.inl rfl) (pe_calG C_next_place hr rfl (pa_cons (pv 0) (pa_cons (pv 1) (pa_cons (pv 3) pa_nil)))))
 (pss_cons (ps_while PassesOwn.never (pt_cmpR opu_isNot (pv 4) pe_non (nomark _)) (pss_cons (ps_expr (kBM (K := K) rfl (pe_bm PySem.F.plainAttrs_list PySem.F.slot_list_append PySem.F.type_list_append mt_append (pv 2) (pa_cons (pv 4) pa_nil))))
 (pss_cons (ps_expr (kBM (K := K) rfl (pe_bm PySem.F.plainAttrs_list PySem.F.slot_list_remove PySem.F.type_list_remove mt_remove (pv 1) (pa_cons (pv 4) pa_nil))))
 (pss_cons (ps_for PassesOwn.never rfl (pi_listK (K := K) rfl (pe_calG C_given_by hr rfl (pa_cons (pe_ix (kIx (K := K) (r := rIx) rfl ix_seq) (pv 0) (pv 4) (fun _ _ => rfl)) pa_nil))) (pg_name (i := 5) sc_ordered.nd rfl (by first | exact Or.inl rfl | exact Or.inr rfl)) (pss_one (ps_dput hu (pv 3) (pv 5) pe_bl rfl)))
 (pss_one (ps_set (i := 4) sc_ordered.nd rfl (.inl rfl) (pe_calG C_next_place hr rfl (pa_cons (pv 0) (pa_cons (pv 1) (pa_cons (pv 3) pa_nil))))))))))
 (pss_one (ps_ret (pv 2)))))))), rd_start (σ0 := [some (.ref r), none, none, none, none, none]) rfl ?_⟩
 walk_at "q"
 have hpl := hp.1
 refine ⟨.of_le (by decide) (by omega) (by decide) (by omega), fun L hL => ?_⟩
 rw [k1, rgV_nat]
 have e1 : Fr [] H (upd H L (.lst (natsV (List.range ps.length)))) := Fr.new hL
 have hL1 : (upd H L (.lst (natsV (List.range ps.length)))) L = some (.lst (natsV (List.range ps.length))) := upd_same
 show gName 1 (V.ref L) _ (upd H L (.lst (natsV (List.range ps.length)))) _
 generalize upd H L (.lst (natsV (List.range ps.length))) = H1 at *
 walk_at "q"
 refine ⟨le_of (by simp), fun T hT => ?_⟩
 have e2 : Fr [] H1 (upd H1 T (.lst [])) := Fr.new hT
 have hT2 : (upd H1 T (.lst [])) T = some (.lst (natsV [])) := upd_same
 have hL2 := e2.at hL1 (fun z => nomatch z)
 have hTH := e1.back (fun z => nomatch z) hT
 have hLT : L ≠ T := fun e => by rw [← e, hL1] at hT; cases hT
 generalize upd H1 T (.lst []) = H2 at *
 walk_at "q"
 refine g_dnewK fun d hd => ?_
 have e3 : Fr [] H2 (upd H2 d (.dK [])) := Fr.new hd
 have hd3 : (upd H2 d (.dK [])) d = some (.dK (kvT [])) := upd_same
 have hL3 := e3.at hL2 (fun z => nomatch z)
 have hT3 := e3.at hT2 (fun z => nomatch z)
 have hdH := (e1.trans e2).back (fun z => nomatch z) hd
 have hLd : L ≠ d := fun e => by rw [← e, hL2] at hd; cases hd
 have hTd : T ≠ d := fun e => by rw [← e, hT2] at hd; cases hd
 have E3 := (e1.trans e2).trans e3
 generalize upd H2 d (.dK []) = H3 at *
 walk_at "q"
 refine ⟨_, L, d, ps, List.range ps.length, [], rfl, hv.fr E3, hp, SqL.of hL3, by rw [List.length_range]; omega, fun k hk => List.mem_range.mp hk, hd3, fun H4 e4 => ?_⟩
 have hL4 := e4.at hL3 (fun z => nomatch z)
 have hT4 := e4.at hT3 (fun z => nomatch z)
 have hd4 := e4.at hd3 (fun z => nomatch z)
 have E4 := E3.trans e4
 walk_at "q"
 refine g_while (fun σ H' => ∃ z5 ns xs fs, σ = [some (.ref r), some (.ref L), some (.ref T), some (.ref d), some (nextV (nextP ps ns xs)), z5] ∧ H' L = some (.lst (natsV ns)) ∧ H' T = some (.lst (natsV fs)) ∧ H' d = some (.dK (kvT xs)) ∧ Fr [] H H' ∧ ns.length ≤ 10 ∧ (∀ k ∈ ns, k < ps.length) ∧
   fs ++ orderP ps ns.length ns xs = orderP ps ps.length (List.range ps.length) [] ∧ xs.length + ns.length * 8 ≤ 80 ∧ fs.length + ns.length ≤ 10) (fun σ H' => match H' L with | some (.lst xs) => xs.length | _ => 0)
  ⟨_, List.range ps.length, [], [], rfl, hL4, hT4, hd4, E4, by rw [List.length_range]; omega, fun k hk => List.mem_range.mp hk, by rw [List.length_range]; rfl, by rw [List.length_range, List.length_nil]; omega, by rw [List.length_range, List.length_nil]; omega⟩
  (fun σ H5 h N k => ?_) (fun σ H5 _ A B hAB h => ?_)
 ·obtain ⟨z5, ns, xs, fs, rfl, hL5, hT5, hd5, E5, hn5, hnp5, hord, hx5, hf5⟩ := h
  walk_at "q"
  cases hnx : nextP ps ns xs with
  | none =>
   refine g_ff (by rfl) ?_
   walk_at "q"
   refine q T H5 E5 hTH ?_
   rw [hT5, ← hord, order_none hnx, List.append_nil]
  | some k0 =>
   have hmem := nextP_mem hnx
   have hk0 := hnp5 k0 hmem
   rw [show nextV (some k0) = V.int (k0 : Int) from rfl]
   refine g_tt (by rfl) ?_
   walk_at "q"
   refine g_app hT5 (by unfold natsV; rw [List.length_map]; omega) ?_
   have eT : Fr [T] H5 (upd H5 T (.lst (natsV fs ++ [V.int (k0 : Int)]))) := Fr.mut (List.mem_singleton.mpr rfl) hT5 nofix_lst
   have hT6 : (upd H5 T (.lst (natsV fs ++ [V.int (k0 : Int)]))) T = some (.lst (natsV (fs ++ [k0]))) := by rw [upd_same]; unfold natsV; rw [List.map_append]; rfl
   have hL6 := eT.at hL5 (fun z => hLT (List.mem_singleton.mp z))
   have hd6 := eT.at hd5 (fun z => hTd (List.mem_singleton.mp z).symm)
   have E6 : Fr [] H (upd H5 T (.lst (natsV fs ++ [V.int (k0 : Int)]))) := E5.over hTH
   generalize upd H5 T (.lst (natsV fs ++ [V.int (k0 : Int)])) = H6 at *
   walk_at "q"
   refine g_remN hL6 hmem ?_
   have eL : Fr [L] H6 (upd H6 L (.lst (natsV (ns.erase k0)))) := Fr.mut (List.mem_singleton.mpr rfl) hL6 nofix_lst
   have hL7 : (upd H6 L (.lst (natsV (ns.erase k0)))) L = some (.lst (natsV (ns.erase k0))) := upd_same
   have hT7 := eL.at hT6 (fun z => hLT (List.mem_singleton.mp z).symm)
   have hd7 := eL.at hd6 (fun z => hLd (List.mem_singleton.mp z).symm)
   have E7 : Fr [] H (upd H6 L (.lst (natsV (ns.erase k0)))) := E6.over hL
   generalize upd H6 L (.lst (natsV (ns.erase k0))) = H7 at *
   have hku : k0 < us.length := by omega
   obtain ⟨p, hpp, htd⟩ := k2 k0 us[k0] (List.getElem?_eq_getElem hku)
   have hpA := hp.2 p (List.mem_of_getElem? hpp)
   have hlen := partV_len hpA
   have hgl : (giveV p).length ≤ 8 := by
    cases p with
    | lt x e => exact (show 1 ≤ 8 by decide)
    | atom no x ts => cases no with
     | false => exact hlen
     | true => exact Nat.zero_le _
    | test => exact Nat.zero_le _
   have hgk : giveK ps k0 = giveV p := by unfold giveK; rw [hpp]
   have hel : (ns.erase k0).length = ns.length - 1 := List.length_erase_of_mem hmem
   have hnpos : 0 < ns.length := List.length_pos_of_mem hmem
   repeat walk_at "if"
   refine g_ixT (E7.tup hr3) (atI_nat (List.getElem?_eq_getElem hku)) ?_
   walk_at "q"
   refine ⟨_, p, rfl, htd.fr E7, hpA, fun g H8 e8 hg8 h8 => ?_⟩
   have hL8 := e8.at hL7 (fun z => nomatch z)
   have hT8 := e8.at hT7 (fun z => nomatch z)
   have hd8 := e8.at hd7 (fun z => nomatch z)
   have E8 := E7.trans e8
   have hgd : g ≠ d := fun e => by rw [e, hd7] at hg8; cases hg8
   refine ⟨g, rfl, ⟨_, SqL.of h8⟩, for_list (xs := (giveV p).map V.str) (fun i σ H' => (∃ z5, σ = [some (.ref r), some (.ref L), some (.ref T), some (.ref d), some (.int (k0 : Int)), z5]) ∧ H' g = some (.lst ((giveV p).map V.str)) ∧ H' L = some (.lst (natsV (ns.erase k0))) ∧ H' T = some (.lst (natsV (fs ++ [k0]))) ∧ H' d = some (.dK (kvT (addAll xs ((giveV p).take i)))) ∧ Fr [] H H')
    ⟨⟨_, rfl⟩, h8, hL8, hT8, hd8, E8⟩ (fun i σ H' _ h => SqL.of h.2.1) (fun i x σ H9 hx h => ?_) (fun σ H9 h => ?_)⟩
   ·obtain ⟨⟨z5, rfl⟩, h9, hL9, hT9, hd9, E9⟩ := h
    rw [List.getElem?_map] at hx
    cases hw : (giveV p)[i]? with
    | none => rw [hw] at hx; cases hx
    | some z =>
     rw [hw] at hx
     cases hx
     have hal := addAll_len ((giveV p).take i) xs
     rw [List.length_take] at hal
     walk_at "q"
     refine g_dputS hd9 (by unfold kvT; rw [List.length_map]; omega) ?_
     rw [putK_T]
     have ed : Fr [d] H9 (upd H9 d (.dK (kvT (addL (addAll xs ((giveV p).take i)) z)))) := Fr.mut (List.mem_singleton.mpr rfl) hd9 nofix_dK
     refine ⟨⟨_, rfl⟩, ed.at h9 (fun z => hgd (List.mem_singleton.mp z)), ed.at hL9 (fun z => hLd (List.mem_singleton.mp z)), ed.at hT9 (fun z => hTd (List.mem_singleton.mp z)), ?_, E9.over hdH⟩
     rw [upd_same, List.take_succ, hw]
     show _ = some (HO.dK (kvT (addAll xs (_ ++ [z]))))
     unfold addAll
     rw [List.foldl_append]
     rfl
   ·obtain ⟨⟨z5, rfl⟩, h9, hL9, hT9, hd9, E9⟩ := h
    rw [List.length_map, List.take_length] at hd9
    have hal := addAll_len (giveV p) xs
    walk_at "q"
    refine ⟨_, L, d, ps, ns.erase k0, addAll xs (giveV p), rfl, hv.fr E9, hp, SqL.of hL9, by omega, fun k hk => hnp5 k (List.mem_of_mem_erase hk), hd9, fun H10 e10 => ?_⟩
    walk_at "q"
    have hL10 := e10.at hL9 (fun z => nomatch z)
    refine k _ _ ⟨_, ns.erase k0, addAll xs (giveV p), fs ++ [k0], rfl, hL10, e10.at hT9 (fun z => nomatch z), e10.at hd9 (fun z => nomatch z), E9.trans e10, by omega, fun k hk => hnp5 k (List.mem_of_mem_erase hk), ?_, by omega, by rw [List.length_append, List.length_singleton]; omega⟩ ?_
    ·rw [← hord, order_some hnx (Nat.le_refl _), hgk, hel, List.append_assoc]
     rfl
    ·rw [hL10, hL5]
     show (natsV (ns.erase k0)).length < (natsV ns).length
     unfold natsV
     rw [List.length_map, List.length_map]
     omega
 ·obtain ⟨v, h1, h2, k, hk, r⟩ := h
  exact ⟨v, h1, h2, k, hk, hAB _ _ r⟩
end
abbrev s__law_sum_vars : Stmt := topS 17
theorem sc__law_sum_vars : FnScope ["_law_thing"] ["_law_thing"] (defScope s__law_sum_vars) := ⟨rfl, rfl, rfl, by decide +kernel, rfl, by decide +kernel, by decide +kernel⟩
abbrev s__law_part_vars : Stmt := topS 18
theorem sc__law_part_vars : FnScope ["_law_part", "_law_term"] ["_law_part"] (defScope s__law_part_vars) := ⟨rfl, rfl, rfl, by decide +kernel, rfl, by decide +kernel, by decide +kernel⟩
abbrev s__law_gives : Stmt := topS 19
theorem sc__law_gives : FnScope ["_law_part"] ["_law_part"] (defScope s__law_gives) := ⟨rfl, rfl, rfl, by decide +kernel, rfl, by decide +kernel, by decide +kernel⟩
abbrev s__law_wants : Stmt := topS 20
theorem sc__law_wants : FnScope ["_law_part"] ["_law_part"] (defScope s__law_wants) := ⟨rfl, rfl, rfl, by decide +kernel, rfl, by decide +kernel, by decide +kernel⟩
section
variable {P : Program} {w : World} {K : PySem.W.Frag} {mg : Str → Option Value} {base : Heap}
theorem ok__law_sum_vars {n : Nat} {f : Addr} {fd : FuncData} (F : FnP K "_law_sum_vars" s__law_sum_vars f fd) (C__law_sum_vars : CalG P w K mg base n "_law_sum_vars" (spSumV K n)) : FnG P w K mg base CX0 (n + 1) f fd ["_law_thing"] (spSumV K (n + 1)) := by
 refine okG F sc__law_sum_vars (fun vs H Q E h => ?_) (fun cdv A outer s H vs Q E hr h => ?_)
 ·obtain ⟨v, e, m, rfl, _⟩ := h
  rfl
 obtain ⟨v, e, m, rfl, hv, he, hm, hn, q⟩ := h
 refine ⟨_, PSs.nox (pss_cons (ps_if (pt_cmpR (kOp (K := K) (r := uIn) rfl opu_in) (pe_ix (kIx (K := K) (r := rIx) rfl ix_seq) (pv 0) pe_int (fun _ _ => rfl)) (pe_tup (pa_cons pe_str (pa_cons pe_str pa_nil))) (by rfl)) (pss_one (ps_ret (pe_lst pa_nil))) pss_nil)
 (pss_cons (ps_if (pt_cmpR (kOp (K := K) (r := uEq) rfl (opu_eq hr.units)) (pe_ix (kIx (K := K) (r := rIx) rfl ix_seq) (pv 0) pe_int (fun _ _ => rfl)) pe_str (nomark _)) (pss_one (ps_ret (pe_lst (pa_cons (pe_ix (kIx (K := K) (r := rIx) rfl ix_seq) (pv 0) pe_int (fun _ _ => rfl)) pa_nil)))) pss_nil)
 (pss_one (ps_ret (pe_op (kOp (K := K) (r := uAdd) rfl opu_add) (pe_calG C__law_sum_vars hr rfl (pa_cons (pe_ix (kIx (K := K) (r := rIx) rfl ix_seq) (pv 0) pe_int (fun _ _ => rfl)) pa_nil)) (pe_calG C__law_sum_vars hr rfl (pa_cons (pe_ix (kIx (K := K) (r := rIx) rfl ix_seq) (pv 0) pe_int (fun _ _ => rfl)) pa_nil))))))), rd_start (σ0 := [some v]) rfl ?_⟩
 cases he with
 | @val m u hu =>
  obtain ⟨p, rfl, hp⟩ := td_val hu hv
  walk_at "q"
  refine ⟨le_of (by simp), two_in _ _ _ _ _ fun H0 e0 => ?_⟩
  walk_at "q"
  refine ⟨le_of (by simp), fun p2 hp2 => ?_⟩
  exact q _ _ (e0.trans (Fr.new hp2)) (e0.back (fun z => nomatch z) hp2) upd_same
 | @var m x hx =>
  obtain ⟨p, x', y, rfl, hp, hx', hy⟩ := Td.t2 (show Td K H v (.tuple [.str "var", .str x]) from hv)
  cases hx'.str_inv
  cases hy.str_inv
  walk_at "q"
  refine ⟨le_of (by simp), two_in _ _ _ _ _ fun H0 e0 => ?_⟩
  have hp := e0.tup hp
  walk_at "q"
  refine ⟨le_of (by simp), fun p2 hp2 => ?_⟩
  exact q _ _ (e0.trans (Fr.new hp2)) (e0.back (fun z => nomatch z) hp2) upd_same
 | @op m s a b hs ha hb =>
  obtain ⟨p, x, y, z, rfl, hp, hx, hy, hz⟩ := Td.t3 (show Td K H v (.tuple [.str s, a.d, b.d]) from hv)
  cases hx.str_inv
  have hdeep : max a.deep b.deep + 1 < n + 1 := hn
  walk_at "q"
  refine ⟨le_of (by simp), two_in _ _ _ _ _ fun H0 e0 => ?_⟩
  have hp := e0.tup hp
  rw [decide_eq_false (show s ∉ (["value", "any"] : List Str) by rcases hs with rfl | rfl | rfl <;> decide +kernel)]
  walk_at "q"
  refine g_ff (decide_eq_false (sg_ne hs).2) ?_
  walk_at "q"
  refine ⟨y, a, m, rfl, hy.fr e0, ha, by omega, by omega, fun p1 H1 e1 _ h1 => ?_⟩
  have hp1 := e1.tup hp
  walk_at "q"
  refine ⟨z, b, m, rfl, (hz.fr e0).fr e1, hb, by omega, by omega, fun p2 H2 e2 _ h2 => ?_⟩
  have l1 := sumV_len (ha.up (show m ≤ 4 by omega))
  have l2 := sumV_len (hb.up (show m ≤ 4 by omega))
  refine g_addL (e2.at h1 (fun z => nomatch z)) h2 (le_of (by rw [List.length_map, List.length_map]; omega)) fun p3 hp3 => ?_
  have ee := (e0.trans e1).trans e2
  have hp3H : H p3 = none := ee.back (fun z => nomatch z) hp3
  refine q _ _ (ee.trans (Fr.new hp3)) hp3H ?_
  rw [upd_same, ← List.map_append]
  rfl
theorem ok__law_part_vars {f : Addr} {fd : FuncData} (F : FnP K "_law_part_vars" s__law_part_vars f fd) (C__law_sum_vars : CalG P w K mg base 5 "_law_sum_vars" (spSumV K 5)) : FnG P w K mg base CX0 6 f fd ["_law_part"] (spNames1 K PartE.d PartA partV) := by
 refine okG F sc__law_part_vars (fun vs H Q E h => ?_) (fun cdv A outer s H vs Q E hr h => ?_)
 ·obtain ⟨v, a, rfl, _⟩ := h
  rfl
 obtain ⟨v, p, rfl, hv, hp, q⟩ := h
 refine ⟨_, PSs.nox (pss_cons (ps_if (pt_cmpR (kOp (K := K) (r := uIn) rfl opu_in) (pe_ix (kIx (K := K) (r := rIx) rfl ix_seq) (pv 0) pe_int (fun _ _ => rfl)) (pe_tup (pa_cons pe_str (pa_cons pe_str pa_nil))) (by rfl)) (pss_one (ps_ret (pe_lc (own := [("_law_term", 1)]) (g := gName 1) rfl sc__law_part_vars.nd (pi_tupK (K := K) rfl (pe_ix (kIx (K := K) (r := rIx) rfl ix_seq) (pv 0) pe_int (fun _ _ => rfl))) (blkOk_by (own := [("_law_term", 1)]) (N := ["_law_part", "_law_term"]) (sc := defScope s__law_part_vars) (by decide +kernel)) (fun _ _ _ _ _ => (by exact (pg_name (i := 1) sc__law_part_vars.nd rfl (by first | exact Or.inl rfl | exact Or.inr rfl)))) (fun _ _ _ _ _ => (by exact pts_one (pt_cmpR (kOp (K := K) (r := uEq) rfl (opu_eq hr.units)) (pe_ix (kIx (K := K) (r := rIx) rfl ix_seq) (pv 1) pe_int (fun _ _ => rfl)) pe_str (nomark _)))) (fun _ _ _ _ _ => (by exact (pe_ix (kIx (K := K) (r := rIx) rfl ix_seq) (pv 1) pe_int (fun _ _ => rfl))))))) pss_nil)
 (pss_cons (ps_if (pt_cmpR (kOp (K := K) (r := uEq) rfl (opu_eq hr.units)) (pe_ix (kIx (K := K) (r := rIx) rfl ix_seq) (pv 0) pe_int (fun _ _ => rfl)) pe_str (nomark _)) (pss_one (ps_ret (pe_op (kOp (K := K) (r := uAdd) rfl opu_add) (pe_lst (pa_cons (pe_ix (kIx (K := K) (r := rIx) rfl ix_seq) (pv 0) pe_int (fun _ _ => rfl)) pa_nil)) (pe_calG C__law_sum_vars hr rfl (pa_cons (pe_ix (kIx (K := K) (r := rIx) rfl ix_seq) (pv 0) pe_int (fun _ _ => rfl)) pa_nil))))) pss_nil)
 (pss_one (ps_ret (pe_op (kOp (K := K) (r := uAdd) rfl opu_add) (pe_calG C__law_sum_vars hr rfl (pa_cons (pe_ix (kIx (K := K) (r := rIx) rfl ix_seq) (pv 0) pe_int (fun _ _ => rfl)) pa_nil)) (pe_calG C__law_sum_vars hr rfl (pa_cons (pe_ix (kIx (K := K) (r := rIx) rfl ix_seq) (pv 0) pe_int (fun _ _ => rfl)) pa_nil))))))), rd_start (σ0 := [some v, none]) rfl ?_⟩
 cases hp with
 | @atom no x ts hl hts =>
  obtain ⟨a, y1, y2, y3, rfl, ha, h1, h2, h3⟩ := Td.t3 (show Td K H v (.tuple [.str (if no then "not" else "atom"), .str x, .tuple (ts.map TermE.d)]) from hv)
  cases h1.str_inv
  cases h2.str_inv
  obtain ⟨r, us, rfl, hr3, ht⟩ := h3.tuple_inv
  walk_at "q"
  refine ⟨le_of (by simp), two_in _ _ _ _ _ fun H1 e1 => ?_⟩
  have ha1 := e1.tup ha
  have hr1 := e1.tup hr3
  obtain ⟨k1, k2⟩ := tda_get (ht.fr e1)
  rw [decide_eq_true (show (if no = true then ("not" : Str) else "atom") ∈ (["atom", "not"] : List Str) by cases no <;> decide +kernel)]
  walk_at "q"
  refine ⟨r, rfl, ⟨_, hr1⟩, fun D hD => lc_it (walk_tup (xs := us)) (fun i H' => Fr [] H1 H' ∧ H' D = some (.lst (((ts.take i).flatMap termV).map V.str))) ⟨Fr.new hD, upd_same⟩ (fun i H' _ h => h.1.tup hr1) (fun i y H' H'' hi h yy => ?_) (fun H' h => ?_)⟩
  ·obtain ⟨rfl, hxx⟩ := yy
   obtain ⟨f1, f2⟩ := h
   obtain ⟨t, ht0, htd⟩ := k2 i y hxx
   have htd := htd.fr f1
   have hlen : ((ts.take i).flatMap termV).length ≤ 8 := Nat.le_trans (termsV_len _) (by rw [List.length_take]; omega)
   have step : ((ts.take (i + 1)).flatMap termV) = (ts.take i).flatMap termV ++ termV t := by rw [List.take_succ, ht0, List.flatMap_append]; simp
   walk_at "q"
   refine ⟨rfl, ?_⟩
   cases hts t (List.mem_of_getElem? ht0) with
   | any =>
    obtain ⟨p, z, rfl, hp, hz⟩ := Td.t1 (show Td K H'' y (.tuple [.str "any"]) from htd)
    cases hz.str_inv
    walk_at "q"
    exact ⟨f1, by rw [step, f2]; simp [termV]⟩
   | @s e he =>
    cases he with
    | @val _ u hu =>
     obtain ⟨p, rfl, hp⟩ := td_val hu (show Td K H'' y (.tuple [.str "value", scD u]) from htd)
     walk_at "q"
     exact ⟨f1, by rw [step, f2]; simp [termV]⟩
    | @var _ x hx =>
     obtain ⟨p, x', z, rfl, hp, hx', hz⟩ := Td.t2 (show Td K H'' y (.tuple [.str "var", .str x]) from htd)
     cases hx'.str_inv
     cases hz.str_inv
     walk_at "q"
     refine ⟨_, f2, lt_of (by rw [List.length_map]; omega), f1.over hD, ?_⟩
     rw [upd_same, step, List.map_append]
     rfl
  ·refine q _ _ (e1.trans h.1) (e1.back (fun z => nomatch z) hD) ?_
   rw [h.2, k1, List.take_length]
   rfl
 | @lt x e hx0 he =>
  obtain ⟨a, y1, y2, y3, rfl, ha, h1, h2, h3⟩ := Td.t3 (show Td K H v (.tuple [.str "let", .str x, e.d]) from hv)
  cases h1.str_inv
  cases h2.str_inv
  walk_at "q"
  refine ⟨le_of (by simp), two_in _ _ _ _ _ fun H1 e1 => ?_⟩
  have ha1 := e1.tup ha
  walk_at "q"
  refine ⟨le_of (by simp), fun p2 hp2 => ?_⟩
  have e2 : Fr [] H1 (upd H1 p2 (.lst [.str x])) := Fr.new hp2
  have h2l : (upd H1 p2 (.lst [V.str x])) p2 = some (.lst [.str x]) := upd_same
  have ha2 := e2.tup ha1
  generalize upd H1 p2 (.lst [V.str x]) = H2 at *
  walk_at "q"
  refine ⟨_, e, 2, rfl, (h3.fr e1).fr e2, he, by decide, by have := sum_deep he; omega, fun p3 H3 e3 _ h3l => ?_⟩
  have l1 := sumV_len he
  refine g_addL (e3.at h2l (fun z => nomatch z)) h3l (le_of (by rw [List.length_map]; simp only [List.length_singleton]; omega)) fun p4 hp4 => ?_
  have ee := (e1.trans e2).trans e3
  refine q _ _ (ee.trans (Fr.new hp4)) (ee.back (fun z => nomatch z) hp4) ?_
  rw [upd_same]
  rfl
 | @test sg a b ha hb =>
  obtain ⟨p, y1, y2, y3, y4, rfl, hp, h1, h2, h3, h4⟩ := Td.t4 (show Td K H v (.tuple [.str "test", .str sg, a.d, b.d]) from hv)
  cases h1.str_inv
  cases h2.str_inv
  walk_at "q"
  refine ⟨le_of (by simp), two_in _ _ _ _ _ fun H1 e1 => ?_⟩
  have hp1 := e1.tup hp
  walk_at "q"
  refine ⟨_, a, 2, rfl, h3.fr e1, ha, by decide, by have := sum_deep ha; omega, fun p2 H2 e2 _ h2l => ?_⟩
  have hp2 := e2.tup hp1
  walk_at "q"
  refine ⟨_, b, 2, rfl, (h4.fr e1).fr e2, hb, by decide, by have := sum_deep hb; omega, fun p3 H3 e3 _ h3l => ?_⟩
  have l1 := sumV_len ha
  have l2 := sumV_len hb
  refine g_addL (e3.at h2l (fun z => nomatch z)) h3l (le_of (by rw [List.length_map, List.length_map]; omega)) fun p4 hp4 => ?_
  have ee := (e1.trans e2).trans e3
  refine q _ _ (ee.trans (Fr.new hp4)) (ee.back (fun z => nomatch z) hp4) ?_
  rw [upd_same, ← List.map_append]
  rfl
theorem ok__law_gives {f : Addr} {fd : FuncData} (F : FnP K "_law_gives" s__law_gives f fd) (C__law_part_vars : CalG P w K mg base 6 "_law_part_vars" (spNames1 K PartE.d PartA partV)) : FnG P w K mg base CX0 7 f fd ["_law_part"] (spNames1 K PartE.d PartA giveV) := by
 refine okG F sc__law_gives (fun vs H Q E h => ?_) (fun cdv A outer s H vs Q E hr h => ?_)
 ·obtain ⟨v, a, rfl, _⟩ := h
  rfl
 obtain ⟨v, p, rfl, hv, hp, q⟩ := h
 refine ⟨_, PSs.nox (pss_cons (ps_if (pt_cmpR (kOp (K := K) (r := uEq) rfl (opu_eq hr.units)) (pe_ix (kIx (K := K) (r := rIx) rfl ix_seq) (pv 0) pe_int (fun _ _ => rfl)) pe_str (nomark _)) (pss_one (ps_ret (pe_calG C__law_part_vars hr rfl (pa_cons (pv 0) pa_nil)))) pss_nil)
 (pss_one (ps_ret (pe_ifExp (pt_cmpR (kOp (K := K) (r := uEq) rfl (opu_eq hr.units)) (pe_ix (kIx (K := K) (r := rIx) rfl ix_seq) (pv 0) pe_int (fun _ _ => rfl)) pe_str (nomark _)) (pe_lst (pa_cons (pe_ix (kIx (K := K) (r := rIx) rfl ix_seq) (pv 0) pe_int (fun _ _ => rfl)) pa_nil)) (pe_lst pa_nil))))), rd_start (σ0 := [some v]) rfl ?_⟩
 cases p with
 | atom no x ts =>
  obtain ⟨a, y1, y2, y3, rfl, ha, h1, h2, h3⟩ := Td.t3 (show Td K H v (.tuple [.str (if no then "not" else "atom"), .str x, .tuple (ts.map TermE.d)]) from hv)
  cases h1.str_inv
  cases no with
  | false =>
   walk_at "q"
   exact ⟨_, _, rfl, hv, hp, q⟩
  | true =>
   walk_at "q"
   refine ⟨le_of (by simp), fun p2 hp2 => ?_⟩
   exact q _ _ (Fr.new hp2) hp2 upd_same
 | lt x e =>
  obtain ⟨a, y1, y2, y3, rfl, ha, h1, h2, h3⟩ := Td.t3 (show Td K H v (.tuple [.str "let", .str x, e.d]) from hv)
  cases h1.str_inv
  cases h2.str_inv
  walk_at "q"
  refine ⟨le_of (by simp), fun p2 hp2 => ?_⟩
  exact q _ _ (Fr.new hp2) hp2 upd_same
 | test sg a b =>
  obtain ⟨p, y1, y2, y3, y4, rfl, hp, h1, h2, h3, h4⟩ := Td.t4 (show Td K H v (.tuple [.str "test", .str sg, a.d, b.d]) from hv)
  cases h1.str_inv
  walk_at "q"
  refine ⟨le_of (by simp), fun p2 hp2 => ?_⟩
  exact q _ _ (Fr.new hp2) hp2 upd_same
theorem ok__law_wants {f : Addr} {fd : FuncData} (F : FnP K "_law_wants" s__law_wants f fd) (B : BiT mg) (C__law_part_vars : CalG P w K mg base 6 "_law_part_vars" (spNames1 K PartE.d PartA partV)) : FnG P w K mg base CX0 7 f fd ["_law_part"] (spNames1 K PartE.d PartA wantV) := by
 refine okG F sc__law_wants (fun vs H Q E h => ?_) (fun cdv A outer s H vs Q E hr h => ?_)
 ·obtain ⟨v, a, rfl, _⟩ := h
  rfl
 obtain ⟨v, p, rfl, hv, hp, q⟩ := h
 refine ⟨_, PSs.nox (pss_one (ps_ret (pe_slice (kSl (K := K) (r := rSlL) rfl sl_list) (pe_calG C__law_part_vars hr rfl (pa_cons (pv 0) pa_nil)) (po_some (pe_callTy callu_int (by rfl) B.b_int (by decide +kernel) (pa_cons (pe_cmpR (kOp (K := K) (r := uEq) rfl (opu_eq hr.units)) (pe_ix (kIx (K := K) (r := rIx) rfl ix_seq) (pv 0) pe_int (fun _ _ => rfl)) pe_str (nomark _)) pa_nil))) po_none))), rd_start (σ0 := [some v]) rfl ?_⟩
 obtain ⟨a, xs, hd, rfl, ha, hh⟩ := part_head hv
 walk_at "q"
 refine ⟨_, _, rfl, hv, hp, fun p1 H1 e1 hn1 h1 => ?_⟩
 have ha1 := e1.tup ha
 walk_at "q"
 refine g_ixT ha1 (atI_nat (j := 0) rfl) ?_
 walk_at "q"
 refine g_intB ?_
 walk_at "q"
 have hlet : (∃ x e, p = .lt x e ∧ hd = "let") ∨ (hd ≠ "let" ∧ wantV p = partV p) := by
  cases p with
  | lt x e => exact .inl ⟨x, e, rfl, hh⟩
  | atom no x ts => exact .inr ⟨by rw [hh]; cases no; exact (show ¬ (("atom" : Str) = "let") by decide +kernel); exact (show ¬ (("not" : Str) = "let") by decide +kernel), rfl⟩
  | test s a b => exact .inr ⟨by rw [hh]; exact (show ¬ (("test" : Str) = "let") by decide +kernel), rfl⟩
 refine g_slL (SqL.of h1) fun p2 hp2 => ?_
 refine q _ _ (e1.trans (Fr.new hp2)) (e1.back (fun z => nomatch z) hp2) ?_
 rw [upd_same]
 rcases hlet with ⟨x, e, rfl, rfl⟩ | ⟨hn, hw⟩
 ·rw [decide_eq_true (show ("let" : Str) = "let" from rfl)]
  show some (HO.lst (cutV ((partV (.lt x e)).map V.str) (some ((1 : Nat) : Int)) none)) = _
  rw [cutA]
  rfl
 ·rw [decide_eq_false hn]
  show some (HO.lst (cutV ((partV p).map V.str) (some ((0 : Nat) : Int)) none)) = _
  rw [cutA, hw]
  rfl
end
abbrev s__law_order : Stmt := topS 21
theorem sc__law_order : FnScope ["_law_parts", "_law_left", "_law_found", "_law_bound", "_law_going", "_law_ready", "_law_k", "_law_n"] ["_law_parts"] (defScope s__law_order) := ⟨rfl, rfl, rfl, by decide +kernel, rfl, by decide +kernel, by decide +kernel⟩
section
theorem ready_congr {ps : List PartE} {xs ys : List Str} (h : ∀ x, x ∈ xs ↔ x ∈ ys) : readyB ps xs = readyB ps ys := by
 funext k
 unfold readyB
 cases ps[k]? with
 | none => rfl
 | some p =>
  dsimp only
  congr 2
  funext x
  exact decide_eq_decide.mpr (h x)
theorem next_head {ps : List PartE} {ns : List Nat} {xs : List Str} : nextP ps ns xs = (ns.filter (readyB ps xs) ++ ns.filter (atomB ps)).head? := by
 unfold nextP
 rw [← List.head?_filter]
 cases ns.filter (readyB ps xs) with
 | nil => rfl
 | cons a r => rfl
theorem filter_nil_all {ws ys : List Str} : decide ((ws.filter fun x => !decide (x ∈ ys)) = []) = ws.all fun x => decide (x ∈ ys) := by
 induction ws with
 | nil => rfl
 | cons a r ih =>
  by_cases h : a ∈ ys
  ·rw [List.filter_cons_of_neg (by simp [h]), ih, List.all_cons, decide_eq_true h]
   rfl
  ·rw [List.filter_cons_of_pos (by simp [h]), List.all_cons, decide_eq_false h]
   rfl
variable {P : Program} {w : World} {K : PySem.W.Frag} {mg : Str → Option Value} {base : Heap}
theorem ok__law_order {f : Addr} {fd : FuncData} (F : FnP K "_law_order" s__law_order f fd) (B : BiN mg) (C__law_wants : CalG P w K mg base 7 "_law_wants" (spNames1 K PartE.d PartA wantV)) (C__law_gives : CalG P w K mg base 7 "_law_gives" (spNames1 K PartE.d PartA giveV)) : FnG P w K mg base CX0 9 f fd ["_law_parts"] (spOrder K) := by
 refine okG F sc__law_order (fun vs H Q E h => ?_) (fun cdv A outer s H vs Q E hr h => ?_)
 ·obtain ⟨v, ps, rfl, _⟩ := h
  rfl
 obtain ⟨v, ps, rfl, hv, hp, q⟩ := h
 have hu := hu_of hr.rm
 obtain ⟨r, us, rfl, hr3, ht⟩ := Td.tuple_inv (show Td K H v (.tuple (ps.map PartE.d)) from hv)
 obtain ⟨k1, k2⟩ := tda_get ht
 refine ⟨_, PSs.nox (pss_cons (ps_set (i := 1) sc__law_order.nd rfl (.inl rfl) (pe_listRg rfl (by rfl) B.b_list (prg_1 (by rfl) B.b_range (pe_callB (kCall (K := K) (r := uLen) rfl callu_len) (by rfl) B.b_len (by decide +kernel) (pa_cons (pv 0) pa_nil)))))
 (pss_cons (ps_set (i := 2) sc__law_order.nd rfl (.inl rfl) (pe_lst pa_nil))
 (pss_cons (ps_set (i := 3) sc__law_order.nd rfl (.inr rfl) (pe_lst pa_nil))
 (pss_cons (ps_set (i := 4) sc__law_order.nd rfl (.inl rfl) pe_bl)
 (pss_cons (ps_while PassesOwn.never (pt_val (pv 4)) (pss_cons (ps_setLc (i := 5) (own := [("_law_k", 6)]) (g := gName 6) rfl sc__law_order.nd rfl rfl (sw_true rfl rfl rfl (by decide +kernel)) (pi_listK (K := K) rfl (pv 1)) (blkOk_by (own := [("_law_k", 6)]) (N := ["_law_parts", "_law_left", "_law_found", "_law_bound", "_law_going", "_law_ready", "_law_k", "_law_n"]) (sc := defScope s__law_order) (by decide +kernel)) (fun _ _ _ _ _ => (by exact (pg_name (i := 6) sc__law_order.nd rfl (by first | exact Or.inl rfl | exact Or.inr rfl)))) (fun _ _ _ _ _ => (by exact pts_one (PW.pt (pw_and (pt_cmpR (kOp (K := K) (r := uNe) rfl (opu_ne hr.units)) (pe_ix (kIx (K := K) (r := rIx) rfl ix_seq) (pe_ix (kIx (K := K) (r := rIx) rfl ix_seq) (pv 0) (pv 6) (fun _ _ => rfl)) pe_int (fun _ _ => rfl)) pe_str (nomark _)) (pw_and1 (pt_cmpR (kOp (K := K) (r := uEq) rfl (opu_eq hr.units)) (pe_lc (own := [("_law_n", 7)]) (g := gName 7) rfl sc__law_order.nd (pi_listK (K := K) rfl (pe_calG C__law_wants hr rfl (pa_cons (pe_ix (kIx (K := K) (r := rIx) rfl ix_seq) (pv 0) (pv 6) (fun _ _ => rfl)) pa_nil))) (blkOk_by (own := [("_law_n", 7)]) (N := ["_law_parts", "_law_left", "_law_found", "_law_bound", "_law_going", "_law_ready", "_law_k", "_law_n"]) (by kernel_rfl)) (fun _ _ _ _ _ => (by exact (pg_name (i := 7) sc__law_order.nd rfl (by first | exact Or.inl rfl | exact Or.inr rfl)))) (fun _ _ _ _ _ => (by exact pts_one (pt_cmpR (kOp (K := K) (r := uNotIn) rfl opu_notIn) (pv 7) (pv 3) (by rfl)))) (fun _ _ _ _ _ => (by exact (pv 7)))) (pe_lst pa_nil) (nomark _))))))) (fun _ _ _ _ _ => (by exact (pv 6))))
 (pss_cons (ps_set (i := 5) sc__law_order.nd rfl (.inl rfl) (pe_op (kOp (K := K) (r := uAdd) rfl opu_add) (pv 5) (pe_lc (own := [("_law_k", 6)]) (g := gName 6) rfl sc__law_order.nd (pi_listK (K := K) rfl (pv 1)) (blkOk_by (own := [("_law_k", 6)]) (N := ["_law_parts", "_law_left", "_law_found", "_law_bound", "_law_going", "_law_ready", "_law_k", "_law_n"]) (sc := defScope s__law_order) (by decide +kernel)) (fun _ _ _ _ _ => (by exact (pg_name (i := 6) sc__law_order.nd rfl (by first | exact Or.inl rfl | exact Or.inr rfl)))) (fun _ _ _ _ _ => (by exact pts_one (pt_cmpR (kOp (K := K) (r := uEq) rfl (opu_eq hr.units)) (pe_ix (kIx (K := K) (r := rIx) rfl ix_seq) (pe_ix (kIx (K := K) (r := rIx) rfl ix_seq) (pv 0) (pv 6) (fun _ _ => rfl)) pe_int (fun _ _ => rfl)) pe_str (nomark _)))) (fun _ _ _ _ _ => (by exact (pv 6))))))
 (pss_cons (ps_set (i := 4) sc__law_order.nd rfl (.inl rfl) (pe_cmpR (kOp (K := K) (r := uNe) rfl (opu_ne hr.units)) (pv 5) (pe_lst pa_nil) (nomark _)))
 (pss_one (ps_for PassesOwn.never rfl (pi_listK (K := K) rfl (pe_slice (kSl (K := K) (r := rSlL) rfl sl_list) (pv 5) po_none (po_some pe_int))) (pg_name (i := 6) sc__law_order.nd rfl (by first | exact Or.inl rfl | exact Or.inr rfl)) (pss_cons (ps_expr (kBM (K := K) rfl (pe_bm PySem.F.plainAttrs_list PySem.F.slot_list_append PySem.F.type_list_append mt_append (pv 2) (pa_cons (pv 6) pa_nil))))
 (pss_cons (ps_expr (kBM (K := K) rfl (pe_bm PySem.F.plainAttrs_list PySem.F.slot_list_remove PySem.F.type_list_remove mt_remove (pv 1) (pa_cons (pv 6) pa_nil))))
 (pss_one (ps_set (i := 3) sc__law_order.nd rfl (.inr rfl) (pe_op (kOp (K := K) (r := uAdd) rfl opu_add) (pv 3) (pe_calG C__law_gives hr rfl (pa_cons (pe_ix (kIx (K := K) (r := rIx) rfl ix_seq) (pv 0) (pv 6) (fun _ _ => rfl)) pa_nil)))))))))))))
 (pss_one (ps_ret (pv 2)))))))), rd_start (σ0 := [some (.ref r), none, none, none, none, none, none, none]) rfl ?_⟩
 walk_at "q"
 have hpl := hp.1
 refine ⟨.of_le (by decide) (by omega) (by decide) (by omega), fun L hL => ?_⟩
 rw [k1, rgV_nat]
 have e1 : Fr [] H (upd H L (.lst (natsV (List.range ps.length)))) := Fr.new hL
 have hL1 : (upd H L (.lst (natsV (List.range ps.length)))) L = some (.lst (natsV (List.range ps.length))) := upd_same
 show gName 1 (V.ref L) _ (upd H L (.lst (natsV (List.range ps.length)))) _
 generalize upd H L (.lst (natsV (List.range ps.length))) = H1 at *
 walk_at "q"
 refine ⟨le_of (by simp), fun T hT => ?_⟩
 have e2 : Fr [] H1 (upd H1 T (.lst [])) := Fr.new hT
 have hT2 : (upd H1 T (.lst [])) T = some (.lst (natsV [])) := upd_same
 have hL2 := e2.at hL1 (fun z => nomatch z)
 have hTH := e1.back (fun z => nomatch z) hT
 have hLT : L ≠ T := fun e => by rw [← e, hL1] at hT; cases hT
 generalize upd H1 T (.lst []) = H2 at *
 walk_at "q"
 refine ⟨le_of (by simp), fun d hd => ?_⟩
 have e3 : Fr [] H2 (upd H2 d (.lst [])) := Fr.new hd
 have hd3 : (upd H2 d (.lst [])) d = some (.lst (([] : List Str).map V.str)) := upd_same
 have hL3 := e3.at hL2 (fun z => nomatch z)
 have hT3 := e3.at hT2 (fun z => nomatch z)
 have hdH := (e1.trans e2).back (fun z => nomatch z) hd
 have E3 := (e1.trans e2).trans e3
 have hdT : d ≠ T := fun e => by rw [e, hT2] at hd; cases hd
 have hdL : d ≠ L := fun e => by rw [e, hL2] at hd; cases hd
 generalize upd H2 d (.lst []) = H3 at *
 walk_at "q"
 have lnats : ∀ ns : List Nat, (natsV ns).length = ns.length := fun ns => List.length_map ..
 have part : ∀ (H' : Hp) (k : Nat), Fr [] H H' → k < ps.length → ∃ p y, ps[k]? = some p ∧ atI us (k : Int) = some y ∧ Td K H' y p.d ∧ PartA p := fun H' k e hk => by
  have hku : k < us.length := by omega
  obtain ⟨p, hpp, htd⟩ := k2 k us[k] (List.getElem?_eq_getElem hku)
  exact ⟨p, us[k], hpp, atI_nat (List.getElem?_eq_getElem hku), htd.fr e, hp.2 p (List.mem_of_getElem? hpp)⟩
 refine g_while (fun σ H' => ∃ bd going z5 z6 z7 ns xs ys fs, σ = [some (.ref r), some (.ref L), some (.ref T), some (.ref bd), some (.bl going), z5, z6, z7] ∧ H' L = some (.lst (natsV ns)) ∧ H' T = some (.lst (natsV fs)) ∧ H' bd = some (.lst (ys.map V.str)) ∧ Fr [] H H' ∧ ns.length ≤ 10 ∧ (∀ k ∈ ns, k < ps.length) ∧
   fs ++ orderP ps ns.length ns xs = orderP ps ps.length (List.range ps.length) [] ∧ ys.length + ns.length * 8 ≤ 80 ∧ fs.length + ns.length ≤ 10 ∧ (∀ x, x ∈ xs ↔ x ∈ ys) ∧ (going = true ∨ nextP ps ns xs = none) ∧ bd ≠ T ∧ bd ≠ L)
   (fun σ H' => 2 * (match H' L with | some (.lst xs) => xs.length | _ => 0) + (match σ[4]? with | some (some (.bl true)) => 1 | _ => 0))
  ⟨d, true, _, _, _, List.range ps.length, [], [], [], rfl, hL3, hT3, hd3, E3, by rw [List.length_range]; omega, fun k hk => List.mem_range.mp hk, by rw [List.length_range]; rfl, by rw [List.length_range, List.length_nil]; omega, by rw [List.length_range, List.length_nil]; omega, fun _ => Iff.rfl, .inl rfl, hdT, hdL⟩
  (fun σ H5 h N k => ?_) (fun σ H5 _ A B hAB h => ?_)
 ·obtain ⟨bd, going, z5, z6, z7, ns, xs, ys, fs, rfl, hL5, hT5, hd5, E5, hn5, hnp5, hord, hx5, hf5, hmem, hgo, hbT, hbL⟩ := h
  walk_at "q"
  cases going with
  | false =>
   refine g_ff (by rfl) ?_
   walk_at "q"
   refine q T H5 E5 hTH ?_
   rw [hT5, ← hord, order_none (hgo.resolve_left (by decide)), List.append_nil]
  | true =>
   refine g_tt (by rfl) ?_
   walk_at "q"
   have hr5 := E5.tup hr3
   refine ⟨L, rfl, ⟨_, SqL.of hL5⟩, fun D hD => lc_it (walk_list (xs := natsV ns)) (fun i H' => Fr [] H5 H' ∧ H' D = some (.lst (natsV ((ns.take i).filter (readyB ps ys))))) ⟨Fr.new hD, upd_same⟩ (fun i H' _ h => SqL.of (h.1.at hL5 (fun z => nomatch z))) (fun i x H' H'' hi h y => ?_) (fun H6 h => ?_)⟩
   ·obtain ⟨rfl, hx⟩ := y
    obtain ⟨e2, h2⟩ := h
    obtain ⟨k, hk, rfl⟩ := atI_natsV hx
    obtain ⟨p, y, hpp, hy, htd, hpA⟩ := part H'' k (E5.trans e2) (hnp5 k (List.mem_of_getElem? hk))
    obtain ⟨a, zs, hd, rfl, ha, hh⟩ := part_head htd
    have hrdy : readyB ps ys k = (!decide (hd = "atom") && (wantV p).all fun x => decide (x ∈ ys)) := by unfold readyB; rw [hpp, hh]
    have len : ((ns.take i).filter (readyB ps ys)).length ≤ 10 := Nat.le_trans (List.length_filter_le _ _) (by rw [List.length_take]; omega)
    have yes : ∀ H8 : Hp, Fr [] H'' H8 → readyB ps ys k = true → ∃ acc, H8 D = some (.lst acc) ∧ acc.length < sizeLine ∧ Fr [] H5 (upd H8 D (.lst (acc ++ [.int (k : Int)]))) ∧ (upd H8 D (.lst (acc ++ [.int (k : Int)]))) D = some (.lst (natsV ((ns.take (i + 1)).filter (readyB ps ys)))) := by
     intro H8 e8 hb
     refine ⟨_, e8.at h2 (fun z => nomatch z), lt_of (by rw [lnats]; omega), (e2.trans e8).over hD, ?_⟩
     rw [upd_same, List.take_succ, hk, List.filter_append]
     show _ = some (HO.lst (natsV (_ ++ ([k] : List Nat).filter (readyB ps ys))))
     rw [List.filter_cons_of_pos hb]
     unfold natsV
     rw [List.map_append]
     rfl
    have no : ∀ H8 : Hp, Fr [] H'' H8 → readyB ps ys k = false → Fr [] H5 H8 ∧ H8 D = some (.lst (natsV ((ns.take (i + 1)).filter (readyB ps ys)))) := by
     intro H8 e8 hb
     refine ⟨e2.trans e8, ?_⟩
     rw [e8.at h2 (fun z => nomatch z), List.take_succ, hk, List.filter_append]
     show _ = some (HO.lst (natsV (_ ++ ([k] : List Nat).filter (readyB ps ys))))
     rw [List.filter_cons_of_neg (by rw [hb]; exact Bool.false_ne_true)]
     simp
    walk_at "q"
    refine ⟨rfl, ?_⟩
    walk_at "q"
    refine g_ixT (e2.tup hr5) hy ?_
    walk_at "q"
    refine g_ixT ha (atI_nat (j := 0) rfl) ?_
    walk_at "q"
    refine g_byN (fun c => ?_) (fun c => ?_)
    ·walk_at "q"
     refine g_ixT (e2.tup hr5) hy ?_
     walk_at "q"
     refine ⟨_, p, rfl, htd, hpA, fun l1 H7 e7 hn7 h7 => ?_⟩
     have hd7 := (e2.trans e7).at hd5 (fun z => nomatch z)
     have hwl : (wantV p).length ≤ 8 := by
      have h8 := partV_len hpA
      cases p with
      | lt x e => exact Nat.le_trans (Nat.le_succ _) h8
      | atom => exact h8
      | test => exact h8
     refine ⟨l1, rfl, ⟨_, SqL.of h7⟩, fun D2 hD2 => lc_it (walk_list (xs := (wantV p).map V.str)) (fun i H' => Fr [] H7 H' ∧ H' D2 = some (.lst ((((wantV p).take i).filter fun x => !decide (x ∈ ys)).map V.str))) ⟨Fr.new hD2, upd_same⟩ (fun i H' _ h => SqL.of (h.1.at h7 (fun z => nomatch z))) (fun j x H' H8 hj h y => ?_) (fun H8 h => ?_)⟩
     ·obtain ⟨rfl, hx⟩ := y
      obtain ⟨e8, h8⟩ := h
      rw [List.getElem?_map] at hx
      cases hw : (wantV p)[j]? with
      | none => rw [hw] at hx; cases hx
      | some z =>
       rw [hw] at hx
       cases hx
       have len2 : (((wantV p).take j).filter fun x => !decide (x ∈ ys)).length ≤ 8 := Nat.le_trans (List.length_filter_le _ _) (by rw [List.length_take]; omega)
       walk_at "q"
       refine ⟨rfl, ?_⟩
       walk_at "q"
       refine g_notInT (.inl (SqL.of (e8.at hd7 (fun z => nomatch z)))) (flat_strs _) ?_
       rw [inV_str]
       walk_at "q"
       refine g_byN (fun c3 => ?_) (fun c3 => ?_)
       ·walk_at "q"
        refine ⟨_, h8, lt_of (by rw [List.length_map]; omega), e8.over hD2, ?_⟩
        rw [upd_same, List.take_succ, hw, List.filter_append]
        show _ = some (HO.lst ((_ ++ ([z] : List Str).filter fun x => !decide (x ∈ ys)).map V.str))
        rw [List.filter_cons_of_pos (by simp [c3]), List.map_append]
        rfl
       ·refine ⟨e8, ?_⟩
        rw [h8, List.take_succ, hw, List.filter_append]
        show _ = some (HO.lst ((_ ++ ([z] : List Str).filter fun x => !decide (x ∈ ys)).map V.str))
        rw [List.filter_cons_of_neg (by simp [c3])]
        simp
     ·obtain ⟨e8, h8⟩ := h
      rw [List.length_map, List.take_length] at h8
      walk_at "q"
      refine ⟨le_of (by decide), fun p4 hp4 => ?_⟩
      have e4 : Fr [] H8 (upd H8 p4 (.lst [])) := Fr.new hp4
      have hn4 : (upd H8 p4 (.lst [])) p4 = some (.lst []) := upd_same
      have h84 := e4.at h8 (fun z => nomatch z)
      have ee := (e7.trans e8).trans e4
      generalize upd H8 p4 (.lst []) = H9 at *
      refine g_eqEL (SqL.of h84) (SqL.of hn4) ?_
      have hb : decide ((((wantV p).filter fun x => !decide (x ∈ ys)).map V.str) = []) = readyB ps ys k := by
       rw [hrdy, decide_eq_false c, ← filter_nil_all]
       cases (wantV p).filter fun x => !decide (x ∈ ys) <;> rfl
      rw [hb]
      walk_at "q"
      refine g_byB (fun c4 => ?_) (fun c4 => ?_)
      ·walk_at "q"
       exact yes _ ee c4
      ·exact no _ ee c4
    ·exact no _ Fr.refl (by rw [hrdy, decide_eq_true c]; rfl)
   ·obtain ⟨e6, h6⟩ := h
    rw [lnats, List.take_length] at h6
    walk_at "q"
    have hL6 := e6.at hL5 (fun z => nomatch z)
    have hr6 := e6.tup hr5
    have E6 := E5.trans e6
    refine ⟨L, rfl, ⟨_, SqL.of hL6⟩, fun D2 hD2 => lc_it (walk_list (xs := natsV ns)) (fun i H' => Fr [] H6 H' ∧ H' D2 = some (.lst (natsV ((ns.take i).filter (atomB ps))))) ⟨Fr.new hD2, upd_same⟩ (fun i H' _ h => SqL.of (h.1.at hL6 (fun z => nomatch z))) (fun i x H' H'' hi h y => ?_) (fun H7 h => ?_)⟩
    ·obtain ⟨rfl, hx⟩ := y
     obtain ⟨e2, h2⟩ := h
     obtain ⟨k, hk, rfl⟩ := atI_natsV hx
     obtain ⟨p, y, hpp, hy, htd, hpA⟩ := part H'' k (E6.trans e2) (hnp5 k (List.mem_of_getElem? hk))
     obtain ⟨a, zs, hd, rfl, ha, hh⟩ := part_head htd
     have hat : atomB ps k = decide (hd = "atom") := by unfold atomB; rw [hpp, hh]
     have len : ((ns.take i).filter (atomB ps)).length ≤ 10 := Nat.le_trans (List.length_filter_le _ _) (by rw [List.length_take]; omega)
     walk_at "q"
     refine ⟨rfl, ?_⟩
     walk_at "q"
     refine g_ixT (e2.tup hr6) hy ?_
     walk_at "q"
     refine g_ixT ha (atI_nat (j := 0) rfl) ?_
     walk_at "q"
     refine g_by (fun c => ?_) (fun c => ?_)
     ·walk_at "q"
      refine ⟨_, h2, lt_of (by rw [lnats]; omega), e2.over hD2, ?_⟩
      rw [upd_same, List.take_succ, hk, List.filter_append]
      show _ = some (HO.lst (natsV (_ ++ ([k] : List Nat).filter (atomB ps))))
      rw [List.filter_cons_of_pos (by rw [hat]; exact decide_eq_true c)]
      unfold natsV
      rw [List.map_append]
      rfl
     ·refine ⟨e2, ?_⟩
      rw [h2, List.take_succ, hk, List.filter_append]
      show _ = some (HO.lst (natsV (_ ++ ([k] : List Nat).filter (atomB ps))))
      rw [List.filter_cons_of_neg (by rw [hat, decide_eq_false c]; exact Bool.false_ne_true)]
      simp
    ·obtain ⟨e7, h7⟩ := h
     rw [lnats, List.take_length] at h7
     have l1 : (ns.filter (readyB ps ys)).length ≤ 10 := Nat.le_trans (List.length_filter_le _ _) hn5
     have l2 : (ns.filter (atomB ps)).length ≤ 10 := Nat.le_trans (List.length_filter_le _ _) hn5
     refine g_addL (e7.at h6 (fun z => nomatch z)) h7 (le_of (by rw [lnats, lnats]; omega)) fun p8 hp8 => ?_
     have e8 : Fr [] H7 (upd H7 p8 (.lst (natsV (ns.filter (readyB ps ys)) ++ natsV (ns.filter (atomB ps))))) := Fr.new hp8
     obtain ⟨rd, hrd⟩ : ∃ rd, rd = ns.filter (readyB ps ys) ++ ns.filter (atomB ps) := ⟨_, rfl⟩
     have h8 : (upd H7 p8 (.lst (natsV (ns.filter (readyB ps ys)) ++ natsV (ns.filter (atomB ps))))) p8 = some (.lst (natsV rd)) := by rw [upd_same, hrd]; unfold natsV; rw [List.map_append]
     have E8 := (E6.trans e7).trans e8
     have hnx : nextP ps ns xs = rd.head? := by
      rw [next_head, ready_congr hmem, hrd]
     have hL8 := (e7.trans e8).at hL6 (fun z => nomatch z)
     have hT8 := ((e6.trans e7).trans e8).at hT5 (fun z => nomatch z)
     have hd8 := ((e6.trans e7).trans e8).at hd5 (fun z => nomatch z)
     generalize upd H7 p8 (.lst (natsV (ns.filter (readyB ps ys)) ++ natsV (ns.filter (atomB ps)))) = H8 at *
     walk_at "q"
     refine ⟨le_of (by decide), fun p9 hp9 => ?_⟩
     have e9 : Fr [] H8 (upd H8 p9 (.lst [])) := Fr.new hp9
     have hn9 : (upd H8 p9 (.lst [])) p9 = some (.lst []) := upd_same
     have h9 := e9.at h8 (fun z => nomatch z)
     have E9 := E8.trans e9
     have hL9 := e9.at hL8 (fun z => nomatch z)
     have hT9 := e9.at hT8 (fun z => nomatch z)
     have hd9 := e9.at hd8 (fun z => nomatch z)
     generalize upd H8 p9 (.lst []) = H9 at *
     refine g_neEL (SqL.of h9) (SqL.of hn9) ?_
     walk_at "q"
     refine g_slL (SqL.of h9) fun p10 hp10 => ?_
     rw [show cutV (natsV rd) none (some 1) = (natsV rd).take 1 from cut0 _ 1]
     have e10 : Fr [] H9 (upd H9 p10 (.lst ((natsV rd).take 1))) := Fr.new hp10
     have h10 : (upd H9 p10 (.lst ((natsV rd).take 1))) p10 = some (.lst ((natsV rd).take 1)) := upd_same
     have E10 := E9.trans e10
     have hL10 := e10.at hL9 (fun z => nomatch z)
     have hT10 := e10.at hT9 (fun z => nomatch z)
     have hd10 := e10.at hd9 (fun z => nomatch z)
     generalize upd H9 p10 (.lst ((natsV rd).take 1)) = H10 at *
     cases hrc : rd with
     | nil =>
      rw [hrc] at h10 hnx
      refine ⟨p10, rfl, ⟨_, SqL.of h10⟩, for_list (xs := []) (fun i σ H' => H' = H10 ∧ σ = [some (.ref r), some (.ref L), some (.ref T), some (.ref bd), some (.bl false), some (.ref p8), z6, z7]) ⟨rfl, rfl⟩ (fun i σ H' _ h => by rw [h.1]; exact SqL.of h10) (fun i x σ H' hx h => by simp at hx) (fun σ H' h => ?_)⟩
      obtain ⟨rfl, rfl⟩ := h
      refine k _ _ ⟨bd, false, _, _, _, ns, xs, ys, fs, rfl, hL10, hT10, hd10, E10, hn5, hnp5, hord, hx5, hf5, hmem, .inr hnx, hbT, hbL⟩ ?_
      rw [hL10, hL5]
      exact Nat.lt_succ_self _
     | cons k0 rest =>
      rw [hrc] at h10 hnx
      have hmk := nextP_mem hnx
      have hk0 := hnp5 k0 hmk
      obtain ⟨p, y, hpp, hy, htd, hpA⟩ := part H10 k0 E10 hk0
      have hlen := partV_len hpA
      have hgl : (giveV p).length ≤ 8 := by
       cases p with
       | lt x e => exact (show 1 ≤ 8 by decide)
       | atom no x ts => cases no with
        | false => exact hlen
        | true => exact Nat.zero_le _
       | test => exact Nat.zero_le _
      have hgk : giveK ps k0 = giveV p := by unfold giveK; rw [hpp]
      have hel : (ns.erase k0).length = ns.length - 1 := List.length_erase_of_mem hmk
      have hnpos : 0 < ns.length := List.length_pos_of_mem hmk
      have hTL : T ≠ L := hLT.symm
      have hpT : p10 ≠ T := fun e => by rw [e, hT9] at hp10; cases hp10
      have hpL : p10 ≠ L := fun e => by rw [e, hL9] at hp10; cases hp10
      refine ⟨p10, rfl, ⟨_, SqL.of h10⟩, for_list (xs := [V.int (k0 : Int)]) (fun i σ H' => Fr [] H H' ∧ H' p10 = some (.lst [V.int (k0 : Int)]) ∧ ((i = 0 ∧ H' = H10 ∧ σ = [some (.ref r), some (.ref L), some (.ref T), some (.ref bd), some (.bl true), some (.ref p8), z6, z7]) ∨
       (i = 1 ∧ ∃ bd' z6 z7, σ = [some (.ref r), some (.ref L), some (.ref T), some (.ref bd'), some (.bl true), some (.ref p8), z6, z7] ∧ H' L = some (.lst (natsV (ns.erase k0))) ∧ H' T = some (.lst (natsV (fs ++ [k0]))) ∧ H' bd' = some (.lst ((ys ++ giveV p).map V.str)) ∧ bd' ≠ T ∧ bd' ≠ L)))
       ⟨E10, h10, .inl ⟨rfl, rfl, rfl⟩⟩ (fun i σ H' _ h => SqL.of h.2.1) (fun i x σ H' hx h => ?_) (fun σ H' h => ?_)⟩
      ·obtain ⟨hE, hpp10, h | h⟩ := h
       ·obtain ⟨rfl, rfl, rfl⟩ := h
        cases hx
        walk_at "q"
        refine g_app hT10 (by rw [lnats]; omega) ?_
        have eT : Fr [T] H' (upd H' T (.lst (natsV fs ++ [V.int (k0 : Int)]))) := Fr.mut (List.mem_singleton.mpr rfl) hT10 nofix_lst
        have hT6 : (upd H' T (.lst (natsV fs ++ [V.int (k0 : Int)]))) T = some (.lst (natsV (fs ++ [k0]))) := by rw [upd_same]; unfold natsV; rw [List.map_append]; rfl
        have hL6 := eT.at hL10 (fun z => hLT (List.mem_singleton.mp z))
        have hd6 := eT.at hd10 (fun z => hbT (List.mem_singleton.mp z))
        have hp6 := eT.at h10 (fun z => hpT (List.mem_singleton.mp z))
        have E6' : Fr [] H (upd H' T (.lst (natsV fs ++ [V.int (k0 : Int)]))) := E10.over hTH
        generalize upd H' T (.lst (natsV fs ++ [V.int (k0 : Int)])) = H11 at *
        walk_at "q"
        refine g_remN hL6 hmk ?_
        have eL : Fr [L] H11 (upd H11 L (.lst (natsV (ns.erase k0)))) := Fr.mut (List.mem_singleton.mpr rfl) hL6 nofix_lst
        have hL7 : (upd H11 L (.lst (natsV (ns.erase k0)))) L = some (.lst (natsV (ns.erase k0))) := upd_same
        have hT7 := eL.at hT6 (fun z => hTL (List.mem_singleton.mp z))
        have hd7 := eL.at hd6 (fun z => hbL (List.mem_singleton.mp z))
        have hp7 := eL.at hp6 (fun z => hpL (List.mem_singleton.mp z))
        have E7' : Fr [] H (upd H11 L (.lst (natsV (ns.erase k0)))) := E6'.over hL
        generalize upd H11 L (.lst (natsV (ns.erase k0))) = H12 at *
        obtain ⟨p', y', hpp', hy', htd', hpA'⟩ := part H12 k0 E7' hk0
        rw [hpp] at hpp'
        cases hpp'
        walk_at "q"
        refine g_ixT (E7'.tup hr3) hy' ?_
        walk_at "q"
        refine ⟨_, p, rfl, htd', hpA', fun g H13 e13 hg13 h13 => ?_⟩
        refine g_addL (e13.at hd7 (fun z => nomatch z)) h13 (le_of (by rw [List.length_map, List.length_map]; omega)) fun p14 hp14 => ?_
        have e14 : Fr [] H13 (upd H13 p14 (.lst (ys.map V.str ++ (giveV p).map V.str))) := Fr.new hp14
        have hT13 := e13.at hT7 (fun z => nomatch z)
        have hL13 := e13.at hL7 (fun z => nomatch z)
        refine ⟨(E7'.trans e13).trans e14, e14.at (e13.at hp7 (fun z => nomatch z)) (fun z => nomatch z), .inr ⟨rfl, p14, _, _, rfl, e14.at hL13 (fun z => nomatch z), e14.at hT13 (fun z => nomatch z), by rw [upd_same, List.map_append], fun e => ?_, fun e => ?_⟩⟩
        ·rw [e, hT13] at hp14; cases hp14
        ·rw [e, hL13] at hp14; cases hp14
       ·obtain ⟨rfl, _⟩ := h
        simp at hx
      ·obtain ⟨hE, hpp10, h | h⟩ := h
       ·exact absurd h.1 (show ¬ (1 = 0) by decide)
       ·obtain ⟨_, bd', z6, z7, rfl, a1, a2, a3, a4, a5⟩ := h
        refine k _ _ ⟨bd', true, _, _, _, ns.erase k0, addAll xs (giveV p), ys ++ giveV p, fs ++ [k0], rfl, a1, a2, a3, hE, by omega, fun k hk => hnp5 k (List.mem_of_mem_erase hk), ?_, by rw [List.length_append]; omega, by rw [List.length_append, List.length_singleton]; omega, (fun x => by rw [addAll_mem, hmem, List.mem_append]), .inl rfl, a4, a5⟩ ?_
        ·rw [← hord, order_some hnx (Nat.le_refl _), hgk, hel, List.append_assoc]
         rfl
        ·rw [a1, hL5]
         show 2 * (natsV (ns.erase k0)).length + 1 < 2 * (natsV ns).length + 1
         rw [lnats, lnats]
         omega
 ·obtain ⟨v, h1, k, hk, r⟩ := h
  exact ⟨v, h1, k, hk, hAB _ _ r⟩
end
def spLoose (K : PySem.W.Frag) : Sp := fun vs H Q _ => ∃ (b cs : Addr), vs = [.ref b] ∧ BagAt H b cs ∧ ∀ (v : V) (ps : List PartE) (H' : Hp), Td K H' v (partsDd ps) → partsA ps → BagAt H' b cs → Fr [b] H H' → Q v H'
def vdL : List (Str × Str) := [("x", "number"), ("y", "number"), ("u", "number"), ("v", "number")]
theorem vdL_g : VdG vdL := ⟨by decide, fun p hp => by
 simp only [vdL, List.mem_cons, List.not_mem_nil, or_false] at hp
 rcases hp with rfl | rfl | rfl | rfl
 ·exact ⟨varB_ok (by decide +kernel), .inl rfl⟩
 ·exact ⟨varB_ok (by decide +kernel), .inl rfl⟩
 ·exact ⟨varB_ok (by decide +kernel), .inl rfl⟩
 ·exact ⟨varB_ok (by decide +kernel), .inl rfl⟩⟩
theorem vdL_merge : mergeK [] (kvOf vdL) = kvOf vdL := mergeK_nd (acc := []) (by
 show ([(Sum.inr "x" : Key), Sum.inr "y", Sum.inr "u", Sum.inr "v"]).Nodup
 decide +kernel)
theorem VdG.at2 {vd : List (Str × Str)} (h : VdG vd) {H : Hp} {d : Addr} (e : H d = some (.dK (kvOf vd))) : VarsAt H d vd := ⟨e, by have := h.len; omega, fun p hp => (h.ok p hp).1.ok⟩
theorem tda_snoc2 {K : PySem.W.Frag} {H : Hp} : ∀ {vs : List V} {ds : List PyData} {v : V} {d : PyData}, TdAll K H vs ds → Td K H v d → TdAll K H (vs ++ [v]) (ds ++ [d])
 | _, _, _, _, .nil, h => .cons h .nil
 | _, _, _, _, .cons a b, h => .cons a (tda_snoc2 b h)
abbrev s__law_loose_parts : Stmt := topS 24
theorem sc__law_loose_parts : FnScope ["_law_bag_here", "_law_vars_of", "_law_parts", "_law_k", "_law_fork", "_law_leaves", "_law_j"] ["_law_bag_here"] (defScope s__law_loose_parts) := ⟨rfl, rfl, rfl, by decide +kernel, rfl, by decide +kernel, by decide +kernel⟩
section
variable {P : Program} {w : World} {K : PySem.W.Frag} {mg : Str → Option Value} {base : Heap}
structure BiG (mg : Str → Option Value) : Prop where
 b_range : mg "range" = none
 b_tuple : mg "tuple" = none
theorem ok__law_loose_parts {f : Addr} {fd : FuncData} (F : FnP K "_law_loose_parts" s__law_loose_parts f fd) (B : BiG mg) (C__law_pull : CalG P w K mg base 10 "_law_pull" spPull) (C__law_one : CalG P w K mg base 20 "_law_one" (spOne K)) (C__law_leaf : CalG P w K mg base 50 "_law_leaf" (spLeaf K)) (C__law_sum : CalG P w K mg base 55 "_law_sum" (spSum K 5)) :
  FnG P w K mg base CX0 60 f fd ["_law_bag_here"] (spLoose K) := by
 refine okG F sc__law_loose_parts (fun vs H Q E h => ?_) (fun cdv A outer s H vs Q E hr h => ?_)
 ·obtain ⟨b, cs, rfl, _⟩ := h
  rfl
 obtain ⟨b, cs, rfl, hB, q⟩ := h
 have hu := hu_of hr.rm
 refine ⟨_, PSs.nox (pss_cons (ps_set (i := 1) sc__law_loose_parts.nd rfl (.inr rfl) (pe_disp (pps_cons pe_str pe_str (pps_cons pe_str pe_str (pps_cons pe_str pe_str (pps_cons pe_str pe_str pps_nil)))) (by rfl) (by rfl) (fun z => by cases z) (by decide)))
 (pss_cons (ps_set (i := 2) sc__law_loose_parts.nd rfl (.inl rfl) (pe_lst pa_nil))
 (pss_cons (ps_for PassesOwn.never rfl (pi_range1 rfl B.b_range (pa_cons (pe_calG C__law_pull hr rfl (pa_cons (pv 0) (pa_cons pe_int pa_nil))) pa_nil)) (pg_name (i := 3) sc__law_loose_parts.nd rfl (by first | exact Or.inl rfl | exact Or.inr rfl)) (pss_cons (ps_set (i := 4) sc__law_loose_parts.nd rfl (.inl rfl) (pe_calG C__law_pull hr rfl (pa_cons (pv 0) (pa_cons pe_int pa_nil))))
 (pss_cons (ps_setLc (i := 5) (own := [("_law_j", 6)]) (g := gName 6) (tt := tYes) rfl sc__law_loose_parts.nd rfl rfl (sw_true rfl rfl rfl (by decide +kernel)) (pi_range1 rfl B.b_range (pa_cons (pe_op (kOp (K := K) (r := uAdd) rfl opu_add) pe_int (pe_calG C__law_pull hr rfl (pa_cons (pv 0) (pa_cons pe_int pa_nil)))) pa_nil)) (blkOk_by (own := [("_law_j", 6)]) (N := ["_law_bag_here", "_law_vars_of", "_law_parts", "_law_k", "_law_fork", "_law_leaves", "_law_j"]) (sc := defScope s__law_loose_parts) (by decide +kernel)) (fun _ _ _ _ _ => (by exact (pg_name (i := 6) sc__law_loose_parts.nd rfl (by first | exact Or.inl rfl | exact Or.inr rfl)))) (fun _ _ _ _ _ => pts_nil) (fun _ _ _ _ _ => (by exact (pe_calG C__law_leaf hr rfl (pa_cons (pv 0) (pa_cons pe_str (pa_cons (pv 1) pa_nil)))))))
 (pss_one (ps_if (pt_cmpR (kOp (K := K) (r := uLt) rfl opu_lt) (pv 4) pe_int (nomark _)) (pss_one (ps_expr (kBM (K := K) rfl (pe_bm PySem.F.plainAttrs_list PySem.F.slot_list_append PySem.F.type_list_append mt_append (pv 2) (pa_cons (pe_tup (pa_cons (pe_ix (kIx (K := K) (r := rIx) rfl ix_seq) (pe_lst (pa_cons pe_str (pa_cons pe_str pa_nil))) (pv 4) (fun _ _ => rfl)) (pa_cons pe_str (pa_cons (pe_callTy (kCall (K := K) (r := uTuple) rfl callu_tuple) (by rfl) B.b_tuple (by decide +kernel) (pa_cons (pv 5) pa_nil)) pa_nil)))) pa_nil))))) (pss_one (ps_if (pt_cmpR (kOp (K := K) (r := uEq) rfl (opu_eq hr.units)) (pv 4) pe_int (nomark _)) (pss_one (ps_expr (kBM (K := K) rfl (pe_bm PySem.F.plainAttrs_list PySem.F.slot_list_append PySem.F.type_list_append mt_append (pv 2) (pa_cons (pe_tup (pa_cons pe_str (pa_cons (pe_calG C__law_one hr rfl (pa_cons (pv 0) (pa_cons (pe_lst (pa_cons pe_str (pa_cons pe_str (pa_cons pe_str (pa_cons pe_str pa_nil))))) pa_nil))) (pa_cons (pe_calG C__law_sum hr rfl (pa_cons (pv 0) (pa_cons (pv 1) (pa_cons pe_int pa_nil)))) pa_nil)))) pa_nil))))) (pss_one (ps_expr (kBM (K := K) rfl (pe_bm PySem.F.plainAttrs_list PySem.F.slot_list_append PySem.F.type_list_append mt_append (pv 2) (pa_cons (pe_tup (pa_cons pe_str (pa_cons pe_str (pa_cons (pe_calG C__law_sum hr rfl (pa_cons (pv 0) (pa_cons (pv 1) (pa_cons pe_int pa_nil)))) (pa_cons (pe_calG C__law_sum hr rfl (pa_cons (pv 0) (pa_cons (pv 1) (pa_cons pe_int pa_nil)))) pa_nil))))) pa_nil))))))))))))
 (pss_one (ps_ret (pe_callTy (kCall (K := K) (r := uTuple) rfl callu_tuple) (by rfl) B.b_tuple (by decide +kernel) (pa_cons (pv 2) pa_nil))))))), rd_start (σ0 := [some (.ref b), none, none, none, none, none, none]) rfl ?_⟩
 walk_at "q"
 refine g_disp fun d hd => ?_
 have hdb := hB.some hd
 walk_at "q"
 refine ⟨upd_same, kvOf vdL, rfl, by decide, ?_⟩
 rw [vdL_merge, upd_upd]
 have e0 : Fr [] H (upd H d (.dK (kvOf vdL))) := Fr.new hd
 have hV0 : VarsAt (upd H d (.dK (kvOf vdL))) d vdL := vdL_g.at2 upd_same
 have hB0 := hB.fr0 e0
 have hdM : d ∉ [b] := fun z => hdb.1 (List.mem_singleton.mp z)
 generalize upd H d (.dK (kvOf vdL)) = H0 at *
 walk_at "q"
 refine ⟨le_of (by simp), fun T hT => ?_⟩
 have e1 : Fr [] H0 (upd H0 T (.lst [])) := Fr.new hT
 have hT1 : (upd H0 T (.lst [])) T = some (.lst []) := upd_same
 have hTb := hB0.some hT
 have hTM : T ∉ [b] := fun z => hTb.1 (List.mem_singleton.mp z)
 have hTd : T ≠ d := fun e => by rw [e, hV0.at_] at hT; cases hT
 have hTH : H T = none := e0.back (fun z => nomatch z) hT
 have hV1 := hV0.fr e1 (fun z => nomatch z)
 have hB1 := hB0.fr0 e1
 have E1 : Fr [b] H (upd H0 T (.lst [])) := (e0.trans e1).nil
 generalize upd H0 T (.lst []) = H1 at *
 walk_at "q"
 refine ⟨b, cs, _, rfl, hB1, by decide, by decide, fun dd H2 d0 d1 hB2 hF2 => ?_⟩
 obtain ⟨m, rfl⟩ : ∃ m : Nat, dd = (m : Int) := ⟨dd.toNat, by omega⟩
 walk_at "q"
 refine ⟨_, rfl, by omega, by omega, for_range (lo := 0) (n := m) (fun i σ H' => (∃ z3 z4 z5 z6, σ = [some (.ref b), some (.ref d), some (.ref T), z3, z4, z5, z6]) ∧ BagAt H' b cs ∧ Fr [b] H H' ∧ VarsAt H' d vdL ∧ ∃ (us : List V) (ps : List PartE), H' T = some (.lst us) ∧ TdAll K H' us (ps.map PartE.d) ∧ ps.length = i ∧ ∀ p ∈ ps, PartA p)
  ⟨⟨_, _, _, _, rfl⟩, hB2, E1.trans hF2, hV1.fr hF2 hdM, [], [], hF2.at hT1 hTM, .nil, rfl, (fun _ z => nomatch z)⟩ (fun i σ H3 hi h => ?_) (fun σ H3 h => ?_)⟩
 ·obtain ⟨⟨z3, z4, z5, z6, rfl⟩, hB3, E3, hV3, us, ps, hT3, htd, hpl, hpa⟩ := h
  have hul := (tda_get htd).1
  have fin : ∀ (H9 : Hp) (v : V) (p : PartE), BagAt H9 b cs → Fr [b] H H9 → VarsAt H9 d vdL → H9 T = some (.lst us) → TdAll K H9 us (ps.map PartE.d) → Td K H9 v p.d → PartA p →
    BagAt (upd H9 T (.lst (us ++ [v]))) b cs ∧ Fr [b] H (upd H9 T (.lst (us ++ [v]))) ∧ VarsAt (upd H9 T (.lst (us ++ [v]))) d vdL ∧ ∃ (us' : List V) (ps' : List PartE), (upd H9 T (.lst (us ++ [v]))) T = some (.lst us') ∧ TdAll K (upd H9 T (.lst (us ++ [v]))) us' (ps'.map PartE.d) ∧ ps'.length = i + 1 ∧ ∀ p ∈ ps', PartA p := by
   intro H9 v p hB9 E9 hV9 hT9 ht9 hv hp
   have e : Fr [T] H9 (upd H9 T (.lst (us ++ [v]))) := Fr.mut (List.mem_singleton.mpr rfl) hT9 nofix_lst
   refine ⟨hB9.fr e (fun z => hTb.1 (List.mem_singleton.mp z).symm) (fun z => hTb.2 (List.mem_singleton.mp z).symm), E9.over hTH, hV9.fr e (fun z => hTd (List.mem_singleton.mp z).symm), us ++ [v], ps ++ [p], upd_same, ?_, by rw [List.length_append, hpl]; rfl, fun x hx => ?_⟩
   ·rw [List.map_append]
    exact (tda_snoc2 ht9 hv).fr e
   ·rcases List.mem_append.mp hx with hx | hx
    ·exact hpa x hx
    ·rw [List.mem_singleton.mp hx]; exact hp
  have lus : us.length < sizeLine := lt_of (by omega)
  walk_at "q"
  refine ⟨b, cs, _, rfl, hB3, by decide, by decide, fun fork H4 f0 f1 hB4 hF4 => ?_⟩
  have hT4 := hF4.at hT3 hTM
  have hV4 := hV3.fr hF4 hdM
  have E4 := E3.trans hF4
  walk_at "q"
  refine ⟨b, cs, _, rfl, hB4, by decide, by decide, fun dd H5 d0 d1 hB5 hF5 => ?_⟩
  obtain ⟨n, rfl⟩ : ∃ n : Nat, dd = (n : Int) := ⟨dd.toNat, by omega⟩
  have hT5 := hF5.at hT4 hTM
  have hV5 := hV4.fr hF5 hdM
  have E5 := E4.trans hF5
  have ht5 := (htd.fr hF4).fr hF5
  walk_at "q"
  refine ⟨_, rfl, by omega, by omega, fun D hD => lc_it (walk_range (lo := 0) (n := 1 + n)) (fun i H' => BagAt H' b cs ∧ Fr [b] H5 H' ∧ ∃ (ys : List V) (ts : List TermE), H' D = some (.lst ys) ∧ TdAll K H' ys (ts.map TermE.d) ∧ ts.length = i ∧ ∀ t ∈ ts, TermG t)
   ⟨hB5.fr0 (Fr.new hD), Fr.new hD, [], [], upd_same, .nil, rfl, (fun _ z => nomatch z)⟩ (fun i H' _ h => trivial) (fun i x H' H'' hi h y => ?_) (fun H6 h => ?_)⟩
  ·obtain ⟨rfl, rfl⟩ := y
   obtain ⟨hBi, hFi, ys, ts, hDi, htdi, htl, htw⟩ := h
   have hDb := hB5.some hD
   have hDM : D ∉ [b] := fun z => hDb.1 (List.mem_singleton.mp z)
   have hyl := (tda_get htdi).1
   walk_at "q"
   refine ⟨rfl, ?_⟩
   walk_at "q"
   refine ⟨b, cs, d, "number", vdL, rfl, .inl rfl, hBi, hV5.fr hFi hdM, fun x H3 hx hB3 hF3 => ?_⟩
   obtain ⟨ex, hex, htx⟩ := hx.w vdL_g
   have hD3 := hF3.at hDi hDM
   have eD : Fr [D] H3 (upd H3 D (.lst (ys ++ [.ref x]))) := Fr.mut (List.mem_singleton.mpr rfl) hD3 nofix_lst
   refine ⟨ys, hD3, lt_of (by omega), hB3.fr eD (fun z => hDb.1 (List.mem_singleton.mp z).symm) (fun z => hDb.2 (List.mem_singleton.mp z).symm), (hFi.trans hF3).over hD, ys ++ [.ref x], ts ++ [.s ex], upd_same, ?_, by rw [List.length_append, htl]; rfl, fun a ha => ?_⟩
   ·rw [List.map_append]
    exact (tda_snoc2 (htdi.fr hF3) (show Td K H3 (.ref x) (TermE.d (.s ex)) from htx)).fr eD
   ·rcases List.mem_append.mp ha with ha | ha
    ·exact htw a ha
    ·rw [List.mem_singleton.mp ha]; exact .s hex.g
  ·obtain ⟨hB6, hF6, ys, ts, hD6, htd6, htl, htw⟩ := h
   have hT6 := hF6.at hT5 hTM
   have hV6 := hV5.fr hF6 hdM
   have E6 := E5.trans hF6
   have ht6 := ht5.fr hF6
   walk_at "q"
   refine g_by (fun c => ?_) (fun c => ?_)
   ·walk_at "q"
    refine ⟨le_of (by simp), fun p7 hp7 => ?_⟩
    have e7 : Fr [] H6 (upd H6 p7 (.lst [.str "atom", .str "not"])) := Fr.new hp7
    have h7 : (upd H6 p7 (.lst [V.str "atom", .str "not"])) p7 = some (.lst [.str "atom", .str "not"]) := upd_same
    have hT7 := e7.at hT6 (fun z => nomatch z)
    have hD7 := e7.at hD6 (fun z => nomatch z)
    have hB7 := hB6.fr0 e7
    have hV7 := hV6.fr e7 (fun z => nomatch z)
    have E7 := E6.trans e7.nil
    have ht7 := ht6.fr e7
    have htd7 := htd6.fr e7
    generalize upd H6 p7 (.lst [V.str "atom", .str "not"]) = H7 at *
    walk_at "q"
    obtain ⟨no, hno⟩ : ∃ no : Bool, atI [V.str "atom", .str "not"] fork = some (.str (if no then "not" else "atom")) := by
     have : fork = 0 ∨ fork = 1 := by omega
     rcases this with rfl | rfl
     ·exact ⟨false, rfl⟩
     ·exact ⟨true, rfl⟩
    refine g_ixL (SqL.of h7) hno ?_
    walk_at "q"
    refine g_tupleL (SqL.of hD7) fun p8 hp8 => ?_
    have e8 : Fr [] H7 (upd H7 p8 (.tup ys)) := Fr.new hp8
    have h8 : (upd H7 p8 (.tup ys)) p8 = some (.tup ys) := upd_same
    have hT8 := e8.at hT7 (fun z => nomatch z)
    have hB8 := hB7.fr0 e8
    have hV8 := hV7.fr e8 (fun z => nomatch z)
    have E8 := E7.trans e8.nil
    have ht8 := ht7.fr e8
    have htd8 := htd7.fr e8
    generalize upd H7 p8 (.tup ys) = H8 at *
    walk_at "q"
    refine ⟨le_of (by simp), fun p9 hp9 => ?_⟩
    have e9 : Fr [] H8 (upd H8 p9 (.tup [.str (if no then "not" else "atom"), .str "h.b", .ref p8])) := Fr.new hp9
    have hT9 := e9.at hT8 (fun z => nomatch z)
    walk_at "q"
    refine ⟨T, us, .ref p9, rfl, rfl, hT9, lus, ?_⟩
    obtain ⟨a1, a2, a3, a4⟩ := fin _ (.ref p9) (.atom no "h.b" ts) (hB8.fr0 e9) (E8.trans e9.nil) (hV8.fr e9 (fun z => nomatch z)) hT9 (ht8.fr e9) (.tup (SqT.of upd_same) (.cons (.str _) (.cons (.str _) (.cons (.tup (SqT.of (e9.at h8 (fun z => nomatch z))) (htd8.fr e9)) .nil)))) (.atom (by omega) htw)
    exact ⟨⟨_, _, _, _, rfl⟩, a1, a2, a3, a4⟩
   ·walk_at "q"
    refine g_by (fun c2 => ?_) (fun c2 => ?_)
    ·walk_at "q"
     refine ⟨le_of (by simp), fun p7 hp7 => ?_⟩
     have e7 : Fr [] H6 (upd H6 p7 (.lst [.str "x", .str "y", .str "u", .str "v"])) := Fr.new hp7
     have h7 : (upd H6 p7 (.lst [V.str "x", .str "y", .str "u", .str "v"])) p7 = some (.lst [.str "x", .str "y", .str "u", .str "v"]) := upd_same
     have hb7 := (hB6.some hp7).1
     have hT7 := e7.at hT6 (fun z => nomatch z)
     have hB7 := hB6.fr0 e7
     have hV7 := hV6.fr e7 (fun z => nomatch z)
     have E7 := E6.trans e7.nil
     have ht7 := ht6.fr e7
     generalize upd H6 p7 (.lst [V.str "x", .str "y", .str "u", .str "v"]) = H7 at *
     walk_at "q"
     refine ⟨b, cs, p7, (["x", "y", "u", "v"] : List Str).map V.str, rfl, hB7, .inl ⟨SqL.of h7, hb7⟩, by decide, by decide, fun xv H8 hxv hB8 hF8 => ?_⟩
     obtain ⟨x, hx, rfl⟩ := List.mem_map.mp hxv
     have hxz : ∀ x ∈ (["x", "y", "u", "v"] : List Str), txB 12 x = true := by decide +kernel
     have hxl : ∀ x ∈ (["x", "y", "u", "v"] : List Str), Tx 12 x := fun x hx => Tx.lit (hxz x hx)
     have hT8 := hF8.at hT7 hTM
     have hV8 := hV7.fr hF8 hdM
     walk_at "q"
     refine ⟨b, cs, d, 2, vdL, rfl, by decide, hB8, hV8, fun e v H9 he hs hB9 hF9 => ?_⟩
     have hw := he.w vdL_g
     have hv := hs.td hw
     have hT9 := hF9.at hT8 hTM
     walk_at "q"
     refine ⟨le_of (by simp), fun p10 hp10 => ?_⟩
     have e10 : Fr [] H9 (upd H9 p10 (.tup [.str "let", .str x, v])) := Fr.new hp10
     have hT10 := e10.at hT9 (fun z => nomatch z)
     walk_at "q"
     refine ⟨T, us, .ref p10, rfl, rfl, hT10, lus, ?_⟩
     obtain ⟨a1, a2, a3, a4⟩ := fin _ (.ref p10) (.lt x e) (hB9.fr0 e10) (((E7.trans hF8).trans hF9).trans e10.nil) ((hV8.fr hF9 hdM).fr e10 (fun z => nomatch z)) hT10 (((ht7.fr hF8).fr hF9).fr e10) (.tup (SqT.of upd_same) (.cons (.str _) (.cons (.str _) (.cons (hv.fr e10) .nil)))) (.lt (hxl x hx) hw.g)
     exact ⟨⟨_, _, _, _, rfl⟩, a1, a2, a3, a4⟩
    ·walk_at "q"
     refine ⟨b, cs, d, 1, vdL, rfl, by decide, hB6, hV6, fun e v H9 he hs hB9 hF9 => ?_⟩
     have hw := he.w vdL_g
     have hv := hs.td hw
     have hV9 := hV6.fr hF9 hdM
     have hT9 := hF9.at hT6 hTM
     walk_at "q"
     refine ⟨b, cs, d, 1, vdL, rfl, by decide, hB9, hV9, fun e2 v2 H10 he2 hs2 hB10 hF10 => ?_⟩
     have hw2 := he2.w vdL_g
     have hv2 := hs2.td hw2
     have hT10 := hF10.at hT9 hTM
     walk_at "q"
     refine ⟨le_of (by simp), fun p11 hp11 => ?_⟩
     have e11 : Fr [] H10 (upd H10 p11 (.tup [.str "test", .str "<", v, v2])) := Fr.new hp11
     have hT11 := e11.at hT10 (fun z => nomatch z)
     walk_at "q"
     refine ⟨T, us, .ref p11, rfl, rfl, hT11, lus, ?_⟩
     obtain ⟨a1, a2, a3, a4⟩ := fin _ (.ref p11) (.test "<" e e2) (hB10.fr0 e11) (((E6.trans hF9).trans hF10).trans e11.nil) ((hV9.fr hF10 hdM).fr e11 (fun z => nomatch z)) hT11 (((ht6.fr hF9).fr hF10).fr e11) (.tup (SqT.of upd_same) (.cons (.str _) (.cons (.str _) (.cons ((hv.fr hF10).fr e11) (.cons (hv2.fr e11) .nil))))) (.test (hw.g.up (by decide)) (hw2.g.up (by decide)))
     exact ⟨⟨_, _, _, _, rfl⟩, a1, a2, a3, a4⟩
 ·obtain ⟨⟨z3, z4, z5, z6, rfl⟩, hB3, E3, hV3, us, ps, hT3, htd, hpl, hpa⟩ := h
  walk_at "q"
  refine g_tupleL (SqL.of hT3) fun p hp => ?_
  have e : Fr [] H3 (upd H3 p (.tup us)) := Fr.new hp
  exact q _ ps _ (.tup (SqT.of upd_same) (htd.fr e)) ⟨by omega, hpa⟩ (hB3.fr0 e) (E3.trans e.nil)
end
def spLaw (K : PySem.W.Frag) : Sp := fun vs H Q _ => ∃ (a : Addr) (ns : List Int), vs = [.ref a] ∧ SqL K H a (ns.map V.int) ∧ ns.length ≤ 63 ∧ ∀ H', Q (.bl true) H'
abbrev s_law : Stmt := topS 25
theorem sc_law : FnScope ["_law_script", "_law_bag_here", "_law_k", "_law_parts", "_law_due", "_law_part", "_law_name", "_law_again", "_law_found", "_law_places"] ["_law_script"] (defScope s_law) := ⟨rfl, rfl, rfl, by decide +kernel, rfl, by decide +kernel, by decide +kernel⟩
section
variable {P : Program} {w : World} {K : PySem.W.Frag} {mg : Str → Option Value} {base : Heap}
structure BiK (mg : Str → Option Value) : Prop where
 b_range : mg "range" = none
 b_int : mg "int" = none
theorem sm_word {ws : List Str} (hl : ws.length ≤ 10000) (h : ∀ x ∈ ws, Tx 12 x) : Sm 2 (.list (ws.map .str)) := ⟨by rw [List.length_map]; exact hl, fun d hd => by
 obtain ⟨x, hx, rfl⟩ := List.mem_map.mp hd
 exact (h x hx).short (by decide)⟩
theorem sm_nats {ns : List Nat} (hl : ns.length ≤ 10000) (h : ∀ x ∈ ns, x ≤ 1000) : Sm 2 (.list (ns.map fun k : Nat => PyData.int (k : Int))) := ⟨by rw [List.length_map]; exact hl, fun d hd => by
 obtain ⟨x, hx, rfl⟩ := List.mem_map.mp hd
 have := h x hx
 exact PySem.Flt.log2_lt_of (k := 100) (by decide) (Nat.lt_of_le_of_lt (show ((x : Int)).natAbs ≤ 1000 by omega) (by decide)) |> fun z => Nat.lt_trans z (by decide)⟩
theorem g_par {i j : Nat} {ta : TA} {D : Ends} {σ : L2.St} {H : Hp} (q : ta σ H fun vs H1 => ∃ v w, vs = [v, w] ∧ D.nx ((σ.set i (some v)).set j (some w)) H1) : tPar i j ta D σ H := q
theorem dp_nats {K : PySem.W.Frag} {H : Hp} {p : Addr} {ns : List Nat} (h : SqL K H p (natsV ns)) : Dp K H (.ref p) (.list (ns.map fun k : Nat => PyData.int (k : Int))) := by
 refine .lst h ?_
 unfold natsV
 clear h
 induction ns with
 | nil => exact .nil
 | cons x r ih => exact .cons (.int _) ih
theorem order_mem {ps : List PartE} : ∀ {f : Nat} {ns : List Nat} {xs : List Str} {k : Nat}, k ∈ orderP ps f ns xs → k ∈ ns
 | 0, _, _, _, h => nomatch h
 | f + 1, ns, xs, k, h => by
  unfold orderP at h
  split at h
  ·cases h
  ·rename_i j hj
   rcases List.mem_cons.mp h with rfl | h
   ·exact nextP_mem hj
   ·exact List.mem_of_mem_erase (order_mem h)
theorem order_len {ps : List PartE} : ∀ {f : Nat} {ns : List Nat} {xs : List Str}, (orderP ps f ns xs).length ≤ f
 | 0, _, _ => Nat.le_refl _
 | f + 1, ns, xs => by
  unfold orderP
  split
  ·exact Nat.zero_le _
  ·exact Nat.succ_le_succ order_len
theorem once_mem {ws : List Str} : ∀ {acc : List Str} {x : Str}, x ∈ onceA acc ws → x ∈ acc ∨ x ∈ ws := by
 induction ws with
 | nil => exact fun h => .inl h
 | cons y r ih =>
  intro acc x h
  rcases ih (show x ∈ onceA (addL acc y) r from h) with h | h
  ·exact (addL_mem.mp h).elim .inl fun e => .inr (by rw [e]; exact List.mem_cons_self)
  ·exact .inr (List.mem_cons_of_mem _ h)
theorem ok_law {f : Addr} {fd : FuncData} (F : FnP K "law" s_law f fd) (B : BiK mg) (C__law_bag : CalG P w K mg base 10 "_law_bag" (spBag K)) (C__law_loose_parts : CalG P w K mg base 60 "_law_loose_parts" (spLoose K)) (C__law_same : CalG P w K mg base 3 "_law_same" (spSame K 3))
  (C__law_part_vars : CalG P w K mg base 6 "_law_part_vars" (spNames1 K PartE.d PartA partV)) (C_variables : CalG P w K mg base 7 "variables" (spNames1 K partsDd partsA fun ps => onceA [] (ps.flatMap partV))) (C_ordered : CalG P w K mg base 9 "ordered" (spOrder K)) (C__law_order : CalG P w K mg base 9 "_law_order" (spOrder K)) :
  FnG P w K mg base CX0 100 f fd ["_law_script"] (spLaw K) := by
 refine okG F sc_law (fun vs H Q E h => ?_) (fun cdv A outer s H vs Q E hr h => ?_)
 ·obtain ⟨a, ns, rfl, _⟩ := h
  rfl
 obtain ⟨a, ns, rfl, hS, hl, q⟩ := h
 refine ⟨_, PSs.nox (pss_cons (ps_set (i := 1) sc_law.nd rfl (.inl rfl) (pe_calG C__law_bag hr rfl (pa_cons (pv 0) pa_nil)))
 (pss_cons (ps_for PassesOwn.never rfl (pi_range1 rfl B.b_range (pa_cons pe_int pa_nil)) (pg_name (i := 2) sc_law.nd rfl (by first | exact Or.inl rfl | exact Or.inr rfl)) (pss_cons (ps_set (i := 3) sc_law.nd rfl (.inl rfl) (pe_calG C__law_loose_parts hr rfl (pa_cons (pv 1) pa_nil)))
 (pss_cons (ps_set (i := 4) sc_law.nd rfl (.inl rfl) (pe_lst pa_nil))
 (pss_cons (ps_for PassesOwn.never rfl (pi_tupK (K := K) rfl (pv 3)) (pg_name (i := 5) sc_law.nd rfl (by first | exact Or.inl rfl | exact Or.inr rfl)) (pss_one (ps_for PassesOwn.never rfl (pi_listK (K := K) rfl (pe_calG C__law_part_vars hr rfl (pa_cons (pv 5) pa_nil))) (pg_name (i := 6) sc_law.nd rfl (by first | exact Or.inl rfl | exact Or.inr rfl)) (pss_one (ps_set (i := 4) sc_law.nd rfl (.inl rfl) (pe_op (kOp (K := K) (r := uAdd) rfl opu_add) (pv 4) (pe_op opu_mul (pe_lst (pa_cons (pv 6) pa_nil)) (pe_callTy callu_int (by rfl) B.b_int (by decide +kernel) (pa_cons (pe_cmpR (kOp (K := K) (r := uNotIn) rfl opu_notIn) (pv 6) (pv 4) (by rfl)) pa_nil)))))))))
 (pss_one (ps_for PassesOwn.never rfl (pi_range1 rfl B.b_range (pa_cons pe_int pa_nil)) (pg_name (i := 7) sc_law.nd rfl (by first | exact Or.inl rfl | exact Or.inr rfl)) (pss_cons (ps_par (i := 8) (j := 9) (by rfl) sc_law.nd rfl rfl (by decide) rfl rfl (pa_cons (pe_calG C_variables hr rfl (pa_cons (pv 3) pa_nil)) (pa_cons (pe_calG C_ordered hr rfl (pa_cons (pv 3) pa_nil)) pa_nil)) (by rfl))
 (pss_cons (ps_if (pt_not (pt_val (pe_calG C__law_same hr rfl (pa_cons (pe_lst (pa_cons (pv 8) (pa_cons (pv 9) pa_nil))) (pa_cons (pe_lst (pa_cons (pv 4) (pa_cons (pe_calG C__law_order hr rfl (pa_cons (pv 3) pa_nil)) pa_nil))) pa_nil))))) (pss_one (ps_ret pe_bl)) pss_nil)
 (pss_cons (ps_expr (kBM (K := K) rfl (pe_bm PySem.F.plainAttrs_list PySem.F.slot_list_append PySem.F.type_list_append mt_append (pv 8) (pa_cons pe_str pa_nil))))
 (pss_one (ps_expr (kBM0 (K := K) rfl (pe_bm0 PySem.F.plainAttrs_list PySem.F.slot_list_clear PySem.F.type_list_clear mt_clear (pv 9))))))))))))))
 (pss_one (ps_ret pe_bl)))), rd_start (σ0 := [some (.ref a), none, none, none, none, none, none, none, none, none]) rfl ?_⟩
 walk_at "q"
 refine ⟨a, ns, rfl, hS, hl, fun b cs H1 hF1 hb1 hB1 => ?_⟩
 walk_at "q"
 refine ⟨6, rfl, by decide, by decide, for_range (lo := 0) (n := 6) (fun i σ H' => BagAt H' b cs ∧ ∃ z1 z2 z3 z4 z5 z6 z7 z8, σ = [some (.ref a), some (.ref b), z1, z2, z3, z4, z5, z6, z7, z8]) ⟨hB1, _, _, _, _, _, _, _, _, rfl⟩ (fun i σ H2 hi h => ?_) (fun σ H' h => ?_)⟩
 ·obtain ⟨hB2, z1, z2, z3, z4, z5, z6, z7, z8, rfl⟩ := h
  walk_at "q"
  refine ⟨b, cs, rfl, hB2, fun v ps H3 hv hp hB3 hF3 => ?_⟩
  obtain ⟨r, us, rfl, hr3, ht⟩ := Td.tuple_inv (show Td K H3 v (.tuple (ps.map PartE.d)) from hv)
  obtain ⟨k1, k2⟩ := tda_get ht
  walk_at "q"
  refine ⟨le_of (by simp), fun d hd => ?_⟩
  have e4 : Fr [] H3 (upd H3 d (.lst [])) := Fr.new hd
  have hd4 : (upd H3 d (.lst [])) d = some (.lst (([] : List Str).map V.str)) := upd_same
  generalize upd H3 d (.lst []) = H4 at *
  walk_at "q"
  refine ⟨r, rfl, ⟨_, e4.tup hr3⟩, for_tup (xs := us) (fun j σ H' => (∃ dd z1 z5 z6 z7 z8 z9, σ = [some (.ref a), some (.ref b), z1, some (.ref r), some (.ref dd), z5, z6, z7, z8, z9] ∧ H' dd = some (.lst ((onceA [] ((ps.take j).flatMap partV)).map V.str))) ∧ Fr [] H3 H') ⟨⟨d, _, _, _, _, _, _, rfl, hd4⟩, e4⟩ (fun i σ H' _ h => h.2.tup hr3) (fun j x σ H5 hx h => ?_) (fun σ H5 h => ?_)⟩
  ·obtain ⟨⟨dd, z1, z5, z6, z7, z8, z9, rfl, hdd⟩, e5⟩ := h
   obtain ⟨p, hpp, htd⟩ := k2 j x hx
   have hpA := hp.2 p (List.mem_of_getElem? hpp)
   have hj : j < ps.length := (List.getElem?_eq_some_iff.mp hpp).1
   have step : (ps.take (j + 1)).flatMap partV = (ps.take j).flatMap partV ++ partV p := by rw [List.take_succ, hpp, List.flatMap_append]; simp
   have len1 : ((ps.take j).flatMap partV).length ≤ 80 := by
    have := flat_len (ps := ps.take j) fun p hp' => hp.2 p (List.mem_of_mem_take hp')
    rw [List.length_take] at this
    have := hp.1
    omega
   have len2 := partV_len hpA
   walk_at "q"
   refine ⟨x, p, rfl, htd.fr e5, hpA, fun l H6 e6 hn6 h6 => ?_⟩
   refine ⟨l, rfl, ⟨_, SqL.of h6⟩, for_list (xs := (partV p).map V.str) (fun i σ H' => (∃ dd z6 z7 z8 z9, σ = [some (.ref a), some (.ref b), z1, some (.ref r), some (.ref dd), some x, z6, z7, z8, z9] ∧ H' dd = some (.lst ((onceA [] ((ps.take j).flatMap partV ++ (partV p).take i)).map V.str))) ∧ Fr [] H3 H' ∧ H' l = some (.lst ((partV p).map V.str)))
    ⟨⟨dd, _, _, _, _, rfl, by rw [List.take_zero, List.append_nil]; exact e6.at hdd (fun z => nomatch z)⟩, e5.trans e6, h6⟩ (fun i σ H' _ h => SqL.of h.2.2) (fun i y σ H7 hy h => ?_) (fun σ H7 h => ?_)⟩
   ·obtain ⟨⟨dd, z6, z7, z8, z9, rfl, hd7⟩, e7, h7⟩ := h
    rw [List.getElem?_map] at hy
    cases hw : (partV p)[i]? with
    | none => rw [hw] at hy; cases hy
    | some z =>
     rw [hw] at hy
     cases hy
     have step2 : onceA [] ((ps.take j).flatMap partV ++ (partV p).take (i + 1)) = addL (onceA [] ((ps.take j).flatMap partV ++ (partV p).take i)) z := by
      rw [List.take_succ, hw, ← List.append_assoc]
      exact onceA_snoc _ z []
     have lon : (onceA [] ((ps.take j).flatMap partV ++ (partV p).take i)).length ≤ 100 := by
      have := onceA_len ((ps.take j).flatMap partV ++ (partV p).take i) []
      rw [List.length_append, List.length_take, List.length_nil] at this
      omega
     generalize onceA [] ((ps.take j).flatMap partV ++ (partV p).take i) = due at *
     walk_at "q"
     refine ⟨le_of (by simp), fun p8 hp8 => ?_⟩
     have e8 : Fr [] H7 (upd H7 p8 (.lst [.str z])) := Fr.new hp8
     have h8 : (upd H7 p8 (.lst [V.str z])) p8 = some (.lst [.str z]) := upd_same
     have hd8 := e8.at hd7 (fun z => nomatch z)
     have hl8 := e8.at h7 (fun z => nomatch z)
     generalize upd H7 p8 (.lst [V.str z]) = H8 at *
     walk_at "q"
     refine g_notInT (.inl (SqL.of hd8)) (flat_strs _) ?_
     rw [inV_str]
     walk_at "q"
     refine g_intB ?_
     have fin : ∀ (k : Int) (tl : List Str), (k = 0 ∨ k = 1) → (List.replicate k.toNat [V.str z]).flatten = tl.map V.str → due ++ tl = addL due z → ∀ A : V → Hp → Prop, (∀ (p10 : Addr) (H10 : Hp), Fr [] H8 H10 → H10 p10 = some (.lst ((addL due z).map V.str)) → A (.ref p10) H10) → uMul (.ref p8) (.int k) H8 fun y H9 => uAdd K (.ref dd) y H9 A := by
      intro k tl hk htl htd A hA
      refine g_repL h8 (by omega) (by omega) (by rcases hk with rfl | rfl; exact Nat.zero_le _; exact (show 1 * 1 ≤ sizeLine by decide)) fun p9 hp9 => ?_
      have e9 : Fr [] H8 (upd H8 p9 (.lst (List.replicate k.toNat [V.str z]).flatten)) := Fr.new hp9
      have h9 : (upd H8 p9 (.lst (List.replicate k.toNat [V.str z]).flatten)) p9 = some (.lst (tl.map V.str)) := by rw [upd_same, htl]
      have lt1 := congrArg List.length htd
      have lt2 := addL_len due z
      rw [List.length_append] at lt1
      refine g_addL (e9.at hd8 (fun z => nomatch z)) h9 (le_of (by rw [List.length_map, List.length_map]; omega)) fun p10 hp10 => ?_
      exact hA p10 _ (e9.trans (Fr.new hp10)) (by rw [upd_same, ← List.map_append, htd])
     have last : ∀ (p10 : Addr) (H10 : Hp), Fr [] H8 H10 → H10 p10 = some (.lst ((addL due z).map V.str)) → (∃ dd' z6 z7' z8' z9', [some (.ref a), some (.ref b), z1, some (.ref r), some (.ref p10), some x, some (.str z), z7, z8, z9] = [some (.ref a), some (.ref b), z1, some (.ref r), some (.ref dd'), some x, z6, z7', z8', z9'] ∧ H10 dd' = some (.lst ((addL due z).map V.str))) ∧ Fr [] H3 H10 ∧ H10 l = some (.lst ((partV p).map V.str)) :=
      fun p10 H10 e10 h10 => ⟨⟨p10, _, _, _, _, rfl, h10⟩, (e7.trans e8).trans e10, e10.at hl8 (fun z => nomatch z)⟩
     rw [step2]
     by_cases c : z ∈ due
     ·rw [decide_eq_true c]
      exact fin 0 [] (.inl rfl) rfl (by unfold addL; rw [if_pos c, List.append_nil]) _ last
     ·rw [decide_eq_false c]
      exact fin 1 [z] (.inr rfl) rfl (by unfold addL; rw [if_neg c]) _ last
   ·obtain ⟨⟨dd, z6, z7, z8, z9, rfl, hd7⟩, e7, h7⟩ := h
    rw [List.length_map, List.take_length, ← step] at hd7
    exact ⟨⟨dd, _, _, _, _, _, _, rfl, hd7⟩, e7⟩
  ·obtain ⟨⟨dd, z1, z5, z6, z7, z8, z9, rfl, hdd⟩, e5⟩ := h
   rw [k1, List.take_length] at hdd
   have hlen : (onceA [] (ps.flatMap partV)).length ≤ 80 := by
    have h1 := onceA_len (ps.flatMap partV) []
    have h2 := flat_len hp.2
    have h3 := hp.1
    rw [List.length_nil] at h1
    omega
   have htx : ∀ x ∈ onceA [] (ps.flatMap partV), Tx 12 x := fun x hx => by
    rcases once_mem hx with h | h
    ·cases h
    ·obtain ⟨p, hpm, hx⟩ := List.mem_flatMap.mp h
     exact partV_tx (hp.2 p hpm) x hx
   have hon : ∀ k ∈ orderP ps ps.length (List.range ps.length) [], k ≤ 1000 := fun k hk => by
    have := List.mem_range.mp (order_mem hk)
    have := hp.1
    omega
   have hol : (orderP ps ps.length (List.range ps.length) []).length ≤ 10 := Nat.le_trans order_len hp.1
   obtain ⟨W, hW⟩ : ∃ W, W = onceA [] (ps.flatMap partV) := ⟨_, rfl⟩
   obtain ⟨N, hN⟩ : ∃ N, N = orderP ps ps.length (List.range ps.length) [] := ⟨_, rfl⟩
   rw [← hW] at hdd hlen htx
   rw [← hN] at hon hol
   have hv3 : Td K H3 (.ref r) (partsDd ps) := hv
   walk_at "q"
   refine ⟨2, rfl, by decide, by decide, for_range (lo := 0) (n := 2) (fun i σ H' => (∃ z1 z5 z6 z7 z8 z9, σ = [some (.ref a), some (.ref b), z1, some (.ref r), some (.ref dd), z5, z6, z7, z8, z9]) ∧ H' dd = some (.lst (W.map V.str)) ∧ Fr [] H3 H') ⟨⟨_, _, _, _, _, _, rfl⟩, hdd, e5⟩ (fun i σ H6 hi h => ?_) (fun σ H6 h => ?_)⟩
   ·obtain ⟨⟨z1, z5, z6, z7, z8, z9, rfl⟩, hd6, e6⟩ := h
    walk_at "q"
    refine g_par ?_
    walk_at "q"
    refine ⟨_, ps, rfl, hv3.fr e6, hp, fun p1 Ha ea hna ha => ?_⟩
    replace ha : Ha p1 = some (.lst (W.map V.str)) := by rw [hW]; exact ha
    walk_at "q"
    refine ⟨_, ps, rfl, (hv3.fr e6).fr ea, hp, fun p2 Hb eb hnb hb => ?_⟩
    replace hb : Hb p2 = some (.lst (natsV N)) := by rw [hN]; exact hb
    have ha2 := eb.at ha (fun z => nomatch z)
    have hp21 : p2 ≠ p1 := fun e => by rw [e, ha] at hnb; cases hnb
    walk_at "q"
    refine ⟨_, _, rfl, ?_⟩
    walk_at "q"
    refine ⟨le_of (by simp), fun p3 hp3 => ?_⟩
    have e3 : Fr [] Hb (upd Hb p3 (.lst [.ref p1, .ref p2])) := Fr.new hp3
    have h3 : (upd Hb p3 (.lst [V.ref p1, .ref p2])) p3 = some (.lst [.ref p1, .ref p2]) := upd_same
    generalize upd Hb p3 (.lst [V.ref p1, .ref p2]) = Hc at *
    walk_at "q"
    refine ⟨_, ps, rfl, (((hv3.fr e6).fr ea).fr eb).fr e3, hp, fun p4 Hd ed hnd hd' => ?_⟩
    replace hd' : Hd p4 = some (.lst (natsV N)) := by rw [hN]; exact hd'
    walk_at "q"
    refine ⟨le_of (by simp), fun p5 hp5 => ?_⟩
    have e5' : Fr [] Hd (upd Hd p5 (.lst [.ref dd, .ref p4])) := Fr.new hp5
    have h5 : (upd Hd p5 (.lst [V.ref dd, .ref p4])) p5 = some (.lst [.ref dd, .ref p4]) := upd_same
    generalize upd Hd p5 (.lst [V.ref dd, .ref p4]) = He at *
    have ebe := (e3.trans ed).trans e5'
    walk_at "q"
    refine ⟨_, _, .list [strsD W, .list (N.map fun k : Nat => PyData.int (k : Int))], rfl, .lst (SqL.of ((ed.trans e5').at h3 (fun z => nomatch z))) (.cons (dp_strs (SqL.of (ebe.at ha2 (fun z => nomatch z)))) (.cons (dp_nats (SqL.of (ebe.at hb (fun z => nomatch z)))) .nil)),
     .lst (SqL.of h5) (.cons (dp_strs (SqL.of ((ea.trans (eb.trans ebe)).at hd6 (fun z => nomatch z)))) (.cons (dp_nats (SqL.of (e5'.at hd' (fun z => nomatch z)))) .nil)), ⟨show 2 ≤ 10000 by decide, ?_⟩, fun Hf ef => ?_⟩
    ·intro x hx
     simp only [List.mem_cons, List.not_mem_nil, or_false] at hx
     rcases hx with rfl | rfl
     ·exact sm_word (by omega) htx
     ·exact sm_nats (by omega) hon
    ·have ebf := ebe.trans ef
     have ha3 := ebf.at ha2 (fun z => nomatch z)
     have hb3 := ebf.at hb (fun z => nomatch z)
     have hd3 := (ea.trans (eb.trans ebf)).at hd6 (fun z => nomatch z)
     have E9 := e6.trans (ea.trans (eb.trans ebf))
     have hn1 : H3 p1 = none := e6.back (fun z => nomatch z) hna
     have hn2 : H3 p2 = none := (e6.trans ea).back (fun z => nomatch z) hnb
     have hd1 : p1 ≠ dd := fun e => by rw [e, hd6] at hna; cases hna
     have hd2 : p2 ≠ dd := fun e => by rw [e, ea.at hd6 (fun z => nomatch z)] at hnb; cases hnb
     walk_at "q"
     refine g_app ha3 (by rw [List.length_map]; omega) ?_
     walk_at "q"
     have hb4 : (upd Hf p1 (.lst (W.map V.str ++ [.str "q"]))) p2 = some (.lst (natsV N)) := by rw [upd_ne hp21]; exact hb3
     refine ⟨.inl ⟨rfl, _, SqL.of hb4⟩, ?_⟩
     refine g_clear hb4 ?_
     refine ⟨⟨_, _, _, _, _, _, rfl⟩, by rw [upd_ne hd2.symm, upd_ne hd1.symm]; exact hd3, (E9.over hn1).over hn2⟩
   ·obtain ⟨⟨z1, z5, z6, z7, z8, z9, rfl⟩, hd6, e6⟩ := h
    walk_at "q"
    exact ⟨hB3.fr0 e6, _, _, _, _, _, _, _, _, rfl⟩
 ·obtain ⟨_, _, _, _, _, _, _, _, rfl⟩ := h.2
  walk_at "q"
  exact q _
end
def d_sum_variables : He.DefD := ⟨("sum_variables", none), "sum_variables", "sum_variables", defArgs s_sum_variables, defBody s_sum_variables, defScope s_sum_variables, [], []⟩
def d_part_variables : He.DefD := ⟨("part_variables", none), "part_variables", "part_variables", defArgs s_part_variables, defBody s_part_variables, defScope s_part_variables, [], []⟩
def d_wanted : He.DefD := ⟨("wanted", none), "wanted", "wanted", defArgs s_wanted, defBody s_wanted, defScope s_wanted, [], []⟩
def d_given_by : He.DefD := ⟨("given_by", none), "given_by", "given_by", defArgs s_given_by, defBody s_given_by, defScope s_given_by, [], []⟩
def d_once : He.DefD := ⟨("once", none), "once", "once", defArgs s_once, defBody s_once, defScope s_once, [], []⟩
def d_variables : He.DefD := ⟨("variables", none), "variables", "variables", defArgs s_variables, defBody s_variables, defScope s_variables, [], []⟩
def d_next_place : He.DefD := ⟨("next_place", none), "next_place", "next_place", defArgs s_next_place, defBody s_next_place, defScope s_next_place, [], []⟩
def d_ordered : He.DefD := ⟨("ordered", none), "ordered", "ordered", defArgs s_ordered, defBody s_ordered, defScope s_ordered, [], []⟩
def d__law_bag : He.DefD := ⟨("_law_bag", none), "_law_bag", "_law_bag", defArgs s__law_bag, defBody s__law_bag, defScope s__law_bag, [], []⟩
def d__law_pull : He.DefD := ⟨("_law_pull", none), "_law_pull", "_law_pull", defArgs s__law_pull, defBody s__law_pull, defScope s__law_pull, [], []⟩
def d__law_one : He.DefD := ⟨("_law_one", none), "_law_one", "_law_one", defArgs s__law_one, defBody s__law_one, defScope s__law_one, [], []⟩
def d__law_same : He.DefD := ⟨("_law_same", none), "_law_same", "_law_same", defArgs s__law_same, defBody s__law_same, defScope s__law_same, [], []⟩
def d__law_word : He.DefD := ⟨("_law_word", none), "_law_word", "_law_word", defArgs s__law_word, defBody s__law_word, defScope s__law_word, [], []⟩
def d__law_number : He.DefD := ⟨("_law_number", none), "_law_number", "_law_number", defArgs s__law_number, defBody s__law_number, defScope s__law_number, [], []⟩
def d__law_value : He.DefD := ⟨("_law_value", none), "_law_value", "_law_value", defArgs s__law_value, defBody s__law_value, defScope s__law_value, [], []⟩
def d__law_sum_vars : He.DefD := ⟨("_law_sum_vars", none), "_law_sum_vars", "_law_sum_vars", defArgs s__law_sum_vars, defBody s__law_sum_vars, defScope s__law_sum_vars, [], []⟩
def d__law_part_vars : He.DefD := ⟨("_law_part_vars", none), "_law_part_vars", "_law_part_vars", defArgs s__law_part_vars, defBody s__law_part_vars, defScope s__law_part_vars, [], []⟩
def d__law_gives : He.DefD := ⟨("_law_gives", none), "_law_gives", "_law_gives", defArgs s__law_gives, defBody s__law_gives, defScope s__law_gives, [], []⟩
def d__law_wants : He.DefD := ⟨("_law_wants", none), "_law_wants", "_law_wants", defArgs s__law_wants, defBody s__law_wants, defScope s__law_wants, [], []⟩
def d__law_order : He.DefD := ⟨("_law_order", none), "_law_order", "_law_order", defArgs s__law_order, defBody s__law_order, defScope s__law_order, [], []⟩
def d__law_leaf : He.DefD := ⟨("_law_leaf", none), "_law_leaf", "_law_leaf", defArgs s__law_leaf, defBody s__law_leaf, defScope s__law_leaf, [], []⟩
def d__law_sum : He.DefD := ⟨("_law_sum", none), "_law_sum", "_law_sum", defArgs s__law_sum, defBody s__law_sum, defScope s__law_sum, [], []⟩
def d__law_loose_parts : He.DefD := ⟨("_law_loose_parts", none), "_law_loose_parts", "_law_loose_parts", defArgs s__law_loose_parts, defBody s__law_loose_parts, defScope s__law_loose_parts, [], []⟩
def d_law : He.DefD := ⟨("law", none), "law", "law", defArgs s_law, defBody s_law, defScope s_law, [], []⟩
def fnAll : List He.DefD := [d_sum_variables, d_part_variables, d_wanted, d_given_by, d_once, d_variables, d_next_place, d_ordered, d__law_bag, d__law_pull, d__law_one, d__law_same, d__law_word, d__law_number, d__law_value, d__law_sum_vars, d__law_part_vars, d__law_gives, d__law_wants, d__law_order, d__law_leaf, d__law_sum, d__law_loose_parts, d_law]
def faAll : List He.Fa := [.glo "sum_variables", .glo "part_variables", .glo "wanted", .glo "given_by", .glo "once", .glo "variables", .glo "next_place", .glo "ordered", .glo "_law_bag", .glo "_law_pull", .glo "_law_one", .glo "_law_same", .glo "_law_word", .glo "_law_number", .glo "_law_value", .glo "_law_sum_vars", .glo "_law_part_vars", .glo "_law_gives", .glo "_law_wants", .glo "_law_order", .glo "_law_leaf", .glo "_law_sum", .glo "_law_loose_parts", .glo "law", .free "len", .free "list", .free "range", .free "sorted", .free "isinstance", .free "tuple", .free "repr", .free "zip", .free "all", .free "bool", .free "int", .free "str"]
def looseAll : List PySem.Str := (["sum_variables", "part_variables", "wanted", "given_by", "once", "variables", "next_place", "ordered", "_law_bag", "_law_pull", "_law_one", "_law_same", "_law_word", "_law_number", "_law_value", "_law_sum_vars", "_law_part_vars", "_law_gives", "_law_wants", "_law_order"] : List PySem.Str) ++ (["_law_leaf", "_law_sum", "_law_loose_parts"] : List PySem.Str)
abbrev RR : PySem.W.OpenRow := PySem.W.OpenLaw.row PySem.Challenge.rw_sightlore_k07_variables_and_their_order
abbrev hk : PySem.W.Hook := He.hookD 4 faAll fnAll
def obAll (s : PySem.W.SharedT) : He.AlD := He.obsDG 4 faAll fnAll (HandSHeadRun.getT s)
theorem ob_eq (s : PySem.W.SharedT) : obAll s = hk.obs s.abs := He.obsDG_eq (HandSHeadRun.getT_eq s)
theorem run (w : World) : HandSHeadRun.RunEq RR (PySem.W.view RR.prog [25]) hk obAll 5000 looseAll w := by
 refine PySem.W.byRow2 "special-get-raises" (P := fun w => HandSHeadRun.RunEq RR (PySem.W.view RR.prog [25]) hk obAll 5000 looseAll w) (fun w os => ?_) (fun w os => ?_) w
 ·kernel_rfl
 ·kernel_rfl
theorem facts {P : Program} {w : World} {K : PySem.W.Frag} {h : Heap} {mg : Str → Option Value} {f : Addr} (X : K.In h) (G : h.Ns mainGlobals mg) (hfa : mg ("law" : Str) = some (.ref f)) (c : He.SaysD faAll fnAll K) :
  ∃ fd : FuncData, (∀ (s : Shared) (v : Value), BindsTo s fd ⟨[v], []⟩ [("_law_script", v)]) ∧ ∀ base : Heap, K.In base → base.Ns mainGlobals mg → FnG P w K mg base CX0 100 f fd ["_law_script"] (spLaw K) := by
 obtain ⟨fd_sum_variables, F_sum_variables⟩ := c.def_ 0 (d := d_sum_variables) rfl
 have M_sum_variables := He.glo_ok X G (c.fact 0 (f := .glo "sum_variables") rfl)
 have b_sum_variables : Binds K fd_sum_variables ["thing"] [] := F_sum_variables.bindsN fun _ _ _ _ _ _ us hl => match us, hl with | [_], _ => rfl
 obtain ⟨fd_part_variables, F_part_variables⟩ := c.def_ 1 (d := d_part_variables) rfl
 have M_part_variables := He.glo_ok X G (c.fact 1 (f := .glo "part_variables") rfl)
 have b_part_variables : Binds K fd_part_variables ["part"] [] := F_part_variables.bindsN fun _ _ _ _ _ _ us hl => match us, hl with | [_], _ => rfl
 obtain ⟨fd_wanted, F_wanted⟩ := c.def_ 2 (d := d_wanted) rfl
 have M_wanted := He.glo_ok X G (c.fact 2 (f := .glo "wanted") rfl)
 have b_wanted : Binds K fd_wanted ["part"] [] := F_wanted.bindsN fun _ _ _ _ _ _ us hl => match us, hl with | [_], _ => rfl
 obtain ⟨fd_given_by, F_given_by⟩ := c.def_ 3 (d := d_given_by) rfl
 have M_given_by := He.glo_ok X G (c.fact 3 (f := .glo "given_by") rfl)
 have b_given_by : Binds K fd_given_by ["part"] [] := F_given_by.bindsN fun _ _ _ _ _ _ us hl => match us, hl with | [_], _ => rfl
 obtain ⟨fd_once, F_once⟩ := c.def_ 4 (d := d_once) rfl
 have M_once := He.glo_ok X G (c.fact 4 (f := .glo "once") rfl)
 have b_once : Binds K fd_once ["names"] [] := F_once.bindsN fun _ _ _ _ _ _ us hl => match us, hl with | [_], _ => rfl
 obtain ⟨fd_variables, F_variables⟩ := c.def_ 5 (d := d_variables) rfl
 have M_variables := He.glo_ok X G (c.fact 5 (f := .glo "variables") rfl)
 have b_variables : Binds K fd_variables ["parts"] [] := F_variables.bindsN fun _ _ _ _ _ _ us hl => match us, hl with | [_], _ => rfl
 obtain ⟨fd_next_place, F_next_place⟩ := c.def_ 6 (d := d_next_place) rfl
 have M_next_place := He.glo_ok X G (c.fact 6 (f := .glo "next_place") rfl)
 have b_next_place : Binds K fd_next_place ["parts", "left", "bound"] [] := F_next_place.bindsN fun _ _ _ _ _ _ us hl => match us, hl with | [_, _, _], _ => rfl
 obtain ⟨fd_ordered, F_ordered⟩ := c.def_ 7 (d := d_ordered) rfl
 have M_ordered := He.glo_ok X G (c.fact 7 (f := .glo "ordered") rfl)
 have b_ordered : Binds K fd_ordered ["parts"] [] := F_ordered.bindsN fun _ _ _ _ _ _ us hl => match us, hl with | [_], _ => rfl
 obtain ⟨fd__law_bag, F__law_bag⟩ := c.def_ 8 (d := d__law_bag) rfl
 have M__law_bag := He.glo_ok X G (c.fact 8 (f := .glo "_law_bag") rfl)
 have b__law_bag : Binds K fd__law_bag ["_law_script"] [] := F__law_bag.bindsN fun _ _ _ _ _ _ us hl => match us, hl with | [_], _ => rfl
 obtain ⟨fd__law_pull, F__law_pull⟩ := c.def_ 9 (d := d__law_pull) rfl
 have M__law_pull := He.glo_ok X G (c.fact 9 (f := .glo "_law_pull") rfl)
 have b__law_pull : Binds K fd__law_pull ["_law_bag_here", "_law_upto"] [] := F__law_pull.bindsN fun _ _ _ _ _ _ us hl => match us, hl with | [_, _], _ => rfl
 obtain ⟨fd__law_one, F__law_one⟩ := c.def_ 10 (d := d__law_one) rfl
 have M__law_one := He.glo_ok X G (c.fact 10 (f := .glo "_law_one") rfl)
 have b__law_one : Binds K fd__law_one ["_law_bag_here", "_law_row"] [] := F__law_one.bindsN fun _ _ _ _ _ _ us hl => match us, hl with | [_, _], _ => rfl
 obtain ⟨fd__law_same, F__law_same⟩ := c.def_ 11 (d := d__law_same) rfl
 have M__law_same := He.glo_ok X G (c.fact 11 (f := .glo "_law_same") rfl)
 have b__law_same : Binds K fd__law_same ["_law_found", "_law_due"] [] := F__law_same.bindsN fun _ _ _ _ _ _ us hl => match us, hl with | [_, _], _ => rfl
 obtain ⟨fd__law_word, F__law_word⟩ := c.def_ 12 (d := d__law_word) rfl
 have M__law_word := He.glo_ok X G (c.fact 12 (f := .glo "_law_word") rfl)
 have b__law_word : Binds K fd__law_word ["_law_bag_here"] [] := F__law_word.bindsN fun _ _ _ _ _ _ us hl => match us, hl with | [_], _ => rfl
 obtain ⟨fd__law_number, F__law_number⟩ := c.def_ 13 (d := d__law_number) rfl
 have M__law_number := He.glo_ok X G (c.fact 13 (f := .glo "_law_number") rfl)
 have b__law_number : Binds K fd__law_number ["_law_bag_here"] [] := F__law_number.bindsN fun _ _ _ _ _ _ us hl => match us, hl with | [_], _ => rfl
 obtain ⟨fd__law_value, F__law_value⟩ := c.def_ 14 (d := d__law_value) rfl
 have M__law_value := He.glo_ok X G (c.fact 14 (f := .glo "_law_value") rfl)
 have b__law_value : Binds K fd__law_value ["_law_bag_here", "_law_kind"] [] := F__law_value.bindsN fun _ _ _ _ _ _ us hl => match us, hl with | [_, _], _ => rfl
 obtain ⟨fd__law_sum_vars, F__law_sum_vars⟩ := c.def_ 15 (d := d__law_sum_vars) rfl
 have M__law_sum_vars := He.glo_ok X G (c.fact 15 (f := .glo "_law_sum_vars") rfl)
 have b__law_sum_vars : Binds K fd__law_sum_vars ["_law_thing"] [] := F__law_sum_vars.bindsN fun _ _ _ _ _ _ us hl => match us, hl with | [_], _ => rfl
 obtain ⟨fd__law_part_vars, F__law_part_vars⟩ := c.def_ 16 (d := d__law_part_vars) rfl
 have M__law_part_vars := He.glo_ok X G (c.fact 16 (f := .glo "_law_part_vars") rfl)
 have b__law_part_vars : Binds K fd__law_part_vars ["_law_part"] [] := F__law_part_vars.bindsN fun _ _ _ _ _ _ us hl => match us, hl with | [_], _ => rfl
 obtain ⟨fd__law_gives, F__law_gives⟩ := c.def_ 17 (d := d__law_gives) rfl
 have M__law_gives := He.glo_ok X G (c.fact 17 (f := .glo "_law_gives") rfl)
 have b__law_gives : Binds K fd__law_gives ["_law_part"] [] := F__law_gives.bindsN fun _ _ _ _ _ _ us hl => match us, hl with | [_], _ => rfl
 obtain ⟨fd__law_wants, F__law_wants⟩ := c.def_ 18 (d := d__law_wants) rfl
 have M__law_wants := He.glo_ok X G (c.fact 18 (f := .glo "_law_wants") rfl)
 have b__law_wants : Binds K fd__law_wants ["_law_part"] [] := F__law_wants.bindsN fun _ _ _ _ _ _ us hl => match us, hl with | [_], _ => rfl
 obtain ⟨fd__law_order, F__law_order⟩ := c.def_ 19 (d := d__law_order) rfl
 have M__law_order := He.glo_ok X G (c.fact 19 (f := .glo "_law_order") rfl)
 have b__law_order : Binds K fd__law_order ["_law_parts"] [] := F__law_order.bindsN fun _ _ _ _ _ _ us hl => match us, hl with | [_], _ => rfl
 obtain ⟨fd__law_leaf, F__law_leaf⟩ := c.def_ 20 (d := d__law_leaf) rfl
 have M__law_leaf := He.glo_ok X G (c.fact 20 (f := .glo "_law_leaf") rfl)
 have b__law_leaf : Binds K fd__law_leaf ["_law_bag_here", "_law_kind", "_law_vars_of"] [] := F__law_leaf.bindsN fun _ _ _ _ _ _ us hl => match us, hl with | [_, _, _], _ => rfl
 obtain ⟨fd__law_sum, F__law_sum⟩ := c.def_ 21 (d := d__law_sum) rfl
 have M__law_sum := He.glo_ok X G (c.fact 21 (f := .glo "_law_sum") rfl)
 have b__law_sum : Binds K fd__law_sum ["_law_bag_here", "_law_vars_of", "_law_deep"] [] := F__law_sum.bindsN fun _ _ _ _ _ _ us hl => match us, hl with | [_, _, _], _ => rfl
 obtain ⟨fd__law_loose_parts, F__law_loose_parts⟩ := c.def_ 22 (d := d__law_loose_parts) rfl
 have M__law_loose_parts := He.glo_ok X G (c.fact 22 (f := .glo "_law_loose_parts") rfl)
 have b__law_loose_parts : Binds K fd__law_loose_parts ["_law_bag_here"] [] := F__law_loose_parts.bindsN fun _ _ _ _ _ _ us hl => match us, hl with | [_], _ => rfl
 obtain ⟨fd_law, F_law⟩ := c.def_ 23 (d := d_law) rfl
 have Z_len := He.free_ok X G (c.fact 24 (f := .free "len") rfl)
 have Z_list := He.free_ok X G (c.fact 25 (f := .free "list") rfl)
 have Z_range := He.free_ok X G (c.fact 26 (f := .free "range") rfl)
 have Z_sorted := He.free_ok X G (c.fact 27 (f := .free "sorted") rfl)
 have Z_isinstance := He.free_ok X G (c.fact 28 (f := .free "isinstance") rfl)
 have Z_tuple := He.free_ok X G (c.fact 29 (f := .free "tuple") rfl)
 have Z_repr := He.free_ok X G (c.fact 30 (f := .free "repr") rfl)
 have Z_zip := He.free_ok X G (c.fact 31 (f := .free "zip") rfl)
 have Z_all := He.free_ok X G (c.fact 32 (f := .free "all") rfl)
 have Z_bool := He.free_ok X G (c.fact 33 (f := .free "bool") rfl)
 have Z_int := He.free_ok X G (c.fact 34 (f := .free "int") rfl)
 have Z_str := He.free_ok X G (c.fact 35 (f := .free "str") rfl)
 have eL := hfa.symm.trans (He.glo_ok X G (c.fact 23 (f := .glo "law") rfl))
 cases eL
 have bL := FunD.bindsA (ps := ["_law_script"]) F_law fun _ _ _ _ _ _ us hl => match us, hl with | [_], _ => rfl
 refine ⟨fd_law, fun s v => bL s [v] rfl, fun base _ _ => ?_⟩
 have B : Bi mg := ⟨Z_len, Z_list, Z_range⟩
 have BL : BiL mg := ⟨Z_list, Z_sorted⟩
 have BS : BiS mg := ⟨Z_isinstance, Z_list, Z_tuple, Z_repr, Z_zip, Z_all, Z_len⟩
 have BT : BiT mg := ⟨Z_isinstance, Z_bool, Z_int, Z_str⟩
 have BN : BiN mg := ⟨Z_all, Z_list, Z_range, Z_len⟩
 have BG : BiG mg := ⟨Z_range, Z_tuple⟩
 have BK : BiK mg := ⟨Z_range, Z_int⟩
 have C__law_bag := calG_of (P := P) (w := w) (base := base) (ok__law_bag F__law_bag B) M__law_bag F__law_bag.kp b__law_bag
 have C__law_pull := calG_of (P := P) (w := w) (base := base) (ok__law_pull F__law_pull B) M__law_pull F__law_pull.kp b__law_pull
 have C__law_one := calG_of (P := P) (w := w) (base := base) (ok__law_one F__law_one B C__law_pull) M__law_one F__law_one.kp b__law_one
 have C__law_word := calG_of (P := P) (w := w) (base := base) (ok__law_word F__law_word B C__law_pull C__law_one) M__law_word F__law_word.kp b__law_word
 have C__law_number := calG_of (P := P) (w := w) (base := base) (ok__law_number F__law_number C__law_pull) M__law_number F__law_number.kp b__law_number
 have C__law_value := calG_of (P := P) (w := w) (base := base) (ok__law_value F__law_value C__law_pull C__law_one C__law_word C__law_number) M__law_value F__law_value.kp b__law_value
 have C__law_leaf := calG_of (P := P) (w := w) (base := base) (ok__law_leaf F__law_leaf BL C__law_pull C__law_one C__law_value) M__law_leaf F__law_leaf.kp b__law_leaf
 have R__law_sum := calG_rec (P := P) (w := w) (base := base) (sp := spSum K) 50 (fun vs H Q E h => by obtain ⟨b, cs, d, m, vd, rfl, hm, _⟩ := h; exact Nat.not_lt_zero _ hm) M__law_sum F__law_sum.kp b__law_sum fun n C => ok__law_sum F__law_sum C__law_pull C__law_one C__law_leaf C
 have C__law_sum := R__law_sum 5
 have R__law_same := calG_rec0 (P := P) (w := w) (base := base) (sp := spSame K) (fun vs H Q E h => by obtain ⟨x, y, d, rfl, _, _, hm, _⟩ := h; exact sm_zero hm) M__law_same F__law_same.kp b__law_same fun n C => ok__law_same F__law_same BS C
 have R_sum_variables := calG_rec0 (P := P) (w := w) (base := base) (sp := spSumV K) (fun vs H Q E h => by obtain ⟨v, e, m, rfl, _, _, _, hm, _⟩ := h; exact Nat.not_lt_zero _ hm) M_sum_variables F_sum_variables.kp b_sum_variables fun n C => ok_sum_variables F_sum_variables C
 have C_sum_variables := R_sum_variables 5
 have C_part_variables := calG_of (P := P) (w := w) (base := base) (ok_part_variables F_part_variables C_sum_variables) M_part_variables F_part_variables.kp b_part_variables
 have C_wanted := calG_of (P := P) (w := w) (base := base) (ok_wanted F_wanted C_part_variables) M_wanted F_wanted.kp b_wanted
 have C_given_by := calG_of (P := P) (w := w) (base := base) (ok_given_by F_given_by C_part_variables) M_given_by F_given_by.kp b_given_by
 have C_once := calG_of (P := P) (w := w) (base := base) (ok_once F_once BL) M_once F_once.kp b_once
 have C_variables := calG_of (P := P) (w := w) (base := base) (ok_variables F_variables C_once C_part_variables) M_variables F_variables.kp b_variables
 have C_next_place := calG_of (P := P) (w := w) (base := base) (ok_next_place F_next_place BN C_wanted) M_next_place F_next_place.kp b_next_place
 have C_ordered := calG_of (P := P) (w := w) (base := base) (ok_ordered F_ordered BN C_next_place C_given_by) M_ordered F_ordered.kp b_ordered
 have R__law_sum_vars := calG_rec0 (P := P) (w := w) (base := base) (sp := spSumV K) (fun vs H Q E h => by obtain ⟨v, e, m, rfl, _, _, _, hm, _⟩ := h; exact Nat.not_lt_zero _ hm) M__law_sum_vars F__law_sum_vars.kp b__law_sum_vars fun n C => ok__law_sum_vars F__law_sum_vars C
 have C__law_sum_vars := R__law_sum_vars 5
 have C__law_part_vars := calG_of (P := P) (w := w) (base := base) (ok__law_part_vars F__law_part_vars C__law_sum_vars) M__law_part_vars F__law_part_vars.kp b__law_part_vars
 have C__law_gives := calG_of (P := P) (w := w) (base := base) (ok__law_gives F__law_gives C__law_part_vars) M__law_gives F__law_gives.kp b__law_gives
 have C__law_wants := calG_of (P := P) (w := w) (base := base) (ok__law_wants F__law_wants BT C__law_part_vars) M__law_wants F__law_wants.kp b__law_wants
 have C__law_order := calG_of (P := P) (w := w) (base := base) (ok__law_order F__law_order BN C__law_wants C__law_gives) M__law_order F__law_order.kp b__law_order
 have C__law_loose_parts := calG_of (P := P) (w := w) (base := base) (ok__law_loose_parts F__law_loose_parts BG C__law_pull C__law_one C__law_leaf C__law_sum) M__law_loose_parts F__law_loose_parts.kp b__law_loose_parts
 exact ok_law F_law BK C__law_bag C__law_loose_parts (R__law_same 3) C__law_part_vars C_variables C_ordered C__law_order
end LW
open PySem PySem.W PySem.Calls PyProof.Rows
set_option maxHeartbeats 0 in
theorem PySem.Challenge.cw_sightlore_k07_variables_and_their_order_holds : PySem.Challenge.rw_sightlore_k07_variables_and_their_order.Holds := by
 w_on; o_law
 refine HandSHeadRun.head_any (r := OpenLaw.row PySem.Challenge.rw_sightlore_k07_variables_and_their_order) (q := view (OpenLaw.row PySem.Challenge.rw_sightlore_k07_variables_and_their_order).prog [25]) (H := LW.hk) (ob := LW.obAll) (M := 5000) (loose := LW.looseAll) (d := HandSHeadRun.topDef (OpenLaw.row PySem.Challenge.rw_sightlore_k07_variables_and_their_order).prog 25) (kwd := []) LW.ob_eq
  (by kernel_rfl) (fun s => by kernel_rfl) LW.run (by kernel_rfl) (by kernel_rfl) (by kernel_rfl) (by rfl) (by first | assumption | decide +kernel) (by decide +kernel) ⟨rfl, rfl, rfl, rfl, rfl, by decide +kernel⟩ ?hw ?hc
 case hw => w_witness2
 case hc =>
  refine SL.walkG (l := PySem.Challenge.rw_sightlore_k07_variables_and_their_order) (n := 63) (k := 100) (x := "_law_script") rfl (by decide) (by kernel_rfl) ⟨rfl, by decide, by decide⟩ ?F
  intro w mg fa h Y G hmg0
  obtain ⟨K, KX, c⟩ := Y
  have hmg : mg ("law" : PySem.Str) = some (.ref fa) := by
   have e : (HandSHeadRun.topDef (OpenLaw.row PySem.Challenge.rw_sightlore_k07_variables_and_their_order).prog 25).name = ("law" : PySem.Str) := by kernel_rfl
   rw [← e]
   exact hmg0
  obtain ⟨fd, hb, hF⟩ := LW.facts (P := (PySem.Challenge.rw_sightlore_k07_variables_and_their_order).prog) (w := w) KX G hmg c
  exact ⟨K, fd, LW.spLaw K, KX, hb, fun H a ns hl hS => ⟨a, ns, rfl, hS, hl, fun _ => rfl⟩, hF⟩
