import PyProof.Rows.All
import Wide.All
import OpenK.AllK
import Wide.FinOn
import HandS.ForMost
import HandS.Zip
import HandS.Flow
import HandS.Conv
import HandS.IsInst
import HandS.Codes
import HandS.Wide
import HandS.StrMore
import HandS.Defaults
import HandS.Exc
import HandS.HeadEnd
import HandS.HeadHook2
import HandS.Head2
import HandS.RaiseMore
import HandS.Walk
import HandS.FStr
import HandS.HeadHook3
import HandS.HeadHook4
import HandS.TupAny
import HandS.SetFor
import HandS.DictComp
import HandS.ExcInit
import HandS.ExcIs
import KE.KExcIs
import HandS.ExcField
import HandS.ExcOwn
import HandS.WordsExc
import HandS.MakeKwOnly
import HandS.ReplaceLit
import PyProof.StrReplace2
import PyProof.StrOps2
import PyProof.MeetsStr3
import HandS.SuiteRaise
import HandS.RaiseFrom
import HandS.ExcInitHot
import KE.KAsSuite
import PySem.Challenge.RW_sightlore_k06_papers_read
set_option Elab.async false
set_option linter.all false
set_option maxRecDepth 100000
set_option maxHeartbeats 2000000
namespace SL
open PySem PySem.Spec PyProof.Rows L2
def Fix : HO → Prop
 | .tup _ => True
 | .frz _ (.tup _) => True
 | _ => False
def Fr (M : List Addr) (H H' : Hp) : Prop := ∀ a o, H a = some o → (a ∉ M ∨ Fix o) → H' a = some o
theorem Fr.refl {M : List Addr} {H : Hp} : Fr M H H := fun _ _ h _ => h
theorem Fr.trans {M : List Addr} {H H1 H2 : Hp} (a : Fr M H H1) (b : Fr M H1 H2) : Fr M H H2 := fun x o h z => b x o (a x o h z) z
theorem Fr.mono {M N : List Addr} {H H' : Hp} (h : Fr M H H') (s : ∀ a ∈ M, a ∈ N) : Fr N H H' := fun a o e z => h a o e (z.imp (fun n m => n (s a m)) id)
theorem Fr.nil {N : List Addr} {H H' : Hp} (h : Fr [] H H') : Fr N H H' := h.mono fun _ z => nomatch z
theorem Fr.new {M : List Addr} {H : Hp} {p : Addr} {o : HO} (h : H p = none) : Fr M H (upd H p o) := fun a u e _ => by
 rw [upd_ne (ne_of_none e h)]
 exact e
theorem Fr.mut {M : List Addr} {H : Hp} {p : Addr} {o u : HO} (hm : p ∈ M) (h : H p = some u) (hu : ¬ Fix u) : Fr M H (upd H p o) := fun a v e z => by
 by_cases c : a = p
 ·subst c
  rw [h] at e
  cases e
  rcases z with z | z
  ·exact absurd hm z
  ·exact absurd z hu
 ·rw [upd_ne c]
  exact e
theorem Fr.over {M : List Addr} {H H' : Hp} {p : Addr} {o : HO} (e : Fr M H H') (h : H p = none) : Fr M H (upd H' p o) := fun a u ha z => by
 rw [upd_ne (ne_of_none ha h)]
 exact e a u ha z
theorem Fr.same {H H' : Hp} (h : Fr [] H H') : Same H H' := fun b o e => h b o e (.inl (fun z => nomatch z))
theorem Fr.of_same {M : List Addr} {H H' : Hp} (h : Same H H') : Fr M H H' := fun a o e _ => h a o e
theorem Fr.at {M : List Addr} {H H' : Hp} {a : Addr} {o : HO} (h : Fr M H H') (e : H a = some o) (n : a ∉ M) : H' a = some o := h a o e (.inl n)
theorem Fr.back {M : List Addr} {H H' : Hp} {p : Addr} (e : Fr M H H') (hM : p ∉ M) (h : H' p = none) : H p = none := by
 cases q : H p with
 | none => rfl
 | some o =>
  rw [e p o q (.inl hM)] at h
  cases h
theorem Fr.tup {K : PySem.W.Frag} {M : List Addr} {H H' : Hp} {a : Addr} {xs : List V} (e : Fr M H H') (h : SqT K H a xs) : SqT K H' a xs := by
 rcases h with (h | ⟨o, h⟩) | h
 ·exact .inl (.inl (e a _ h (.inr trivial)))
 ·exact .inl (.inr ⟨o, e a _ h (.inr trivial)⟩)
 ·exact .inr h
theorem Fr.seq {K : PySem.W.Frag} {M : List Addr} {H H' : Hp} {a : Addr} {xs : List V} (e : Fr M H H') (n : a ∉ M) (h : SqL K H a xs) : SqL K H' a xs := by
 rcases h with (h | ⟨o, h⟩) | h
 ·exact .inl (.inl (e a _ h (.inl n)))
 ·exact .inl (.inr ⟨o, e a _ h (.inl n)⟩)
 ·exact .inr h
theorem nofix_lst {xs : List V} : ¬ Fix (.lst xs) := fun z => z
mutual
inductive Td (K : PySem.W.Frag) (H : Hp) : V → PyData → Prop
 | non : Td K H .non .none
 | bl (b : Bool) : Td K H (.bl b) (.bool b)
 | int (i : Int) : Td K H (.int i) (.int i)
 | str (x : Str) : Td K H (.str x) (.str x)
 | tup {a : Addr} {xs : List V} {ds : List PyData} : SqT K H a xs → TdAll K H xs ds → Td K H (.ref a) (.tuple ds)
inductive TdAll (K : PySem.W.Frag) (H : Hp) : List V → List PyData → Prop
 | nil : TdAll K H [] []
 | cons {v : V} {vs : List V} {d : PyData} {ds : List PyData} : Td K H v d → TdAll K H vs ds → TdAll K H (v :: vs) (d :: ds)
end
section
variable {K : PySem.W.Frag} {H H' : Hp} {M : List Addr}
mutual
theorem Td.fr (e : Fr M H H') : ∀ {v : V} {d : PyData}, Td K H v d → Td K H' v d
 | _, _, .non => .non
 | _, _, .bl b => .bl b
 | _, _, .int i => .int i
 | _, _, .str x => .str x
 | _, _, .tup h hs => .tup (e.tup h) (TdAll.fr e hs)
theorem TdAll.fr (e : Fr M H H') : ∀ {vs : List V} {ds : List PyData}, TdAll K H vs ds → TdAll K H' vs ds
 | _, _, .nil => .nil
 | _, _, .cons h hs => .cons (Td.fr e h) (TdAll.fr e hs)
end
mutual
theorem Td.dp : ∀ {v : V} {d : PyData}, Td K H v d → Dp K H v d
 | _, _, .non => .non
 | _, _, .bl b => .bl b
 | _, _, .int i => .int i
 | _, _, .str x => .str x
 | _, _, .tup h hs => .tup h (TdAll.dp hs)
theorem TdAll.dp : ∀ {vs : List V} {ds : List PyData}, TdAll K H vs ds → DpAll K H vs ds
 | _, _, .nil => .nil
 | _, _, .cons h hs => .cons (Td.dp h) (TdAll.dp hs)
end
theorem Td.tuple_inv {v : V} {ds : List PyData} (h : Td K H v (.tuple ds)) : ∃ a xs, v = .ref a ∧ SqT K H a xs ∧ TdAll K H xs ds := by
 cases h with
 | tup h1 h2 => exact ⟨_, _, rfl, h1, h2⟩
theorem Td.int_inv {v : V} {i : Int} (h : Td K H v (.int i)) : v = .int i := by cases h; rfl
theorem Td.str_inv {v : V} {i : Str} (h : Td K H v (.str i)) : v = .str i := by cases h; rfl
theorem TdAll.nil_inv {vs : List V} (h : TdAll K H vs []) : vs = [] := by cases h; rfl
theorem TdAll.cons_inv {vs : List V} {d : PyData} {ds : List PyData} (h : TdAll K H vs (d :: ds)) : ∃ v ws, vs = v :: ws ∧ Td K H v d ∧ TdAll K H ws ds := by
 cases h with
 | cons h1 h2 => exact ⟨_, _, rfl, h1, h2⟩
theorem Td.t1 {v : V} {a : PyData} (h : Td K H v (.tuple [a])) : ∃ p x, v = .ref p ∧ SqT K H p [x] ∧ Td K H x a := by
 obtain ⟨p, xs, rfl, hp, h⟩ := h.tuple_inv
 obtain ⟨x, xs, rfl, hx, h⟩ := h.cons_inv
 cases h.nil_inv
 exact ⟨p, x, rfl, hp, hx⟩
theorem Td.t2 {v : V} {a b : PyData} (h : Td K H v (.tuple [a, b])) : ∃ p x y, v = .ref p ∧ SqT K H p [x, y] ∧ Td K H x a ∧ Td K H y b := by
 obtain ⟨p, xs, rfl, hp, h⟩ := h.tuple_inv
 obtain ⟨x, xs, rfl, hx, h⟩ := h.cons_inv
 obtain ⟨y, xs, rfl, hy, h⟩ := h.cons_inv
 cases h.nil_inv
 exact ⟨p, x, y, rfl, hp, hx, hy⟩
theorem Td.t3 {v : V} {a b c : PyData} (h : Td K H v (.tuple [a, b, c])) : ∃ p x y z, v = .ref p ∧ SqT K H p [x, y, z] ∧ Td K H x a ∧ Td K H y b ∧ Td K H z c := by
 obtain ⟨p, xs, rfl, hp, h⟩ := h.tuple_inv
 obtain ⟨x, xs, rfl, hx, h⟩ := h.cons_inv
 obtain ⟨y, xs, rfl, hy, h⟩ := h.cons_inv
 obtain ⟨z, xs, rfl, hz, h⟩ := h.cons_inv
 cases h.nil_inv
 exact ⟨p, x, y, z, rfl, hp, hx, hy, hz⟩
end
def uAdd (K : PySem.W.Frag) : R2 := fun x y H Q => match x, y with
 | .int i, .int j => Q (.int (i + j)) H
 | .str a, .str b => a.length + b.length ≤ sizeLine ∧ Q (.str (a ++ b)) H
 | .ref a, .ref b => rCat (.ref a) (.ref b) H Q ∨ rCatT K (.ref a) (.ref b) H Q
 | _, _ => False
def uSub : R2 := fun x y H Q => match x, y with
 | .int i, .int j => Q (.int (i - j)) H
 | _, _ => False
def uMul : R2 := fun x y H Q => match x, y with
 | .int i, .int j => IntMulOk i j ∧ Q (.int (i * j)) H
 | .ref a, .int k => rRep (.ref a) (.int k) H Q
 | .str a, .int k => 2 ≤ k ∧ k ≤ 1000 ∧ 0 < a.length ∧ a.length ≤ 1000 ∧ Q (.str ⟨(List.replicate k.toNat a.cps).foldl (· ++ ·) #[]⟩) H
 | _, _ => False
def uDiv : R2 := fun x y H Q => match x, y with
 | .int i, .int j => CDivW i j ∧ Q (.int (i / j)) H
 | _, _ => False
def uMod : R2 := fun x y H Q => match x, y with
 | .int i, .int j => 0 < j ∧ Q (.int (i % j)) H
 | _, _ => False
def uPow : R2 := fun x y H Q => match x, y with
 | .int i, .int j => CPow i j ∧ Q (.int (i ^ j.toNat)) H
 | _, _ => False
def rEqE (K : PySem.W.Frag) (x y : V) (H : Hp) (Q : Bool → Prop) : Prop :=
 (∃ a b xs, x = .ref a ∧ y = .ref b ∧ SqT K H a xs ∧ SqT K H b [] ∧ Q (decide (xs = []))) ∨ (∃ a b xs, x = .ref a ∧ y = .ref b ∧ SqL K H a xs ∧ SqL K H b [] ∧ Q (decide (xs = []))) ∨
 ∃ a b kvs, x = .ref a ∧ y = .ref b ∧ H a = some (.dK kvs) ∧ H b = some (.dK []) ∧ Q (decide (kvs = []))
def uEq (K : PySem.W.Frag) : R2 := fun x y H Q => (scal x y = true ∧ Q (.bl (decide (x = y))) H) ∨ rEqD K x y H Q ∨ rEqE K x y H fun b => Q (.bl b) H
def uNe (K : PySem.W.Frag) : R2 := fun x y H Q => (scal x y = true ∧ Q (.bl (!decide (x = y))) H) ∨ rNeD K x y H Q ∨ rEqE K x y H fun b => Q (.bl (!b)) H
def uLt (K : PySem.W.Frag) : R2 := fun x y H Q => match x, y with
 | .int i, .int j => Q (.bl (decide (i < j))) H
 | .str a, .str b => Q (.bl (decide (a.cps.toList < b.cps.toList))) H
 | _, _ => False
def uGt : R2 := fun x y H Q => match x, y with
 | .int i, .int j => Q (.bl (decide (j < i))) H
 | _, _ => False
def uLe : R2 := fun x y H Q => match x, y with
 | .int i, .int j => Q (.bl (decide (i ≤ j))) H
 | .str a, .str b => Q (.bl (!decide (b.cps.toList < a.cps.toList))) H
 | _, _ => False
def uGe : R2 := fun x y H Q => match x, y with
 | .int i, .int j => Q (.bl (decide (j ≤ i))) H
 | _, _ => False
def uIn (K : PySem.W.Frag) : R2 := fun x y H Q => match x, y with
 | .str a, .str b => Q (.bl (!(Builtin.Str.occurrences b a 0 b.length 1).isEmpty)) H
 | x, y => rIn K false x y H Q
def uNotIn (K : PySem.W.Frag) : R2 := fun x y H Q => match x, y with
 | .str a, .str b => Q (.bl (!(!(Builtin.Str.occurrences b a 0 b.length 1).isEmpty))) H
 | x, y => rIn K true x y H Q
section
variable {X : Cx}
theorem opu_add : OpR X (binaryOp .Add) (uAdd X.K) := by
 intro pins s σ H x y v u Q I rx ry h
 cases x <;> cases y <;> first
  | exact absurd h id
  | exact op_add pins s σ H _ _ v u Q I rx ry ⟨_, _, rfl, rfl, h⟩
  | exact op_add_str pins s σ H _ _ v u Q I rx ry ⟨_, _, rfl, rfl, h.1, h.2⟩
  | exact h.elim (fun h => op_cat pins s σ H _ _ v u Q I rx ry h) (fun h => op_catT pins s σ H _ _ v u Q I rx ry h)
theorem opu_sub : OpR X (binaryOp .Sub) uSub := by
 intro pins s σ H x y v u Q I rx ry h
 cases x <;> cases y <;> first
  | exact absurd h id
  | exact op_sub pins s σ H _ _ v u Q I rx ry ⟨_, _, rfl, rfl, h⟩
theorem foldl_size (c : Array Nat) : ∀ (m : Nat) (acc : Array Nat), ((List.replicate m c).foldl (· ++ ·) acc).size = acc.size + m * c.size
 | 0, acc => by simp
 | m + 1, acc => by
  rw [List.replicate_succ, List.foldl_cons, foldl_size c m, Array.size_append, Nat.succ_mul]
  omega
theorem op_repS : OpR X (binaryOp .Mult) (fun x y H Q => ∃ (a : Str) (k : Int), x = .str a ∧ y = .int k ∧ 2 ≤ k ∧ k ≤ 1000 ∧ 0 < a.length ∧ a.length ≤ 1000 ∧ Q (.str ⟨(List.replicate k.toNat a.cps).foldl (· ++ ·) #[]⟩) H) := by
 intro pins s σ H x y v u Q I rx ry h
 obtain ⟨a, k, rfl, rfl, h1, h2, h3, h4, q⟩ := h
 obtain ⟨t, rfl⟩ := rx
 obtain ⟨t', rfl⟩ := ry
 have hm : a.length * k.toNat ≤ 1000000 := Nat.le_trans (Nat.mul_le_mul h4 (show k.toNat ≤ 1000 by omega)) (by decide)
 refine PySem.P.mul_str ?_ (fun _ _ => ?_) (fun _ _ => ?_) ?_
 ·rw [decide_eq_false (show ¬ k < -(2 ^ 63) by omega), decide_eq_false (show ¬ k ≥ 2 ^ 63 by omega)]; rfl
 ·have e : ((2 : Int) ^ 63 - 1) / 1000 ≤ (2 ^ 63 - 1) / k := by
   rw [Int.le_ediv_iff_mul_le (by omega)]
   have : ((2 : Int) ^ 63 - 1) / 1000 * k ≤ (2 ^ 63 - 1) / 1000 * 1000 := Int.mul_le_mul_of_nonneg_left h2 (by decide)
   have e2 : ((2 : Int) ^ 63 - 1) / 1000 * 1000 ≤ 2 ^ 63 - 1 := by decide
   omega
  have e3 : (1000 : Int) ≤ (2 ^ 63 - 1) / 1000 := by decide
  omega
 ·exact decide_eq_false (by have := sizeLine_eq; omega)
 ·rw [if_neg (by omega), if_neg (by simp only [Bool.or_eq_true, beq_iff_eq]; omega)]
  refine ⟨?_, .str _, H, I.tok _, ⟨_, rfl⟩, q⟩
  show ((List.replicate k.toNat a.cps).foldl (· ++ ·) #[]).size ≤ sizeLine
  rw [foldl_size]
  have e : a.cps.size = a.length := rfl
  have e2 : (#[] : Array Nat).size = 0 := rfl
  have := sizeLine_eq
  rw [e, e2, Nat.mul_comm]
  omega
theorem opu_mul : OpR X (binaryOp .Mult) uMul := by
 intro pins s σ H x y v u Q I rx ry h
 cases x <;> cases y <;> first
  | exact absurd h id
  | exact (opI fun _ _ _ _ _ _ _ hc q => mul_int q hc : OpR X (binaryOp .Mult) (rI IntMulOk fun i j => .int (i * j))) pins s σ H _ _ v u Q I rx ry ⟨_, _, rfl, rfl, h.1, h.2⟩
  | exact op_rep pins s σ H _ _ v u Q I rx ry h
  | exact op_repS pins s σ H _ _ v u Q I rx ry ⟨_, _, rfl, rfl, h⟩
theorem opu_div : OpR X (binaryOp .FloorDiv) uDiv := by
 intro pins s σ H x y v u Q I rx ry h
 cases x <;> cases y <;> first
  | exact absurd h id
  | exact op_fdivW pins s σ H _ _ v u Q I rx ry ⟨_, _, rfl, rfl, h.1, h.2⟩
theorem opu_mod : OpR X (binaryOp .Mod) uMod := by
 intro pins s σ H x y v u Q I rx ry h
 cases x <;> cases y <;> first
  | exact absurd h id
  | exact op_mod pins s σ H _ _ v u Q I rx ry ⟨_, _, rfl, rfl, h.1, h.2⟩
theorem opu_pow : OpR X (binaryOp .Pow) uPow := by
 intro pins s σ H x y v u Q I rx ry h
 cases x <;> cases y <;> first
  | exact absurd h id
  | exact op_pow pins s σ H _ _ v u Q I rx ry ⟨_, _, rfl, rfl, h.1, h.2⟩
theorem nil_of {xs : List V} {its : List Value} (r : Vals xs its) : decide (its = []) = decide (xs = []) := by
 cases r <;> rfl
theorem nil_of_kv {xs : List (Key × V)} {vs : List (Key × Value)} (r : KV xs vs) : decide (vs = []) = decide (xs = []) := by
 cases r <;> rfl
theorem size0 {its : List Value} : (its.toArray.size == 0) = decide (its = []) := by cases its <;> rfl
theorem op_eqE (hu : X.A.units + 64 < cLine) : OpR X (compareOp .Eq) (fun x y H Q => rEqE X.K x y H fun b => Q (.bl b) H) := by
 intro pins s σ H x y v u Q I rx ry h
 have hu1 : X.A.units < cLine := by omega
 rcases h with ⟨a, b, xs, rfl, rfl, ha, hb, q⟩ | ⟨a, b, xs, rfl, rfl, ha, hb, q⟩ | ⟨a, b, kvs, rfl, rfl, ha, hb, q⟩
 ·cases rx; cases ry
  obtain ⟨its, r, p, _⟩ := I.tuple ha
  obtain ⟨its2, r2, p2, _⟩ := I.tuple hb
  cases r2
  refine SeqAt.RcAt.tuples (e := fun _ => true) p p2 hu1 (fun j _ h2 => absurd h2 (Nat.not_lt_zero j)) X.prog X.w _ _ ⟨.bl (decide (xs = [])), H, I, ?_, q⟩
  rw [← nil_of r, ← size0]
  simp [L2.RelV]
 ·cases rx; cases ry
  obtain ⟨its, r, p, _⟩ := I.list ha
  obtain ⟨its2, r2, p2, _⟩ := I.list hb
  cases r2
  cases its with
  | nil =>
   refine SeqAt.RcAt.lists (e := fun _ => true) p.isList p2.isList rfl hu1 (fun j _ h2 => absurd h2 (Nat.not_lt_zero j)) X.prog X.w _ _ ⟨.bl (decide (xs = [])), H, I, ?_, q⟩
   rw [← nil_of r]
   rfl
  | cons c cs =>
   refine SeqAt.RcAt.lists_lengths p.isList p2.isList (by simp) hu1 X.prog X.w _ _ ⟨.bl (decide (xs = [])), H, I, ?_, q⟩
   rw [← nil_of r]
   rfl
 ·cases rx; cases ry
  obtain ⟨_, ya, va, ra, da⟩ := dk_of I.hok ha
  obtain ⟨_, yb, vb, rb, db⟩ := dk_of I.hok hb
  cases rb
  refine PySem.W.keq_eq (r := true) ya yb da db hu1 (fun hl => ?_) ⟨.bl (decide (kvs = [])), H, I, ?_, q⟩
  ·cases va with
   | nil => exact .nil
   | cons c cs => cases hl
  ·rw [← nil_of_kv ra]
   cases va <;> rfl
theorem op_neE (hu : X.A.units + 64 < cLine) : OpR X (compareOp .NotEq) (fun x y H Q => rEqE X.K x y H fun b => Q (.bl (!b)) H) := by
 intro pins s σ H x y v u Q I rx ry h
 have hu1 : X.A.units < cLine := by omega
 rcases h with ⟨a, b, xs, rfl, rfl, ha, hb, q⟩ | ⟨a, b, xs, rfl, rfl, ha, hb, q⟩ | ⟨a, b, kvs, rfl, rfl, ha, hb, q⟩
 ·cases rx; cases ry
  obtain ⟨its, r, p, _⟩ := I.tuple ha
  obtain ⟨its2, r2, p2, _⟩ := I.tuple hb
  cases r2
  refine SeqAt.RcNeAt.tuples (e := fun _ => true) p p2 hu1 (fun j _ h2 => absurd h2 (Nat.not_lt_zero j)) X.prog X.w _ _ ⟨.bl (!decide (xs = [])), H, I, ?_, q⟩
  rw [← nil_of r, ← size0]
  simp [L2.RelV]
 ·cases rx; cases ry
  obtain ⟨its, r, p, _⟩ := I.list ha
  obtain ⟨its2, r2, p2, _⟩ := I.list hb
  cases r2
  cases its with
  | nil =>
   refine SeqAt.RcNeAt.lists (e := fun _ => true) p.isList p2.isList rfl hu1 (fun j _ h2 => absurd h2 (Nat.not_lt_zero j)) X.prog X.w _ _ ⟨.bl (!decide (xs = [])), H, I, ?_, q⟩
   rw [← nil_of r]
   rfl
  | cons c cs =>
   refine SeqAt.RcNeAt.lists_lengths p.isList p2.isList (by simp) hu1 X.prog X.w _ _ ⟨.bl (!decide (xs = [])), H, I, ?_, q⟩
   rw [← nil_of r]
   rfl
 ·cases rx; cases ry
  obtain ⟨_, ya, va, ra, da⟩ := dk_of I.hok ha
  obtain ⟨_, yb, vb, rb, db⟩ := dk_of I.hok hb
  cases rb
  refine PySem.W.keq_ne (r := true) ya yb da db hu1 (fun hl => ?_) ⟨.bl (!decide (kvs = [])), H, I, ?_, q⟩
  ·cases va with
   | nil => exact .nil
   | cons c cs => cases hl
  ·rw [← nil_of_kv ra]
   cases va <;> rfl
theorem opu_eq (hu : X.A.units + 64 < cLine) : OpR X (compareOp .Eq) (uEq X.K) := by
 intro pins s σ H x y v u Q I rx ry h
 exact h.elim (fun h => op_eq pins s σ H _ _ v u Q I rx ry h) (fun h => h.elim (fun h => op_eqD hu pins s σ H _ _ v u Q I rx ry h) (fun h => op_eqE hu pins s σ H _ _ v u Q I rx ry h))
theorem opu_ne (hu : X.A.units + 64 < cLine) : OpR X (compareOp .NotEq) (uNe X.K) := by
 intro pins s σ H x y v u Q I rx ry h
 exact h.elim (fun h => op_ne pins s σ H _ _ v u Q I rx ry h) (fun h => h.elim (fun h => op_neD hu pins s σ H _ _ v u Q I rx ry h) (fun h => op_neE hu pins s σ H _ _ v u Q I rx ry h))
theorem opu_lt : OpR X (compareOp .Lt) (uLt X.K) := by
 intro pins s σ H x y v u Q I rx ry h
 cases x <;> cases y <;> first
  | exact absurd h id
  | exact op_lt pins s σ H _ _ v u Q I rx ry ⟨_, _, rfl, rfl, h⟩
  | exact op_lt_str pins s σ H _ _ v u Q I rx ry ⟨_, _, rfl, rfl, h⟩
theorem opu_gt : OpR X (compareOp .Gt) uGt := by
 intro pins s σ H x y v u Q I rx ry h
 cases x <;> cases y <;> first
  | exact absurd h id
  | exact op_gt pins s σ H _ _ v u Q I rx ry ⟨_, _, rfl, rfl, h⟩
theorem opu_le : OpR X (compareOp .LtE) uLe := by
 intro pins s σ H x y v u Q I rx ry h
 cases x <;> cases y <;> first
  | exact absurd h id
  | exact op_le pins s σ H _ _ v u Q I rx ry ⟨_, _, rfl, rfl, h⟩
  | exact op_le_str pins s σ H _ _ v u Q I rx ry ⟨_, _, rfl, rfl, h⟩
theorem opu_ge : OpR X (compareOp .GtE) uGe := by
 intro pins s σ H x y v u Q I rx ry h
 cases x <;> cases y <;> first
  | exact absurd h id
  | exact op_ge pins s σ H _ _ v u Q I rx ry ⟨_, _, rfl, rfl, h⟩
theorem opu_in : OpR X (compareOp .In) (uIn X.K) := by
 intro pins s σ H x y v u Q I rx ry h
 cases x <;> cases y <;> first
  | exact op_in_str pins s σ H _ _ v u Q I rx ry ⟨_, _, rfl, rfl, h⟩
  | exact op_in_seq pins s σ H _ _ v u Q I rx ry h
theorem opu_notIn : OpR X (compareOp .NotIn) (uNotIn X.K) := by
 intro pins s σ H x y v u Q I rx ry h
 cases x <;> cases y <;> first
  | exact op_notin_str pins s σ H _ _ v u Q I rx ry ⟨_, _, rfl, rfl, h⟩
  | exact op_notIn_seq pins s σ H _ _ v u Q I rx ry h
end
end SL
set_option Elab.async false
set_option linter.all false
set_option maxRecDepth 100000
set_option maxHeartbeats 2000000
namespace SL
open PySem PySem.Spec PyProof.Rows L2
section
variable {K : PySem.W.Frag} {σ : L2.St} {H : Hp} {Q : VK} {R : Bool → Hp → Prop} {D : Ends} {v x y : V} {i : Nat} {ta tb tc te : TE} {t u : TT} {ts tu : TS} {r : R2} {G : TG}
theorem g_var (h : σ[i]? = some (some v)) (q : Q v H) : tVar i σ H Q := ⟨v, h, q⟩
theorem g_c (q : Q v H) : tC v σ H Q := q
theorem g_op (q : ta σ H fun x H1 => tb σ H1 fun y H2 => r x y H2 Q) : tOp r ta tb σ H Q := q
theorem g_un {ru : V → Hp → VK → Prop} (q : ta σ H fun x H1 => ru x H1 Q) : tUn ru ta σ H Q := q
theorem g_test (q : ta σ H fun x H' => ∃ k, x = .bl k ∧ R k H') : tTest ta σ H R := q
theorem g_B (q : ta σ H fun x H' => ∃ k, x = .bl k ∧ R k H') : tB ta σ H R := q
theorem g_k {A : Bool → Prop} {b : Bool} (q : A b) : ∃ k, V.bl b = V.bl k ∧ A k := ⟨b, rfl, q⟩
theorem g_and (q : t σ H fun c H1 => if c = true then u σ H1 R else R false H1) : tAnd t u σ H R := q
theorem g_or (q : t σ H fun c H1 => if c = true then R true H1 else u σ H1 R) : tOr t u σ H R := q
theorem g_not (q : t σ H fun c H1 => R (!c) H1) : tNot t σ H R := q
theorem g_ifE (q : t σ H fun c H1 => if c = true then ta σ H1 Q else tb σ H1 Q) : tIf t ta tb σ H Q := q
theorem g_seq (q : ts { D with nx := tu D } σ H) : tSeq ts tu D σ H := q
theorem g_asg (q : te σ H fun w H1 => G w σ H1 D.nx) : tAsg te G D σ H := q
theorem g_name {P : L2.St → Hp → Prop} (q : P (σ.set i (some v)) H) : gName i v σ H P := q
theorem g_sub {to ti : TE} {tset : TSet} {P : L2.St → Hp → Prop} (q : to σ H fun o H1 => ti σ H1 fun k H2 => tset o k v H2 fun H3 => P σ H3) : gSub to ti tset v σ H P := q
theorem g_if (q : t σ H fun b H1 => if b = true then ts D σ H1 else tu D σ H1) : tIfS t ts tu D σ H := q
theorem g_ret (q : te σ H D.rt) : tRet te D σ H := q
theorem g_next (q : D.nx σ H) : tNext D σ H := q
theorem g_drop (q : te σ H fun _ H1 => D.nx σ H1) : tDrop te D σ H := q
theorem g_nil {A : List V → Hp → Prop} (q : A [] H) : tNil σ H A := q
theorem g_cons {tr : TA} {A : List V → Hp → Prop} (q : ta σ H fun x H1 => tr σ H1 fun xs H2 => A (x :: xs) H2) : tCons ta tr σ H A := q
theorem g_tup {tl : TA} (q : tl σ H fun xs H1 => xs.length ≤ sizeLine ∧ ∀ p, H1 p = none → Q (.ref p) (upd H1 p (.tup xs))) : tTup tl σ H Q := q
theorem g_lst {tl : TA} (q : tl σ H fun xs H1 => xs.length ≤ sizeLine ∧ ∀ p, H1 p = none → Q (.ref p) (upd H1 p (.lst xs))) : tLst tl σ H Q := q
theorem g_cb {rc : List V → Hp → VK → Prop} {tl : TA} (q : tl σ H fun vs H1 => rc vs H1 Q) : tCB rc tl σ H Q := q
theorem g_call {sp : Sp} {dvs : List V} {E : XK} {tl : TA} (q : tl σ H fun vs H1 => sp (vs ++ dvs) H1 Q E) : tCall sp dvs E tl σ H Q := q
theorem g_sl {rs : V → Option Int → Option Int → Hp → VK → Prop} {tl th : TO} (q : te σ H fun x H1 => tl σ H1 fun l H2 => th σ H2 fun u H3 => rs x l u H3 Q) : tSl rs te tl th σ H Q := q
theorem g_noPart {A : Option Int → Hp → Prop} (q : A none H) : tNoPart σ H A := q
theorem g_part {A : Option Int → Hp → Prop} (q : te σ H fun x H1 => ∃ i, x = .int i ∧ A (some i) H1) : tPart te σ H A := q
theorem g_ki {A : Int → Prop} {i : Int} (q : A i) : ∃ k, V.int i = V.int k ∧ A k := ⟨i, rfl, q⟩
theorem g_for {wi : TI} (q : wi σ H fun J H1 => ∃ W : Nat → Nat → L2.St → Hp → Prop, (∃ m, W 0 m σ H1) ∧ ∀ i m σ H, W i m σ H →
 (J.stop i H ∧ D.nx σ H) ∨ (J.go i H ∧ ∃ N : L2.St → Hp → Prop, (∀ σ' H', N σ' H' → ∃ m', m' < m ∧ W (i + 1) m' σ' H') ∧ ∀ x H', J.yld i H x H' → G x σ H' fun σ2 H2 => ts { D with nx := N, ct := N, bk := D.nx } σ2 H2)) : tFor wi G ts D σ H := q
theorem g_iR1 {tl : TA} {S : It → Hp → Prop} (q : tl σ H fun vs H1 => ∃ j : Int, vs = [.int j] ∧ -(2 ^ 62) ≤ j ∧ j < 2 ^ 62 ∧ S (Itr 0 j.toNat) H1) : iRng1 tl σ H S := q
theorem g_iR2 {tl : TA} {S : It → Hp → Prop} (q : tl σ H fun vs H1 => ∃ i j : Int, vs = [.int i, .int j] ∧ (-(2 ^ 62) ≤ i ∧ i < 2 ^ 62 ∧ -(2 ^ 62) ≤ j ∧ j < 2 ^ 62) ∧ S (Itr i (j - i).toNat) H1) : iRng2 tl σ H S := q
theorem g_iL {S : It → Hp → Prop} (q : te σ H fun x H1 => ∃ a, x = .ref a ∧ (∃ xs, SqL K H1 a xs) ∧ S (Itl K a) H1) : iList K te σ H S := q
theorem g_iT {S : It → Hp → Prop} (q : te σ H fun x H1 => ∃ a, x = .ref a ∧ (∃ xs, SqT K H1 a xs) ∧ S (Itt K a) H1) : iTup K te σ H S := q
theorem g_lc {wi : TI} {vs : List Nat} (q : wi σ H fun J H1 => ∀ D, H1 D = none → ∃ W : Nat → Nat → Hp → Prop, (∃ m, W 0 m (upd H1 D (.lst []))) ∧ ∀ i m H, W i m H →
 (J.stop i H ∧ Q (.ref D) H) ∨ (J.go i H ∧ ∃ Nx : Hp → Prop, (∀ H', Nx H' → ∃ m', m' < m ∧ W (i + 1) m' H') ∧ ∀ x H', J.yld i H x H' → G x (wipe σ vs) H' fun σ2 H2 => wipe σ2 vs = wipe σ vs ∧ t σ2 H2 fun b H3 =>
  if b = true then te σ2 H3 fun y H4 => ∃ acc, H4 D = some (.lst acc) ∧ acc.length < sizeLine ∧ Nx (upd H4 D (.lst (acc ++ [y]))) else Nx H3)) : tLc wi G t te vs σ H Q := q
theorem g_gtup {p : Addr} {xs : List V} {n : Nat} {tt : TGs} {P : L2.St → Hp → Prop} (h : SqT K H p xs) (hl : xs.length = n) (q : tt xs σ H P) : gTup K n tt (.ref p) σ H P := ⟨p, xs, rfl, h, hl, q⟩
theorem g_gcons {xs : List V} {tt : TGs} {P : L2.St → Hp → Prop} (q : G v σ H fun σ' H' => tt xs σ' H' P) : gCons G tt (v :: xs) σ H P := ⟨v, xs, rfl, q⟩
theorem g_gnil {P : L2.St → Hp → Prop} (q : P σ H) : gNil [] σ H P := ⟨rfl, q⟩
theorem g_yes (q : R true H) : tYes σ H R := q
theorem g_andT (q : ta σ H fun x H1 => ∃ k, TruV K x H1 k ∧ if k = true then tb σ H1 Q else Q x H1) : tAndT K ta tb σ H Q := q
theorem g_orT (q : ta σ H fun x H1 => ∃ k, TruV K x H1 k ∧ if k = true then Q x H1 else tb σ H1 Q) : tOrT K ta tb σ H Q := q
theorem g_notT (q : ta σ H fun x H1 => ∃ k, TruV K x H1 k ∧ Q (.bl (!k)) H1) : tNotT K ta σ H Q := q
theorem g_truB {A : Bool → Prop} {b : Bool} (q : A b) : ∃ k, TruV K (.bl b) H k ∧ A k := ⟨b, rfl, q⟩
theorem g_addI {i j : Int} (q : Q (.int (i + j)) H) : uAdd K (.int i) (.int j) H Q := q
theorem g_addS {a b : Str} (h : a.length + b.length ≤ sizeLine) (q : Q (.str (a ++ b)) H) : uAdd K (.str a) (.str b) H Q := ⟨h, q⟩
theorem g_addL {a b : Addr} {xs ys : List V} (h : H a = some (.lst xs)) (h2 : H b = some (.lst ys)) (hs : xs.length + ys.length ≤ sizeLine) (q : ∀ p, H p = none → Q (.ref p) (upd H p (.lst (xs ++ ys)))) : uAdd K (.ref a) (.ref b) H Q :=
 .inl ⟨a, b, xs, ys, rfl, rfl, h, h2, hs, q⟩
theorem g_subI {i j : Int} (q : Q (.int (i - j)) H) : uSub (.int i) (.int j) H Q := q
theorem g_mulI {i j : Int} (h : IntMulOk i j) (q : Q (.int (i * j)) H) : uMul (.int i) (.int j) H Q := ⟨h, q⟩
theorem g_divI {i j : Int} (h : CDivW i j) (q : Q (.int (i / j)) H) : uDiv (.int i) (.int j) H Q := ⟨h, q⟩
theorem g_modI {i j : Int} (h : 0 < j) (q : Q (.int (i % j)) H) : uMod (.int i) (.int j) H Q := ⟨h, q⟩
theorem g_powI {i j : Int} (h : CPow i j) (q : Q (.int (i ^ j.toNat)) H) : uPow (.int i) (.int j) H Q := ⟨h, q⟩
theorem g_ltI {i j : Int} (q : Q (.bl (decide (i < j))) H) : uLt K (.int i) (.int j) H Q := q
theorem g_gtI {i j : Int} (q : Q (.bl (decide (j < i))) H) : uGt (.int i) (.int j) H Q := q
theorem g_leI {i j : Int} (q : Q (.bl (decide (i ≤ j))) H) : uLe (.int i) (.int j) H Q := q
theorem g_geI {i j : Int} (q : Q (.bl (decide (j ≤ i))) H) : uGe (.int i) (.int j) H Q := q
theorem dec_i {i j : Int} : decide (V.int i = V.int j) = decide (i = j) := by
 by_cases h : i = j
 ·rw [decide_eq_true h, h]; exact decide_eq_true rfl
 ·rw [decide_eq_false h]; exact decide_eq_false fun z => h (V.int.inj z)
theorem dec_s {i j : Str} : decide (V.str i = V.str j) = decide (i = j) := by
 by_cases h : i = j
 ·rw [decide_eq_true h, h]; exact decide_eq_true rfl
 ·rw [decide_eq_false h]; exact decide_eq_false fun z => h (V.str.inj z)
theorem dec_b {i j : Bool} : decide (V.bl i = V.bl j) = decide (i = j) := by
 by_cases h : i = j
 ·rw [decide_eq_true h, h]; exact decide_eq_true rfl
 ·rw [decide_eq_false h]; exact decide_eq_false fun z => h (V.bl.inj z)
theorem g_eqI {i j : Int} (q : Q (.bl (decide (i = j))) H) : uEq K (.int i) (.int j) H Q := .inl ⟨rfl, by rw [dec_i]; exact q⟩
theorem g_eqS {i j : Str} (q : Q (.bl (decide (i = j))) H) : uEq K (.str i) (.str j) H Q := .inl ⟨rfl, by rw [dec_s]; exact q⟩
theorem g_eqB {i j : Bool} (q : Q (.bl (decide (i = j))) H) : uEq K (.bl i) (.bl j) H Q := .inl ⟨rfl, by rw [dec_b]; exact q⟩
theorem g_eqD {d e : PyData} (h : Dp K H x d) (h2 : Dp K H y e) (hs : SeqAt.shaped d = true) (hs2 : SeqAt.shaped e = true) (q : Q (.bl (PyData.eqv d e)) H) : uEq K x y H Q := .inr (.inl ⟨d, e, h, h2, hs, hs2, q⟩)
theorem g_neI {i j : Int} (q : Q (.bl (!decide (i = j))) H) : uNe K (.int i) (.int j) H Q := .inl ⟨rfl, by rw [dec_i]; exact q⟩
theorem g_neS {i j : Str} (q : Q (.bl (!decide (i = j))) H) : uNe K (.str i) (.str j) H Q := .inl ⟨rfl, by rw [dec_s]; exact q⟩
theorem g_neB {i j : Bool} (q : Q (.bl (!decide (i = j))) H) : uNe K (.bl i) (.bl j) H Q := .inl ⟨rfl, by rw [dec_b]; exact q⟩
theorem g_neD {d e : PyData} (h : Dp K H x d) (h2 : Dp K H y e) (hs : SeqAt.shaped d = true) (hs2 : SeqAt.shaped e = true) (q : Q (.bl (!PyData.eqv d e)) H) : uNe K x y H Q := .inr (.inl ⟨d, e, h, h2, hs, hs2, q⟩)
theorem g_eqEL {a b : Addr} {xs : List V} (h : SqL K H a xs) (h2 : SqL K H b []) (q : Q (.bl (decide (xs = []))) H) : uEq K (.ref a) (.ref b) H Q := .inr (.inr (.inr (.inl ⟨a, b, xs, rfl, rfl, h, h2, q⟩)))
theorem g_neEL {a b : Addr} {xs : List V} (h : SqL K H a xs) (h2 : SqL K H b []) (q : Q (.bl (!decide (xs = []))) H) : uNe K (.ref a) (.ref b) H Q := .inr (.inr (.inr (.inl ⟨a, b, xs, rfl, rfl, h, h2, q⟩)))
theorem g_mulS {a : Str} {k : Int} (h1 : 2 ≤ k) (h2 : k ≤ 1000) (h3 : 0 < a.length) (h4 : a.length ≤ 1000) (q : Q (.str ⟨(List.replicate k.toNat a.cps).foldl (· ++ ·) #[]⟩) H) : uMul (.str a) (.int k) H Q := ⟨h1, h2, h3, h4, q⟩
theorem g_ixL {p : Addr} {xs : List V} {i : Int} (h : SqL K H p xs) (e : atI xs i = some v) (q : Q v H) : rIx K (.ref p) (.int i) H Q := .inl ⟨p, xs, i, v, rfl, rfl, h, e, q⟩
theorem g_ixT {p : Addr} {xs : List V} {i : Int} (h : SqT K H p xs) (e : atI xs i = some v) (q : Q v H) : rIx K (.ref p) (.int i) H Q := .inr (.inl ⟨p, xs, i, v, rfl, rfl, h, e, q⟩)
theorem g_ixS {z : Str} {i : Int} {c : Nat} (h : z.length ≤ sizeLine) (e : atI z.cps.toList i = some c) (q : Q (.str ⟨#[c]⟩) H) : rIx K (.str z) (.int i) H Q := .inr (.inr ⟨z, i, c, rfl, rfl, h, e, q⟩)
theorem g_setL {p : Addr} {xs : List V} {k : Int} {j : Nat} {P : Hp → Prop} (h : H p = some (.lst xs)) (e : ixN xs.length k = some j) (q : P (upd H p (.lst (xs.set j v)))) : rSetL (.ref p) (.int k) v H P := ⟨p, xs, k, j, rfl, rfl, h, e, q⟩
theorem g_slL {p : Addr} {xs : List V} {lo hi : Option Int} (h : SqL K H p xs) (q : ∀ p, H p = none → Q (.ref p) (upd H p (.lst (cutV xs lo hi)))) : rSlL K (.ref p) lo hi H Q := ⟨p, xs, rfl, h, q⟩
theorem cut0 (xs : List V) (n : Nat) : cutV xs none (some (n : Int)) = xs.take n := by
 unfold cutV
 rw [HT.sIx_none, HT.sIx_nat, List.drop_zero, Nat.sub_zero]
 by_cases h : n ≤ xs.length
 ·rw [Nat.min_eq_left h]
 ·rw [Nat.min_eq_right (by omega), List.take_length, List.take_of_length_le (by omega)]
theorem cutA (xs : List V) (n : Nat) : cutV xs (some (n : Int)) none = xs.drop n := by
 unfold cutV
 rw [HT.sIx_none, HT.sIx_nat]
 by_cases h : n ≤ xs.length
 ·rw [Nat.min_eq_left h, ← List.length_drop, List.take_length]
 ·rw [Nat.min_eq_right (by omega), Nat.sub_self, List.take_zero, List.drop_eq_nil_of_le (by omega)]
theorem rd_start {tm : TS} {N : List Str} {vs : List V} {σ0 : L2.St} (e : start N vs = σ0) (q : tm D σ0 H) : tm D (start N vs) H := by rw [e]; exact q
theorem lt_of {n : Nat} (h : n ≤ 100000) : n < sizeLine := Nat.lt_of_le_of_lt h (by decide)
theorem le_of {n : Nat} (h : n ≤ 100000) : n ≤ sizeLine := Nat.le_trans h (by decide)
theorem g_tt {c : Bool} {A B : Prop} (h : c = true) (q : A) : if c = true then A else B := by rw [if_pos h]; exact q
theorem g_ff {c : Bool} {A B : Prop} (h : c = false) (q : B) : if c = true then A else B := by rw [if_neg (by rw [h]; exact Bool.false_ne_true)]; exact q
theorem g_by {c : Prop} [Decidable c] {A B : Prop} (h1 : c → A) (h2 : ¬ c → B) : if decide c = true then A else B := by
 by_cases h : c
 ·exact g_tt (decide_eq_true h) (h1 h)
 ·exact g_ff (decide_eq_false h) (h2 h)
theorem g_byN {c : Prop} [Decidable c] {A B : Prop} (h1 : ¬ c → A) (h2 : c → B) : if (!decide c) = true then A else B := by
 by_cases h : c
 ·exact g_ff (by rw [decide_eq_true h]; rfl) (h2 h)
 ·exact g_tt (by rw [decide_eq_false h]; rfl) (h1 h)
theorem g_byB {c : Bool} {A B : Prop} (h1 : c = true → A) (h2 : c = false → B) : if c = true then A else B := by
 cases c with
 | true => exact h1 rfl
 | false => exact h2 rfl
theorem mulR {i j : Int} (h1 : -(2 ^ 64) < j) (h2 : j < 2 ^ 64) : IntMulOk i j := .of_right (intBits_le_64 h1 h2)
theorem mulL {i j : Int} (h1 : -(2 ^ 64) < i) (h2 : i < 2 ^ 64) : IntMulOk i j := .of_left (intBits_le_64 h1 h2)
theorem divS {i j : Int} (h : 0 < j) (h2 : j < 2 ^ 200) : CDivW i j := by
 refine ⟨h, ?_⟩
 have e : j.natAbs < 2 ^ 200 := by omega
 exact Nat.lt_of_lt_of_le (PySem.Flt.log2_lt_of (by decide) e) (by decide)
end
end SL
set_option Elab.async false
set_option linter.all false
set_option maxRecDepth 100000
set_option maxHeartbeats 2000000
namespace SL
open PySem PySem.Spec PyProof.Rows L2
structure Cal (P : Program) (w : World) (K : PySem.W.Frag) (mg : Str → Option Value) (base : Heap) (k : Nat) (x : Str) (sp : Sp) : Prop where
 ex : ∃ (f : Addr) (fd : FuncData) (ps : List Str), FnOk P w K mg base CX0 k f fd ps sp ∧ mg x = some (.ref f) ∧ PySem.W.keepIn K (.ref f) = true ∧ Binds K fd ps []
section
variable {P : Program} {w : World} {K : PySem.W.Frag} {mg : Str → Option Value} {base : Heap}
theorem Cal.mono {j k : Nat} {x : Str} {sp : Sp} (c : Cal P w K mg base j x sp) (h : j ≤ k) : Cal P w K mg base k x sp := by
 obtain ⟨f, fd, ps, F, m, kp, b⟩ := c.ex
 exact ⟨f, fd, ps, F.mono h, m, kp, b⟩
theorem Cal.imp {k : Nat} {x : Str} {sp sp' : Sp} (c : Cal P w K mg base k x sp) (h : ∀ vs H Q E, sp' vs H Q E → sp vs H Q E) : Cal P w K mg base k x sp' := by
 obtain ⟨f, fd, ps, F, m, kp, b⟩ := c.ex
 exact ⟨f, fd, ps, F.imp h, m, kp, b⟩
end
section
variable {X : Cx} {k j : Nat} {x : Str} {sp : Sp} {p pos : Pos} {e : Expr} {es : List Expr} {t : TA}
def uLen (K : PySem.W.Frag) : List V → Hp → VK → Prop := fun xs H Q => ∃ x, xs = [x] ∧ match x with
 | .str z => z.length ≤ sizeLine ∧ Q (.int z.length) H
 | .ref p => (∃ ys, (SqL K H p ys ∨ SqT K H p ys) ∧ Q (.int ys.length) H) ∨ ∃ kvs, H p = some (.dK kvs) ∧ Q (.int kvs.length) H
 | _ => False
theorem callu_len : CallR X (.builtin "len") (uLen X.K) := by
  intro pins s σ H xs us Q I r h
  obtain ⟨x, rfl, h⟩ := h
  cases x <;> first
    | exact absurd h id
    | exact call_len_str pins s σ H _ us Q I r ⟨_, rfl, h.1, h.2⟩
    | (rcases h with ⟨ys, h1, h2⟩ | ⟨kvs, h1, h2⟩
       · exact call_len_seq pins s σ H _ us Q I r ⟨_, ys, rfl, h1, h2⟩
       · obtain ⟨u, rfl, r1⟩ := vals1 r
         cases r1
         exact d_len I (.inl h1) fun t s' I' => ⟨.int _, H, I', ⟨_, rfl⟩, h2⟩)
def uList (K : PySem.W.Frag) : List V → Hp → VK → Prop := fun xs H Q => (∃ p ys, xs = [.ref p] ∧ (SqL K H p ys ∨ SqT K H p ys) ∧ ∀ l, H l = none → Q (.ref l) (upd H l (.lst ys))) ∨ rListD xs H Q
theorem callu_list (hc : X.calm = true := by rfl) : CallR X (.type "list") (uList X.K) := call_list_of.or (call_list_dK hc)
def uIsi (K : PySem.W.Frag) : List V → Hp → VK → Prop := fun xs H Q => rIsi K xs H Q ∨ rIsiT K xs H Q
theorem callu_isi : CallR X (.builtin "isinstance") (uIsi X.K) := call_isi.or call_isiT
end
section
variable {K : PySem.W.Frag} {H : Hp} {Q : VK}
theorem g_len {p : Addr} {ys : List V} (h : SqL K H p ys ∨ SqT K H p ys) (q : Q (.int ys.length) H) : uLen K [.ref p] H Q := ⟨_, rfl, .inl ⟨ys, h, q⟩⟩
theorem g_lenS {z : Str} (h : z.length ≤ sizeLine) (q : Q (.int z.length) H) : uLen K [.str z] H Q := ⟨_, rfl, h, q⟩
theorem g_list {p : Addr} {ys : List V} (h : SqL K H p ys ∨ SqT K H p ys) (q : ∀ l, H l = none → Q (.ref l) (upd H l (.lst ys))) : uList K [.ref p] H Q := .inl ⟨p, ys, rfl, h, q⟩
end
end SL
namespace SL
open PySem PySem.Spec PyProof.Rows L2
def shownV : V → Str
 | .int i => toString i
 | .str z => reprText z
 | .bl b => if b then "True" else "False"
 | _ => "None"
def shortV : V → Prop
 | .int i => i.natAbs.log2 < 1920
 | .str z => (reprText z).length ≤ sizeLine
 | .bl _ => True
 | .non => True
 | _ => False
def uRepr : List V → Hp → VK → Prop := fun xs H Q => ∃ x, xs = [x] ∧ shortV x ∧ Q (.str (shownV x)) H
theorem callu_repr {X : Cx} : CallR X (.builtin "repr") uRepr := by
 intro pins s σ H xs us Q I r h
 obtain ⟨x, rfl, hs, q⟩ := h
 obtain ⟨u, rfl, r1⟩ := vals1 r
 cases x with
 | int i =>
  obtain ⟨t, rfl⟩ := r1
  exact PySem.P.repr_of_int hs ⟨.str _, H, I.tok _, ⟨_, rfl⟩, q⟩
 | str z =>
  obtain ⟨t, rfl⟩ := r1
  exact PySem.P.repr_of_str ⟨.str _, H, I.tok _, ⟨_, rfl⟩, q⟩ hs
 | bl b =>
  cases r1
  exact PySem.P.repr_of_bool ⟨.str (if b then "True" else "False"), H, I.tok _, ⟨_, by cases b <;> rfl⟩, q⟩
 | non =>
  cases r1
  exact PySem.P.repr_of_none ⟨.str _, H, I.tok _, ⟨_, rfl⟩, q⟩
 | _ => exact absurd hs id
section
variable {K : PySem.W.Frag} {H : Hp} {Q : VK} {x : V}
theorem tyx_l {p : Addr} {xs : List V} (h : SqL K H p xs) : TyX K H (.ref p) (.type "list") := by
 rcases h with (h | ⟨o, h⟩) | ⟨o, its, n, h1, h2, _⟩
 ·exact .base (.lst h)
 ·exact .base (.frz h)
 ·exact .kList h1 h2
theorem tyx_t {p : Addr} {xs : List V} (h : SqT K H p xs) : TyX K H (.ref p) (.type "tuple") := by
 rcases h with (h | ⟨o, h⟩) | ⟨o, its, n, h1, h2, _⟩
 ·exact .base (.tup h)
 ·exact .fTuple h
 ·exact .kTuple h1 h2
theorem g_isi {T U : String} {b : Bool} (ty : TyX K H x (.type T)) (e : kitB T U = some b) (q : Q (.bl b) H) : uIsi K [x, .ty U] H Q := .inl ⟨x, .ty U, _, _, b, rfl, .ty U, ty, kit_ty e, q⟩
theorem g_isi2 {T U1 U2 : String} {b1 b2 : Bool} {tp : Addr} (ht : H tp = some (.tup [.ty U1, .ty U2])) (ty : TyX K H x (.type T)) (e1 : kitB T U1 = some b1) (e2 : kitB T U2 = some b2) (q : Q (.bl (b1 || b2)) H) : uIsi K [x, .ref tp] H Q := by
 refine .inr ⟨x, tp, [.ty U1, .ty U2], _, [.type U1, .type U2], b1 || b2, rfl, ht, .cons (.ty U1) (.cons (.ty U2) .nil), ty, ?_, q⟩
 refine kitAny_cons (kit_ty e1) (fun h => ?_) (fun h => by rw [h]; rfl)
 subst h
 refine kitAny_cons (kit_ty e2) (fun h => ?_) (fun h => by rw [h]; rfl)
 subst h
 exact kitAny_nil
end
def Sm : Nat → PyData → Prop
 | 0, _ => False
 | _ + 1, .int i => i.natAbs.log2 < 1920
 | _ + 1, .str z => (reprText z).length ≤ sizeLine
 | _ + 1, .bool _ => True
 | _ + 1, .none => True
 | n + 1, .list ds => ds.length ≤ 10000 ∧ ∀ d ∈ ds, Sm n d
 | n + 1, .tuple ds => ds.length ≤ 10000 ∧ ∀ d ∈ ds, Sm n d
 | _ + 1, .dict _ => False
section
variable {K : PySem.W.Frag} {H H' : Hp} {M : List Addr}
mutual
theorem dp_same (e : Same H H') : ∀ {v : V} {d : PyData}, Dp K H v d → Dp K H' v d
 | _, _, .non => .non
 | _, _, .bl b => .bl b
 | _, _, .int i => .int i
 | _, _, .str x => .str x
 | _, _, .lst h hs => .lst (e.seq h) (dpa_same e hs)
 | _, _, .tup h hs => .tup ((Fr.of_same (M := []) e).tup h) (dpa_same e hs)
theorem dpa_same (e : Same H H') : ∀ {vs : List V} {ds : List PyData}, DpAll K H vs ds → DpAll K H' vs ds
 | _, _, .nil => .nil
 | _, _, .cons h hs => .cons (dp_same e h) (dpa_same e hs)
end
theorem dpa_len : ∀ {vs : List V} {ds : List PyData}, DpAll K H vs ds → vs.length = ds.length
 | _, _, .nil => rfl
 | _, _, .cons _ hs => congrArg Nat.succ (dpa_len hs)
theorem dpa_get : ∀ {vs : List V} {ds : List PyData} {i : Nat} {v : V}, DpAll K H vs ds → vs[i]? = some v → ∃ d, ds[i]? = some d ∧ Dp K H v d
 | _, _, _, _, .nil, e => by simp at e
 | _, _, 0, v, .cons h _, e => by simp at e; subst e; exact ⟨_, rfl, h⟩
 | _, _, i + 1, v, .cons _ hs, e => by
  obtain ⟨d, h1, h2⟩ := dpa_get (i := i) (v := v) hs (by simpa using e)
  exact ⟨d, by simpa using h1, h2⟩
end
end SL
namespace SL
open PySem PySem.Spec PyProof.Rows L2
section
variable {K : PySem.W.Frag} {σ : L2.St} {H : Hp} {a b : Addr} {xs ys : List V}
theorem walk_zipT {n : Nat} (hn : n = min xs.length ys.length) : Walk (RZ.ItzT K a b) n (fun H => SqT K H a xs ∧ SqT K H b ys) (YPair (fun i => xs[i]?) (fun i => ys[i]?)) :=
 have both : ∀ {i : Nat}, i < n → i < xs.length ∧ i < ys.length := fun {i} lt => by omega
 {
  goes := fun i _ lt q => ⟨xs, ys, xs[i]'(both lt).1, ys[i]'(both lt).2, q.1, q.2, List.getElem?_eq_getElem _, List.getElem?_eq_getElem _⟩
  stops := fun _ q => ⟨xs, ys, q.1, q.2, by omega⟩
  yields := fun i H v H' _ q y => have ⟨T, x, z, isT, new, as, fx, fy⟩ := y; ⟨T, x, z, isT, new, as, fx xs q.1, fy ys q.2⟩
 }
theorem g_izA {tl : TA} {S : It → Hp → Prop} (q : tl σ H fun vs H1 => ∃ a b xs ys, vs = [.ref a, .ref b] ∧ ((SqL K H1 a xs ∧ SqL K H1 b ys ∧ S (Itz K a b) H1) ∨ (SqT K H1 a xs ∧ SqT K H1 b ys ∧ S (RZ.ItzT K a b) H1))) : RZ.iZipA K tl σ H S := q
theorem g_iz {tl : TA} {S : It → Hp → Prop} (q : tl σ H fun vs H1 => ∃ a b xs ys, vs = [.ref a, .ref b] ∧ SqL K H1 a xs ∧ SqL K H1 b ys ∧ S (Itz K a b) H1) : iZip K tl σ H S := q
end
end SL
set_option Elab.async false
set_option linter.all false
set_option maxRecDepth 100000
set_option maxHeartbeats 2000000
namespace SL
open PySem PySem.Spec PyProof.Rows L2
structure RoomG (k : Nat) (A : Around) : Prop where
 rm : Room k A
 gd : A.guards = some []
theorem RoomG.mono {j k : Nat} {A : Around} (r : RoomG k A) (h : j ≤ k) : RoomG j A := ⟨r.rm.mono h, r.gd⟩
theorem RoomG.units {k : Nat} {A : Around} (r : RoomG k A) : A.units + 64 < cLine := r.rm.units
structure FnG (P : Program) (w : World) (K : PySem.W.Frag) (mg : Str → Option Value) (base : Heap) (CX : CXT) (k : Nat) (f : Addr) (fd : FuncData) (ps : List Str) (sp : Sp) : Prop where
 len : ∀ vs H Q E, sp vs H Q E → vs.length = ps.length
 go : ∀ (A : Around) (outer : List Env) (s : Shared) (H : Hp) (args : Args) (us : List Value) (vs : List V) (Q : VK) (E : XK), RoomG k A →
  Env0 P w K mg base A outer s H → BindsTo s fd args (ps.zip us) → Vals vs us → sp vs H Q E → codeAny (model P w) A (.call (.ref f) args) (CR CX outer P w H s Q E) s
section
variable {P : Program} {w : World} {K : PySem.W.Frag} {mg : Str → Option Value} {base : Heap} {CX : CXT}
theorem FnG.up {j k : Nat} {f : Addr} {fd : FuncData} {ps : List Str} {sp : Sp} (F : FnG P w K mg base CX j f fd ps sp) (h : j ≤ k) : FnG P w K mg base CX k f fd ps sp :=
 ⟨F.len, fun A outer s H args us vs Q E r => F.go A outer s H args us vs Q E (r.mono h)⟩
theorem FnG.imp {k : Nat} {f : Addr} {fd : FuncData} {ps : List Str} {sp sp' : Sp} (F : FnG P w K mg base CX k f fd ps sp) (h : ∀ vs H Q E, sp' vs H Q E → sp vs H Q E) : FnG P w K mg base CX k f fd ps sp' :=
 ⟨fun vs H Q E z => F.len vs H Q E (h vs H Q E z), fun A outer s H args us vs Q E r e b v z => F.go A outer s H args us vs Q E r e b v (h vs H Q E z)⟩
theorem fng_of {k : Nat} {f : Addr} {x qual : Str} {pr : Arguments} {bd : List Stmt} {sc : Scope} {dV kV doc pm cdv ct oc : Value} {an od : Option Addr} {osl : Array (Option Value)} {N ps : List Str} {sp : Sp}
  (lk : K.lookup f = some ⟨oc, od, .func (PySem.W.fnOf x qual pr bd sc dV kV doc pm an cdv ct), osl⟩) (hcd : PySem.W.codeIn K cdv qual = true) (S : FnScope N ps sc) (hlen : ∀ vs H Q E, sp vs H Q E → vs.length = ps.length)
  (hb : ∀ (A : Around) (outer : List Env) (s : Shared) (H : Hp) (vs : List V) (Q : VK) (E : XK), RoomG k (A.deeper (envOfC qual sc s.heap.objs.size f cdv)) → sp vs H Q E →
   ∃ t, PSs (cxOf CX P w K mg base N qual sc f cdv A outer s H E) bd t ∧ t { nx := fun _ H' => Q .non H', rt := Q } (start N vs) H) :
  FnG P w K mg base CX (k + 1) f (PySem.W.fnOf x qual pr bd sc dV kV doc pm an cdv ct) ps sp := by
 constructor
 ·exact hlen
 intro A outer s H args us vs Q E hr env0 hbind rel hsp
 have nl := hlen _ _ _ _ hsp
 have inH : K.In s.heap := env0.mod.kin.keeps fun b o z => (env0.bs b o z).1
 have nolim : s.heap.NoLimit := env0.mod.nolimit.keeps fun b o z => (env0.bs b o z).1
 have kinds : ∀ y ∈ ps.zip us, sc.names.lookup y.1 = some .local ∨ (sc.names.lookup y.1 = some .cell ∧ ((cellsFrom (s.heap.objs.size + 1) sc.names []).lookup y.1).isSome = true) := by
  rintro ⟨n, v⟩ hy
  exact (S.par n (List.of_mem_zip hy).1).imp id fun q => ⟨q, PySem.W.cellsFrom_some _ _ _ (.inl q)⟩
 refine codeAny_call_function hr.rm.depth (inH _ _ lk) rfl S.co S.gen rfl (PySem.W.codeRec_of inH hcd) (hbind _ _ _ _ (wpAny_newFunctionEnv_cells S.kind kinds fun en hen s1 ic => ?_))
 subst hen
 refine ⟨nolim.keeps ic.toInCall.keep, codeAny_func ?_⟩
 obtain ⟨t, ht, hq⟩ := hb A outer s H vs Q E ⟨hr.rm.deeper _, hr.gd⟩ hsp
 have J0 : Inv (cxOf CX P w K mg base N qual sc f cdv A outer s H E) [] (start N vs) H s1 := inv_start S hr.rm.hd env0 nl rel ic
 refine wpAny_mono (ht.run [] s1 (start N vs) H _ J0 hq) (fun fl s2 h2 => ?_) fun e s2 h2 => h2
 cases fl with
 | next =>
  obtain ⟨σ2, H2, J, q2⟩ := h2
  exact ⟨V.non, H2, J.os, J.bare, J.base, J.hok, rfl, q2⟩
 | ret u =>
  obtain ⟨v, σ2, H2, J, rv, q2⟩ := h2
  exact ⟨v, H2, J.os, J.bare, J.base, J.hok, rv, q2⟩
 | brk => exact h2.elim fun _ z => z.elim fun _ z => z.2.elim
 | cont => exact h2.elim fun _ z => z.elim fun _ z => z.2.elim
theorem okG {x qual : Str} {pr : Arguments} {bd : List Stmt} {sc : Scope} {dvs : List V} {kws : List (Str × V)} {f : Addr} {fd : FuncData} {N ps : List Str} {k : Nat} {sp : Sp} (F : FunD K x qual pr bd sc dvs kws f fd) (S : FnScope N ps sc) (hlen : ∀ vs H Q E, sp vs H Q E → vs.length = ps.length)
  (hb : ∀ (cdv : Value) (A : Around) (outer : List Env) (s : Shared) (H : Hp) (vs : List V) (Q : VK) (E : XK), RoomG k (A.deeper (envOfC qual sc s.heap.objs.size f cdv)) → sp vs H Q E →
   ∃ t, PSs (cxOf CX P w K mg base N qual sc f cdv A outer s H E) bd t ∧ t { nx := fun _ H' => Q .non H', rt := Q } (start N vs) H) : FnG P w K mg base CX (k + 1) f fd ps sp := by
 obtain ⟨oc, od, dV, kV, doc, pm, an, cdv, ct, osl, rfl, lk, hcd, _, _⟩ := F.ex
 exact fng_of lk hcd S hlen fun A outer s H vs Q E hr hsp => hb cdv A outer s H vs Q E hr hsp
structure CalG (P : Program) (w : World) (K : PySem.W.Frag) (mg : Str → Option Value) (base : Heap) (k : Nat) (x : Str) (sp : Sp) : Prop where
 ex : ∃ (f : Addr) (fd : FuncData) (ps : List Str), FnG P w K mg base CX0 k f fd ps sp ∧ mg x = some (.ref f) ∧ PySem.W.keepIn K (.ref f) = true ∧ Binds K fd ps []
theorem CalG.mono {j k : Nat} {x : Str} {sp : Sp} (c : CalG P w K mg base j x sp) (h : j ≤ k) : CalG P w K mg base k x sp := by
 obtain ⟨f, fd, ps, F, m, kp, b⟩ := c.ex
 exact ⟨f, fd, ps, F.up h, m, kp, b⟩
theorem CalG.imp {k : Nat} {x : Str} {sp sp' : Sp} (c : CalG P w K mg base k x sp) (h : ∀ vs H Q E, sp' vs H Q E → sp vs H Q E) : CalG P w K mg base k x sp' := by
 obtain ⟨f, fd, ps, F, m, kp, b⟩ := c.ex
 exact ⟨f, fd, ps, F.imp h, m, kp, b⟩
end
section
variable {X : Cx} {k j : Nat} {x : Str} {sp : Sp} {p pos : Pos} {e : Expr} {es : List Expr} {t : TA}
theorem run_fng {CX : CXT} {f : Addr} {fd : FuncData} {ps : List Str} {dvs : List V} {ds : List Value} {E : XK} {pins : List (Addr × Obj)} {σ : L2.St} {H : Hp} {s : Shared} {Q : VK} {us : List Value} {vs : List V}
  (F : FnG X.prog X.w X.K X.mg X.base CX k f fd ps sp) (hr : RoomG k X.A) (hb : Binds X.K fd ps ds) (hd : Vals dvs ds) (hx : Passes CX X E) (I : Inv X pins σ H s) (r : Vals vs us) (h : sp (vs ++ dvs) H Q E) :
  wpAny (model X.prog X.w) X.A (call (.ref f) us) (EP X pins σ Q) X.xe s := by
 have rel : Vals (vs ++ dvs) (us ++ ds) := r.append hd
 have ln : (us ++ ds).length = ps.length := rel.length.symm.trans (F.len _ _ _ _ h)
 refine wpAny_call (codeAny_mono (F.go X.A X.stack s H ⟨us, []⟩ (us ++ ds) (vs ++ dvs) Q E hr I.env0 (hb s us I.kIn ln) rel h) fun res s2 hq => ?_)
 cases res with
 | ok fl =>
  cases fl with
  | ret u => exact I.after hq
  | _ => exact hq.elim
 | error z => exact hx pins σ H s z s2 I hq
theorem pe_calG (c : CalG X.prog X.w X.K X.mg X.base k x sp) (hr : RoomG j X.A) (hg : Gl X x) (ha : PA X (e :: es) t) (hk : k ≤ j := by first | decide | omega)
  (hdb : (x == ("__debug__" : Str)) = false := by decide) (hst : starEach (e :: es) X.env = (false, eval e X.env) :: starEach es X.env := by rfl) (hnp : (backTo pos (starEach es X.env)).any (·.1) = false := by rfl) :
  PE X (.Call (.Name x p) (e :: es) [] pos) (tCall sp [] E0 t) := by
 obtain ⟨f, fd, ps, F, hm, kp, b⟩ := c.ex
 constructor
 intro pins s σ H Q I h
 refine wpAny_Call_Name_kw (ld_glob I hg hm (PySem.W.callWith_K (h₀ := X.base) I.ok.mod.kin kp (thn (ha.run pos pins s σ H _ I h) fun us s1 z => ?_) hst hnp) hdb)
 obtain ⟨vs, H1, I1, r, q⟩ := z
 exact ⟨I1.kIn, run_fng F (hr.mono hk) b .nil pass0 I1 r q⟩
end
theorem calG_of {P : Program} {w : World} {K : PySem.W.Frag} {mg : Str → Option Value} {base : Heap} {k : Nat} {x : Str} {sp : Sp} {f : Addr} {fd : FuncData} {ps : List Str} (F : FnG P w K mg base CX0 k f fd ps sp) (m : mg x = some (.ref f)) (kp : PySem.W.keepIn K (.ref f) = true) (b : Binds K fd ps []) : CalG P w K mg base k x sp := ⟨f, fd, ps, F, m, kp, b⟩
def scrO (vs : List Value) : Obj := { cls := .type "list", data := .seq vs.toArray }
theorem law_from {P : Program} {w : World} {K : PySem.W.Frag} {mg mb : Str → Option Value} {k : Nat} {fa a : Addr} {fd : FuncData} {x : Str} {sp : Sp} {s : Shared} {vs : List Value} {H : Hp}
  (kin : K.In s.heap) (gns : s.heap.Ns mainGlobals mg) (bns : s.heap.Ns builtinsNs mb) (bok : ∀ x : Str, x ≠ "__name__" → mb x = bootBuiltins x) (nolim : s.heap.NoLimit) (nog : s.gens = #[]) (scr : s.heap.get? a = some (scrO vs)) (hr : RoomG k callerA)
  (F : ∀ base : Heap, K.In base → base.Ns mainGlobals mg → FnG P w K mg base CX0 k fa fd [x] sp) (hbind : ∀ (s : Shared) (u : Value), BindsTo s fd ⟨[u], []⟩ [(x, u)])
  (hsp : sp [.ref a] H (fun v _ => v = .bl true) fun _ _ _ => False) (hO : Only H) (hok : HOk P w H s.heap) (hA : ∀ b, H b ≠ none → b = a) (hK : H a ≠ none → K.lookup a = none) :
  codeAny (model P w) callerA (.call (.ref fa) ⟨[.ref a], []⟩) (fun r s2 => r = .ok (.ret (.bool true)) ∧ OldK s.heap s2.heap ∧ s2.os = s.os ∧ AllBare s2.gens) s := by
 have dfree : ∀ {b : Addr} {o : Obj} {es : Array DictEntry} {ep : Nat}, s.heap.get? b = some o → o.data = .dict es ep → H b = none := by
  intro b o es ep h1 h2
  cases q : H b with
  | none => rfl
  | some u =>
   have hb : b = a := hA b (by rw [q]; exact fun z => nomatch z)
   rw [hb, scr] at h1
   cases h1
   cases h2
 have nsH : ∀ {b : Addr} {m : Str → Option Value}, s.heap.Ns b m → (hidT s.heap H).Ns b m := by
  rintro b m ⟨o, es, ep, h1, h2, h3⟩
  exact ⟨o, es, ep, hidT_get h1 (dfree h1 h2), h2, h3⟩
 have kH : K.In (hidT s.heap H) := by
  intro b o h1
  refine hidT_get (kin b o h1) ?_
  cases q : H b with
  | none => rfl
  | some u =>
   have hb : b = a := hA b (by rw [q]; exact fun z => nomatch z)
   rw [hb] at h1 q
   rw [hK (by rw [q]; exact fun z => nomatch z)] at h1
   cases h1
 obtain ⟨mc, l1, l2⟩ := nolim
 have md : Mod K mg (hidT s.heap H) := ⟨kH, nsH gns, ⟨mb, nsH bns, bok⟩, ⟨mc, nsH l1, l2⟩⟩
 have env : Env0 P w K mg (hidT s.heap H) callerA [] s H := ⟨rfl, md, fun _ _ z => of_hidT z, Nat.le_of_eq (hidT_size _ _), trivial, fun b hb => (nomatch (show b ∈ ([] : List Addr) from hb)), hok, .of_eq nog⟩
 refine codeAny_mono ((F _ kH (nsH gns)).go callerA [] s H ⟨[.ref a], []⟩ [.ref a] [.ref a] _ _ hr env (hbind s (.ref a)) (.cons rfl .nil) hsp) fun r s2 h => ?_
 cases r with
 | error z => exact h.elim
 | ok fl =>
  cases fl with
  | ret u =>
   obtain ⟨v, H2, os, bare, un, hok2, rv, q⟩ := h
   have q1 : v = .bl true := q
   rw [q1] at rv
   have ru : u = Value.bool true := rv
   rw [ru]
   refine ⟨rfl, OldK.of_keep fun b o h1 => ?_, os, bare⟩
   rcases hO b with z | ⟨ob, xs, z⟩
   ·exact un.keep b o h1 z (fun y => nomatch (show b ∈ ([] : List Addr) from y)) (fun y => nomatch y)
   ·obtain ⟨g1, _⟩ := hok b _ z
    obtain ⟨g2, _⟩ := hok2 b _ (un.frzs b ob _ z)
    rw [h1] at g1
    cases g1
    exact g2
  | _ => exact h.elim
theorem law_run {P : Program} {w : World} {K : PySem.W.Frag} {mg mb : Str → Option Value} {k : Nat} {fa a : Addr} {fd : FuncData} {x : Str} {sp : Sp} {s : Shared} {vs : List Value} {ns : List Int}
  (kin : K.In s.heap) (gns : s.heap.Ns mainGlobals mg) (bns : s.heap.Ns builtinsNs mb) (bok : ∀ x : Str, x ≠ "__name__" → mb x = bootBuiltins x) (nolim : s.heap.NoLimit) (nog : s.gens = #[]) (scr : s.heap.get? a = some (scrO vs)) (hin : IntsAre vs ns) (small : ns.length ≤ sizeLine) (hr : RoomG k callerA)
  (F : ∀ base : Heap, K.In base → base.Ns mainGlobals mg → FnG P w K mg base CX0 k fa fd [x] sp) (hbind : ∀ (s : Shared) (u : Value), BindsTo s fd ⟨[u], []⟩ [(x, u)])
  (hsp : ∀ H : Hp, Only H → SqL K H a (ns.map V.int) → sp [.ref a] H (fun v _ => v = .bl true) fun _ _ _ => False) :
  codeAny (model P w) callerA (.call (.ref fa) ⟨[.ref a], []⟩) (fun r s2 => r = .ok (.ret (.bool true)) ∧ OldK s.heap s2.heap ∧ s2.os = s.os ∧ AllBare s2.gens) s := by
 have rel := vals_ints hin
 have ln := hin.length
 cases hk : K.lookup a with
 | none =>
  let H0 : Hp := fun b => if b = a then some (.frz (scrO vs) (.lst (ns.map V.int))) else none
  have at_a : H0 a = some (.frz (scrO vs) (.lst (ns.map V.int))) := if_pos rfl
  have off_a : ∀ b, b ≠ a → H0 b = none := fun b hb => if_neg hb
  have only : Only H0 := fun b => by
   by_cases hb : b = a
   ·rw [hb]; exact .inr ⟨_, _, at_a⟩
   ·exact .inl (off_a b hb)
  refine law_from (H := H0) kin gns bns bok nolim nog scr hr F hbind (hsp H0 only (.inl (.inr ⟨_, at_a⟩))) only (fun b u z => ?_) (fun b z => ?_) fun _ => hk
  ·by_cases hb : b = a
   ·subst hb
    rw [at_a] at z
    cases z
    exact ⟨scr, (by rw [List.length_map]; exact small), vs, _, rel, scr⟩
   ·rw [off_a b hb] at z
    cases z
  ·by_cases hb : b = a
   ·exact hb
   ·exact absurd (off_a b hb) z
 | some o =>
  have h1 := kin a o hk
  rw [scr] at h1
  cases h1
  refine law_from (H := fun _ => none) kin gns bns bok nolim nog scr hr F hbind (hsp _ (fun _ => .inl rfl) (.inr ⟨_, vs.toArray, _, hk, rfl, rfl, rfl, by rw [List.size_toArray, ln]; exact small, by simpa using rel⟩)) (fun _ => .inl rfl) (fun b u z => ?_) (fun b z => absurd rfl z) fun z => absurd rfl z
  have z2 : (none : Option HO) = some u := z
  cases z2
theorem walkG {l : PySem.W.OpenLaw} {n k : Nat} {q : Program} {loose : List Str} {XP : (Str → Option Value) → Heap → Prop} {YP : World → Heap → Prop} {d : DefRec} {x : Str} (hn : l.most = some n) (hn2 : n ≤ sizeLine) (hdf : d.params.defaults = []) (hr : Room k callerA)
  (F : ∀ (w : World) (mg : Str → Option Value) (fa : Addr) (h : Heap), YP w h → h.Ns mainGlobals mg → mg d.name = some (.ref fa) →
   ∃ (K : PySem.W.Frag) (fd : FuncData) (sp : Sp), K.In h ∧ (∀ (s : Shared) (u : Value), BindsTo s fd ⟨[u], []⟩ [(x, u)]) ∧
    (∀ (H : Hp) (a : Addr) (ns : List Int), ns.length ≤ n → SqL K H a (ns.map V.int) → sp [.ref a] H (fun v _ => v = .bl true) fun _ _ _ => False) ∧ ∀ base : Heap, K.In base → base.Ns mainGlobals mg → FnG l.prog w K mg base CX0 k fa fd [x] sp) :
  PySem.W.WalkO q loose XP YP l.row.toRowW d [] (fun f vs => PySem.call f vs) := by
 refine Att.attach_call hn hdf fun w s₀ s₁ mg mb fa o pm cd doc a vs ns G Y ho hd hcd hmg hobj hints hlen hg => ?_
 obtain ⟨K, fd, sp, kin, hb, hsp, hF⟩ := F w mg fa _ Y G.T.g hmg
 exact law_run kin G.T.g G.T.b G.T.builtins G.T.nolimit hg hobj hints (Nat.le_trans hlen hn2) ⟨hr, rfl⟩ hF hb fun H _ hS => hsp H a ns hlen hS
end SL
set_option Elab.async false
set_option linter.all false
set_option maxRecDepth 100000
set_option maxHeartbeats 2000000
namespace SL
open PySem PySem.Spec PyProof.Rows L2
def isSc : V → Bool
 | .int _ | .str _ | .bl _ | .non => true
 | _ => false
def scD : V → PyData
 | .int i => .int i
 | .str x => .str x
 | .bl b => .bool b
 | _ => .none
def keyD : Key → PyData
 | .inl i => .int i
 | .inr x => .str x
def kvD (kvs : List (Key × V)) : PyData := .dict (kvs.map fun kv => (keyD kv.1, scD kv.2))
theorem sc_reads {h : Heap} {x : V} {u : Value} (s : isSc x = true) (r : RelV x u) : Reads h u (scD x) [] := by
 cases x with
 | int i => obtain ⟨t, rfl⟩ := r; exact .int i t
 | str i => obtain ⟨t, rfl⟩ := r; exact .str i t
 | bl b => cases r; exact .bool b
 | non => cases r; exact .none
 | _ => cases s
theorem key_reads {h : Heap} {k : Key} {u : Value} (r : keyIs k u = true) : Reads h u (keyD k) [] := by
 rcases keyIs_shape r with ⟨i, t, rfl, rfl⟩ | ⟨x, t, rfl, rfl⟩
 ·exact .int i t
 ·exact .str x t
theorem pairs_reads {P : Program} {w : World} {h : Heap} : ∀ {es : List DictEntry} {kvs : List (Key × V)} {vs : List (Key × Value)}, Pairs (mixKind P w) es vs → KV kvs vs → (∀ kv ∈ kvs, isSc kv.2 = true) →
  ReadsAll h (es.map (·.key)) ((kvs.map fun kv => (keyD kv.1, scD kv.2)).map (·.1)) [] ∧ ReadsAll h (es.map (·.val)) ((kvs.map fun kv => (keyD kv.1, scD kv.2)).map (·.2)) []
 | _, _, _, .nil, .nil, _ => ⟨.nil, .nil⟩
 | en :: _, (k, v) :: r, kv2 :: _, .cons h1 h2 h3, .cons g1 g2, hs => by
  obtain ⟨i1, i2⟩ := pairs_reads (h := h) h3 g2 fun kv z => hs kv (List.mem_cons_of_mem _ z)
  obtain ⟨e1, e2⟩ := g1
  have e3 : keyIs k en.key = true := by
   have e4 : k = kv2.1 := e1
   rw [e4]; exact h1
  have r1 : RelV v kv2.2 := e2
  rw [← h2] at r1
  exact ⟨.cons (key_reads e3) i1, .cons (sc_reads (hs _ List.mem_cons_self) r1) i2⟩
def rReprD (K : PySem.W.Frag) : List V → Hp → VK → Prop := fun xs H Q => ∃ (p : Addr) (d : PyData), xs = [.ref p] ∧ (Dp K H (.ref p) d ∨ ∃ kvs, H p = some (.dK kvs) ∧ (∀ kv ∈ kvs, isSc kv.2 = true) ∧ d = kvD kvs) ∧
 d.showable = true ∧ d.depth ≤ 50 ∧ d.shown.length ≤ sizeLine ∧ Q (.str d.shown) H
mutual
theorem dp_nodict {K : PySem.W.Frag} {H : Hp} : ∀ {v : V} {d : PyData}, Dp K H v d → d.hasDict = false
 | _, _, .non => by simp only [PyData.hasDict]
 | _, _, .bl _ => by simp only [PyData.hasDict]
 | _, _, .int _ => by simp only [PyData.hasDict]
 | _, _, .str _ => by simp only [PyData.hasDict]
 | _, _, .lst _ h => by simp only [PyData.hasDict]; exact dpa_nodict h
 | _, _, .tup _ h => by simp only [PyData.hasDict]; exact dpa_nodict h
theorem dpa_nodict {K : PySem.W.Frag} {H : Hp} : ∀ {vs : List V} {ds : List PyData}, DpAll K H vs ds → PyData.hasDictAll ds = false
 | _, _, .nil => by simp only [PyData.hasDictAll]
 | _, _, .cons h hs => by simp only [PyData.hasDictAll, dp_nodict h, dpa_nodict hs, Bool.or_self]
end
section
variable {X : Cx} {k : Nat}
theorem call_reprD (hr : RoomG k X.A) : CallR X (.builtin "repr") (rReprD X.K) := by
 intro pins s σ H xs us Q I r h
 obtain ⟨p, d, rfl, hd, hs, hdep, hsz, q⟩ := h
 obtain ⟨u, rfl, r1⟩ := vals1 r
 have hu : X.A.units + (d.depth + 1) < cLine := by have := hr.units; omega
 rcases hd with hd | ⟨kvs, hp, hsc, rfl⟩
 ·cases r1
  obtain ⟨as, hR⟩ := Dp.reads I d _ _ hd (show RelV (.ref p) (.ref p) from rfl)
  exact repr_of_reads' hR hs (fun z => by rw [dp_nodict hd] at z; cases z) hr.gd hu (fun _ _ z => z) (fun h' u tk hk => ⟨.str _, H, I.kept (t' := tk) hk, ⟨u, rfl⟩, q⟩) hsz
 ·cases r1
  obtain ⟨_, y, vs, rk, o, es, ep, e, ex, hdat, _, pr, _⟩ := I.hok p _ hp
  obtain ⟨i1, i2⟩ := pairs_reads (h := s.heap) pr rk hsc
  have hR : Reads s.heap (.ref p) (kvD kvs) (p :: [] ++ []) := .dict e ex.1 hdat i1 i2
  refine repr_of_reads' hR hs (fun _ z => ?_) hr.gd hu (fun _ _ z => z) (fun h' u tk hk => ⟨.str _, H, I.kept (t' := tk) hk, ⟨u, rfl⟩, q⟩) hsz
  have z1 : sysModules = p := by simpa using z
  rw [← z1] at y
  simp at y
def uReprG (K : PySem.W.Frag) : List V → Hp → VK → Prop := fun xs H Q => uRepr xs H Q ∨ rReprD K xs H Q
theorem callu_reprG (hr : RoomG k X.A) : CallR X (.builtin "repr") (uReprG X.K) := callu_repr.or (call_reprD hr)
end
section
variable {K : PySem.W.Frag} {H : Hp} {Q : VK} {x : V}
theorem g_reprS (h : shortV x) (q : Q (.str (shownV x)) H) : uReprG K [x] H Q := .inl ⟨x, rfl, h, q⟩
theorem g_dget {td ty : TE} {σ : L2.St} (q : td σ H fun x H1 => ty σ H1 fun y H2 => ∃ a v, x = .ref a ∧ DGet H2 a y (some v) ∧ Q v H2) : tDGet td ty σ H Q := q
theorem g_dgetS {A : V → Prop} {p : Addr} {kvs : List (Key × V)} {z : Str} {v : V} (h : H p = some (.dK kvs)) (e : valV kvs (Sum.inr z) = some v) (q : A v) : ∃ a w, V.ref p = .ref a ∧ DGet H a (.str z) (some w) ∧ A w := by
 have g := DGet.k (k := (Sum.inr z : Key)) h
 rw [e] at g
 exact ⟨p, v, rfl, g, q⟩
end
end SL
namespace SL
open PySem PySem.Spec PyProof.Rows L2
section
variable {X : Cx} {K : PySem.W.Frag}
theorem kOp {r : PySem.W.Frag → R2} {f : Value → Value → Sem Value} (e : X.K = K) (h : OpR X f (r X.K)) : OpR X f (r K) := e ▸ h
theorem kIx {r : PySem.W.Frag → R2} (e : X.K = K) (h : IxR X (r X.K)) : IxR X (r K) := e ▸ h
theorem kSl {r : PySem.W.Frag → V → Option Int → Option Int → Hp → VK → Prop} (e : X.K = K) (h : SlR X (r X.K)) : SlR X (r K) := e ▸ h
theorem kCall {r : PySem.W.Frag → List V → Hp → VK → Prop} {f : Value} (e : X.K = K) (h : CallR X f (r X.K)) : CallR X f (r K) := e ▸ h
theorem kMt {r : PySem.W.Frag → V → List V → Hp → VK → Prop} {id : String} (e : X.K = K) (h : MtR X id (r X.K)) : MtR X id (r K) := e ▸ h
variable {a b : Expr} {rest es : List Expr} {ta tb te : TE} {tgs : TGs} {pos : Pos} {tg : Expr} {n k : Nat}
theorem pe_andTK (e : X.K = K) (ha : PE X a ta) (hb : PE X (.BoolOp .And (b :: rest) pos) tb) : PE X (.BoolOp .And (a :: b :: rest) pos) (tAndT K ta tb) := by subst e; exact pe_andT ha hb
theorem pe_orTK (e : X.K = K) (ha : PE X a ta) (hb : PE X (.BoolOp .Or (b :: rest) pos) tb) : PE X (.BoolOp .Or (a :: b :: rest) pos) (tOrT K ta tb) := by subst e; exact pe_orT ha hb
theorem pe_notTK (e : X.K = K) (ha : PE X a ta) : PE X (.UnaryOp .Not a pos) (tNotT K ta) := by subst e; exact pe_notT ha
theorem pi_listK (e : X.K = K) (h : PE X a ta) : PI X tg a (iList K ta) := by subst e; exact pi_list h
theorem pg_tupK (e : X.K = K) (hc : X.calm = true) (h : PGs X es tgs) (hn : (assignEach es X.env).length = n := by rfl) (hst : (assignEach es X.env).findIdx? (·.1) = none := by rfl) : PG X (.Tuple es k pos) (gTup K n tgs) := by subst e; exact pg_tup hc h hn hst
end
end SL
namespace SL
open PySem PySem.Spec PyProof.Rows L2
def uTuple (K : PySem.W.Frag) : List V → Hp → VK → Prop := fun xs H Q => ∃ p ys, xs = [.ref p] ∧ ((SqL K H p ys ∧ ∀ l, H l = none → Q (.ref l) (upd H l (.tup ys))) ∨ (SqT K H p ys ∧ Q (.ref p) H))
theorem callu_tuple {X : Cx} : CallR X (.type "tuple") (uTuple X.K) := call_tuple_of
section
variable {K : PySem.W.Frag} {H : Hp} {Q : VK}
theorem g_tupleL {p : Addr} {ys : List V} (h : SqL K H p ys) (q : ∀ l, H l = none → Q (.ref l) (upd H l (.tup ys))) : uTuple K [.ref p] H Q := ⟨p, ys, rfl, .inl ⟨h, q⟩⟩
end
end SL
namespace SL
open PySem PySem.Spec PyProof.Rows L2
section
variable {X : Cx} {K : PySem.W.Frag} {ex : Expr} {T : String} {rb : V → List V → Hp → VK → Prop} {to : TE} {tl : TA} {σ : L2.St} {H : Hp} {Q : VK}
theorem kBM (e : X.K = K) (h : PE X ex (tBM X.K T rb to tl)) : PE X ex (tBM K T rb to tl) := e ▸ h
theorem g_bm (q : to σ H fun x H1 => tyV K T x H1 ∧ tl σ H1 fun xs H2 => rb x xs H2 Q) : tBM K T rb to tl σ H Q := q
theorem g_bm0 (q : to σ H fun x H1 => tyV K T x H1 ∧ rb x [] H1 Q) : tBM0 K T rb to σ H Q := q
theorem g_tyS {A : Prop} {z : Str} (q : A) : tyV K "str" (.str z) H ∧ A := ⟨rfl, q⟩
theorem g_tyL {A : Prop} {p : Addr} {xs : List V} (h : SqL K H p xs) (q : A) : tyV K "list" (.ref p) H ∧ A := ⟨.inl ⟨rfl, xs, h⟩, q⟩
end
end SL
namespace SL
open PySem PySem.Spec PyProof.Rows L2
section
variable {K : PySem.W.Frag} {σ : L2.St} {H : Hp} {Q : VK} {tk tv : TE} {trs : List (TE × TE)} {A : List (V × V) → Hp → Prop}
theorem g_disp (q : ∀ p, H p = none → tPairs trs σ (upd H p (.dK [])) fun ps H2 => H2 p = some (.dK []) ∧ ∃ kvs : List (Key × V), ps = kvs.map (fun kv => (kV kv.1, kv.2)) ∧ kvs.length ≤ 15 ∧ Q (.ref p) (upd H2 p (.dK (mergeK [] kvs)))) : tDisp trs σ H Q := q
theorem g_pairs (q : tk σ H fun x H1 => tv σ H1 fun y H2 => tPairs trs σ H2 fun ps H3 => A ((x, y) :: ps) H3) : tPairs ((tk, tv) :: trs) σ H A := q
theorem g_pairs0 (q : A [] H) : tPairs [] σ H A := q
end
end SL
set_option Elab.async false
set_option linter.all false
set_option maxRecDepth 100000
set_option maxHeartbeats 2000000
namespace SL
open PySem PySem.Spec PyProof.Rows L2
section
variable {P : Program} {w : World} {K : PySem.W.Frag} {mg : Str → Option Value} {base : Heap} {f : Addr} {fd : FuncData} {ps : List Str} {x : Str} {sp : Nat → Sp}
theorem calG_rec0 (z : ∀ vs H Q E, ¬ sp 0 vs H Q E) (m : mg x = some (.ref f)) (kp : PySem.W.keepIn K (.ref f) = true) (bb : Binds K fd ps [])
  (st : ∀ n, CalG P w K mg base n x (sp n) → FnG P w K mg base CX0 (n + 1) f fd ps (sp (n + 1))) : ∀ n, CalG P w K mg base n x (sp n)
 | 0 => calG_of ⟨fun vs H Q E h => absurd h (z _ _ _ _), fun _ _ _ _ _ _ _ _ _ _ _ _ _ h => absurd h (z _ _ _ _)⟩ m kp bb
 | n + 1 => calG_of (st n (calG_rec0 z m kp bb st n)) m kp bb
end
end SL
set_option Elab.async false
set_option linter.all false
set_option maxRecDepth 100000
set_option maxHeartbeats 2000000
namespace SL
open PySem PySem.Spec PyProof.Rows L2
section
variable {X : Cx} {K : PySem.W.Frag} {σ : L2.St} {H : Hp} {Q : VK} {x y : V}
def tFs (ts : List TE) : TE := fun σ H Q => tJs ts Str.empty σ H fun out H1 => Q (.str out) H1
theorem g_fs {ts : List TE} (q : tJs ts Str.empty σ H fun out H1 => Q (.str out) H1) : tFs ts σ H Q := q
theorem g_js0 {acc : Str} {A : Str → Hp → Prop} (q : A acc H) : tJs [] acc σ H A := q
theorem g_js {t : TE} {ts : List TE} {acc : Str} {A : Str → Hp → Prop} (q : t σ H fun x H1 => ∃ y : Str, x = .str y ∧ (acc ++ y).length ≤ sizeLine ∧ tJs ts (acc ++ y) σ H1 A) : tJs (t :: ts) acc σ H A := q
theorem g_fmt {te : TE} (q : te σ H fun x H1 => (∃ y : Str, x = .str y ∧ y.length ≤ sizeLine ∧ Q (.str y) H1) ∨ ∃ i : Int, x = .int i ∧ i.natAbs.log2 < 1920 ∧ Q (.str (toString i)) H1) : tFmt te σ H Q := q
theorem g_fmtS {z : Str} {A : Str → Prop} {B : Prop} (h : z.length ≤ sizeLine) (q : A z) : (∃ y : Str, V.str z = .str y ∧ y.length ≤ sizeLine ∧ A y) ∨ B := .inl ⟨z, rfl, h, q⟩
theorem g_jsS {z acc : Str} {A : Str → Prop} (h : (acc ++ z).length ≤ sizeLine) (q : A z) : ∃ y : Str, V.str z = .str y ∧ (acc ++ y).length ≤ sizeLine ∧ A y := ⟨z, rfl, h, q⟩
theorem app_len {a b : Str} : (a ++ b).length = a.length + b.length := Array.size_append
theorem lit_q : ("'" : Str).length = 1 := by decide +kernel
theorem lit_lp : ("(" : Str).length = 1 := by decide +kernel
theorem lit_rp : (")" : Str).length = 1 := by decide +kernel
theorem lit_sp : (" " : Str).length = 1 := by decide +kernel
theorem lit_cs : (", " : Str).length = 2 := by decide +kernel
theorem lit_not : ("not " : Str).length = 4 := by decide +kernel
theorem lit_is : (" is " : Str).length = 4 := by decide +kernel
theorem lit_if : (" if " : Str).length = 4 := by decide +kernel
theorem lit_e : Str.empty.length = 0 := by decide +kernel
theorem lit_dot : ("." : Str).length = 1 := by decide +kernel
def rJoin (K : PySem.W.Frag) : V → List V → Hp → VK → Prop := fun x xs H Q => ∃ a p, ∃ ys : List Str, x = .str a ∧ xs = [.ref p] ∧ (SqL K H p (ys.map V.str) ∨ SqT K H p (ys.map V.str)) ∧
 (ys.map (·.length)).sum + ys.length * a.length ≤ 16777216 ∧ Q (.str (Txt.join a ys)) H
theorem mt_joinU : MtR X "str.join" (rJoin X.K) := mt_join
def uInt : List V → Hp → VK → Prop := fun xs H Q => (∃ i, xs = [.int i] ∧ Q (.int i) H) ∨ ∃ k, xs = [.bl k] ∧ Q (.int (if k then 1 else 0)) H
theorem callu_int : CallR X (.type "int") uInt := call_int1
theorem g_intB {k : Bool} (q : Q (.int (if k then 1 else 0)) H) : uInt [.bl k] H Q := .inr ⟨k, rfl, q⟩
def uIs : R2 := fun x y H Q => y = .non ∧ Q (.bl (decide (x = .non))) H
def uIsNot : R2 := fun x y H Q => y = .non ∧ Q (.bl (!decide (x = .non))) H
theorem opu_is : OpR X (compareOp .Is) uIs := op_isN
theorem opu_isNot : OpR X (compareOp .IsNot) uIsNot := op_notN
theorem g_is (q : Q (.bl (decide (x = .non))) H) : uIs x .non H Q := ⟨rfl, q⟩
theorem g_isNot (q : Q (.bl (!decide (x = .non))) H) : uIsNot x .non H Q := ⟨rfl, q⟩
theorem g_slS {z : Str} {lo hi : Option Int} (h : z.length ≤ sizeLine) (q : Q (.str (cutS z lo hi)) H) : rSlS (.str z) lo hi H Q := ⟨z, rfl, h, q⟩
theorem g_inS {a b : Str} (q : Q (.bl (!(Builtin.Str.occurrences b a 0 b.length 1).isEmpty)) H) : uIn K (.str a) (.str b) H Q := q
theorem g_notInS {a b : Str} (q : Q (.bl (!(!(Builtin.Str.occurrences b a 0 b.length 1).isEmpty))) H) : uNotIn K (.str a) (.str b) H Q := q
theorem g_inT {z : Str} {p : Addr} {xs : List V} (h : SqL K H p xs ∨ SqT K H p xs) (h2 : xs.all flatV = true) (q : Q (.bl (inV (.str z) xs)) H) : uIn K (.str z) (.ref p) H Q := ⟨p, xs, rfl, h, rfl, h2, q⟩
theorem g_notInT {z : Str} {p : Addr} {xs : List V} (h : SqL K H p xs ∨ SqT K H p xs) (h2 : xs.all flatV = true) (q : Q (.bl (!inV (.str z) xs)) H) : uNotIn K (.str z) (.ref p) H Q := ⟨p, xs, rfl, h, rfl, h2, q⟩
theorem inV_str (z : Str) (ws : List Str) : inV (.str z) (ws.map V.str) = decide (z ∈ ws) := by
 induction ws with
 | nil => rfl
 | cons w r ih =>
  unfold inV at ih ⊢
  rw [List.map_cons, List.any_cons, ih]
  by_cases h : z = w
  ·subst h
   simp [eqV]
  ·have : decide (V.str z = V.str w) = false := decide_eq_false fun e => h (V.str.inj e)
   simp [eqV, h, Ne.symm h]
theorem flat_strs (ws : List Str) : (ws.map V.str).all flatV = true := by
 induction ws with
 | nil => rfl
 | cons w r ih => rw [List.map_cons, List.all_cons, ih]; rfl
end
section
variable {X : Cx} {o e f : Expr} {apos cpos : Pos} {td ty tx : TE}
end
section
variable {K : PySem.W.Frag} {w : World} {H : Hp} {Q : VK} {σ : L2.St}
end
end SL
set_option Elab.async false
set_option linter.all false
set_option maxRecDepth 100000
set_option maxHeartbeats 2000000
namespace SL
open PySem PySem.Spec PyProof.Rows L2
theorem lc_map {J : It} {n : Nat} {G : Hp → Prop} {xs ys : List V} (w : Walk J n G (YAt xs)) {g : TG} {te : TE} {vs : List Nat} {σ : L2.St} {H1 : Hp} {D : Addr} {Qd : Hp → Prop} (hG : ∀ H', Fr [] H1 H' → G H') (hn : xs.length = n) (hy : ys.length = n) (hz : n ≤ 10000) (hD : H1 D = none)
  (body : ∀ (i : Nat) (x y : V) (H' : Hp) (A : V → Hp → Prop), xs[i]? = some x → ys[i]? = some y → Fr [] H1 H' → (∀ H4, Fr [] H' H4 → A y H4) → g x (wipe σ vs) H' fun σ2 H2 => wipe σ2 vs = wipe σ vs ∧ te σ2 H2 A)
  (fin : ∀ H', Fr [] H1 H' → H' D = some (.lst ys) → Qd H') :
  ∃ W : Nat → Nat → Hp → Prop, (∃ m, W 0 m (upd H1 D (.lst []))) ∧ ∀ i m H, W i m H →
   (J.stop i H ∧ Qd H) ∨ (J.go i H ∧ ∃ Nx : Hp → Prop, (∀ H', Nx H' → ∃ m', m' < m ∧ W (i + 1) m' H') ∧ ∀ x H', J.yld i H x H' → g x (wipe σ vs) H' fun σ2 H2 => wipe σ2 vs = wipe σ vs ∧ tYes σ2 H2 fun b H3 =>
    if b = true then te σ2 H3 fun y H4 => ∃ acc, H4 D = some (.lst acc) ∧ acc.length < sizeLine ∧ Nx (upd H4 D (.lst (acc ++ [y]))) else Nx H3) := by
 subst hn
 refine lc_it w (fun i H' => Fr [] H1 H' ∧ H' D = some (.lst (ys.take i))) ⟨Fr.new hD, by rw [List.take_zero]; exact upd_same⟩ (fun i H' _ h => hG H' h.1) (fun i x H' H'' hi h y => ?_) (fun H' h => ?_)
 ·obtain ⟨rfl, hx⟩ := y
  obtain ⟨h1, h2⟩ := h
  have hi2 : i < ys.length := by omega
  exact body i x ys[i] H'' _ hx (List.getElem?_eq_getElem hi2) h1 fun H4 e4 => ⟨_, e4.at h2 (fun z => nomatch z), lt_of (by rw [List.length_take]; omega), (h1.trans e4).over hD, by rw [upd_same, List.take_succ, List.getElem?_eq_getElem hi2]; rfl⟩
 ·exact fin H' h.1 (by rw [h.2, ← hy, List.take_length])
theorem tda_get {α : Type} {K : PySem.W.Frag} {H : Hp} {f : α → PyData} : ∀ {xs : List α} {vs : List V}, TdAll K H vs (xs.map f) → vs.length = xs.length ∧ ∀ (i : Nat) (v : V), vs[i]? = some v → ∃ x, xs[i]? = some x ∧ Td K H v (f x)
 | [], vs, h => by cases h.nil_inv; exact ⟨rfl, fun i x e => by simp at e⟩
 | y :: r, vs, h => by
  obtain ⟨v, ws, rfl, h1, h2⟩ := TdAll.cons_inv (show TdAll K H vs (f y :: r.map f) from h)
  obtain ⟨k1, k2⟩ := tda_get h2
  refine ⟨by simp [k1], fun i x e => ?_⟩
  cases i with
  | zero =>
   simp only [List.getElem?_cons_zero, Option.some.injEq] at e
   subst e
   exact ⟨y, rfl, h1⟩
  | succ j =>
   simp only [List.getElem?_cons_succ] at e
   exact k2 j x e
theorem sum_len {ts : List Str} {n : Nat} (h : ∀ t ∈ ts, t.length ≤ n) : (ts.map (·.length)).sum ≤ ts.length * n := by
 induction ts with
 | nil => simp
 | cons t r ih =>
  have h1 := h t List.mem_cons_self
  have h2 := ih fun x hx => h x (List.mem_cons_of_mem _ hx)
  simp only [List.map_cons, List.sum_cons, List.length_cons, Nat.succ_mul]
  omega
section
variable {P : Program} {w : World} {K : PySem.W.Frag} {mg : Str → Option Value} {base : Heap} {f : Addr} {fd : FuncData} {ps : List Str} {x : Str} {sp : Nat → Sp}
end
section
variable {K : PySem.W.Frag} {σ : L2.St} {H : Hp} {D : Ends} {Q : VK}
theorem g_dput {td ty tv : TE} (q : tv σ H fun v H1 => td σ H1 fun x H2 => ty σ H2 fun y H3 => ∃ a H4, x = .ref a ∧ DPut H3 a y v H4 ∧ D.nx σ H4) : sDPut td ty tv D σ H := q
end
section
variable {D : Ends} {σ : L2.St} {H : Hp}
theorem g_cutS {ts tu : TS} (Pv : L2.St → Hp → Prop) (h1 : ∀ σ' H', Pv σ' H' → tu D σ' H') (h2 : ∀ N : L2.St → Hp → Prop, (∀ σ' H', Pv σ' H' → N σ' H') → ts { D with nx := N } σ H) : tSeq ts tu D σ H := h2 (tu D) h1
theorem g_seqIf (t : TT) (a b u : TS) (D : Ends) (σ : L2.St) (H : Hp) : tSeq (tIfS t a b) u D σ H → tSeq (tIfS t a b) u D σ H := id
end
theorem g_slA {K : PySem.W.Frag} {H : Hp} {Q : VK} {p : Addr} {xs : List V} {lo hi : Option Int} (h : SqT K H p xs) (q : ∀ (r : Addr) (H' : Hp), Fr [] H H' → SqT K H' r (cutV xs lo hi) → Q (.ref r) H') : rSlA K (.ref p) lo hi H Q := by
 refine ⟨p, xs, rfl, h, fun w => q p H Fr.refl ?_, fun _ r hr => q r _ (Fr.new hr) (SqT.of upd_same)⟩
 have e : cutV xs lo hi = xs := by
  unfold cutV
  rw [w.1, w.2, List.drop_zero, Nat.sub_zero, List.take_length]
 rw [e]
 exact h
end SL
set_option Elab.async false
set_option linter.all false
set_option maxRecDepth 100000
set_option maxHeartbeats 2000000
namespace SL
open PySem PySem.Spec PyProof.Rows L2
section
variable {σ : L2.St} {H : Hp} {Q : VK} {D : Ends}
theorem g_listRg {te : TE} (q : tRg1 te σ H fun a b H1 => RgOk a b ∧ ∀ q, H1 q = none → Q (.ref q) (upd H1 q (.lst (rgV a b)))) : tLstRg (tRg1 te) σ H Q := q
theorem g_rg1 {ta : TE} {A : Int → Int → Hp → Prop} (q : ta σ H fun x H1 => ∃ n, x = .int n ∧ A 0 n H1) : tRg1 ta σ H A := q
theorem g_app {p : Addr} {xs : List V} {v : V} (h : H p = some (.lst xs)) (hz : xs.length ≤ 10000) (q : Q .non (upd H p (.lst (xs ++ [v])))) : rAppend (.ref p) [v] H Q := ⟨p, xs, v, rfl, rfl, h, lt_of (by omega), q⟩
end
abbrev Turns (J : It) (b : (Hp → Prop) → V → Hp → Prop) (H0 : Hp) (Dn : Hp → Prop) : Prop :=
 ∃ W : Nat → Nat → Hp → Prop, (∃ m, W 0 m H0) ∧ ∀ i m H, W i m H → (J.stop i H ∧ Dn H) ∨ (J.go i H ∧ ∃ Nx : Hp → Prop, (∀ H', Nx H' → ∃ m', m' < m ∧ W (i + 1) m' H') ∧ ∀ x H', J.yld i H x H' → b Nx x H')
abbrev inB (g1 : TG) (tt1 : TT) (te : TE) (vs1 : List Nat) (σ : L2.St) (D : Addr) (Nx : Hp → Prop) (x : V) (H' : Hp) : Prop :=
 g1 x (wipe σ vs1) H' fun σ3 H5 => wipe σ3 vs1 = wipe σ vs1 ∧ tt1 σ3 H5 fun b H6 => if b = true then te σ3 H6 fun y H7 => ∃ acc, H7 D = some (.lst acc) ∧ acc.length < sizeLine ∧ Nx (upd H7 D (.lst (acc ++ [y]))) else Nx H6
abbrev outB (g : TG) (tt : TT) (wi1 : TI) (g1 : TG) (tt1 : TT) (te : TE) (vs vs1 : List Nat) (σ : L2.St) (D : Addr) (Nx : Hp → Prop) (x : V) (H' : Hp) : Prop :=
 g x (wipe σ vs) H' fun σ2 H2 => wipe σ2 vs = wipe σ vs ∧ tt σ2 H2 fun b H3 => if b = true then wi1 σ2 H3 fun J1 H4 => Turns J1 (inB g1 tt1 te vs1 σ2 D) H4 Nx else Nx H3
abbrev dictB (g : TG) (tt : TT) (tk tv : TE) (vs : List Nat) (σ : L2.St) (D : Addr) (Nx : Hp → Prop) (x : V) (H' : Hp) : Prop :=
 g x (wipe σ vs) H' fun σ2 H2 => wipe σ2 vs = wipe σ vs ∧ tt σ2 H2 fun b H3 => if b = true then tk σ2 H3 fun y H4 => tv σ2 H4 fun z H5 => ∃ kvs k, y = kV k ∧ H5 D = some (.dK kvs) ∧ kvs.length < sizeLine ∧ Nx (upd H5 D (.dK (putK kvs k z))) else Nx H3
section
variable {J : It} {n : Nat} {G : Hp → Prop} {Y : Nat → Hp → V → Hp → Prop}
end
section
variable {σ : L2.St} {H : Hp} {Q : VK} {wi wi1 : TI} {g g1 : TG} {tt tt1 : TT} {te tk tv : TE} {vs vs1 : List Nat}
theorem g_lc2 (q : wi σ H fun J H1 => ∀ D, H1 D = none → Turns J (outB g tt wi1 g1 tt1 te vs vs1 σ D) (upd H1 D (.lst [])) fun H => Q (.ref D) H) : tLc2 wi g tt wi1 g1 tt1 te vs vs1 σ H Q := q
theorem g_dc (q : wi σ H fun J H1 => ∀ D, H1 D = none → Turns J (dictB g tt tk tv vs σ D) (upd H1 D (.dK [])) fun H => Q (.ref D) H) : tDc wi g tt tk tv vs σ H Q := q
theorem g_din {ty td : TE} (q : ty σ H fun y H1 => td σ H1 fun x H2 => ∃ a o, x = .ref a ∧ DGet H2 a y o ∧ Q (.bl o.isSome) H2) : tDIn ty td σ H Q := q
end
end SL
set_option Elab.async false
set_option linter.all false
set_option maxRecDepth 100000
set_option maxHeartbeats 2000000
namespace SL
open PySem PySem.Spec PyProof.Rows L2
structure EcC (K : PySem.W.Frag) (C : Addr) : Prop where
 oe : OexC K C
 xf : XfC K C
 xc : ExcC K C
def oexB (K : PySem.W.Frag) (C : Addr) : Bool := match K.lookup C with
 | some ⟨.type "type", _, .cls cd, sl⟩ => (match cd.mro, sl.toList with
  | .ref C' :: bm, [_, _, _, _, some (.builtin n), _] => decide (C' = C) && (decide (n = "ValueError.__new__") && (!cd.hasDel && (cd.hasDict && PySem.HandSPX.refsVE bm)))
  | _, _ => false)
 | _ => false
def ecB (K : PySem.W.Frag) (C : Addr) : Bool := oexB K C && (decide (PySem.W.findIn K (.ref C) "__setattr__" = some (some (.builtin "object.__setattr__"))) && (decide (PySem.W.subIn K (.ref C) (.type "BaseException") = some true) &&
 (decide (PySem.W.typeIn K (.ref C) = some (.type "type")) && (PySem.W.keepIn K (.ref C) && (decide (PySem.W.findIn K (.ref C) "__getattribute__" = some (some (.builtin "BaseException.__getattribute__"))) &&
 (decide (PySem.W.findIn K (.ref C) "__getattr__" = some none) && (PySem.W.hasDictIn K C && (decide (PySem.W.findIn K (.ref C) "__class__" = some (some (.builtin "object.__class__"))) &&
 (decide (PySem.W.specialIn K (.builtin "object.__class__") "__get__" = some (some (.builtin "getset_descriptor.__get__"))) && (decide (PySem.W.takesIn K (.builtin "object.__class__") = some true) && decide (PySem.W.mroIn K C (.type "object") = some true)))))))))))
theorem oexB_ok {K : PySem.W.Frag} {C : Addr} (h : oexB K C = true) : ∃ nm q N bs bm sn sub ab col dd k0 k1 k2 k3 k5, K.lookup C = some (excClassObj nm q C N bs bm true sn sub ab col dd k0 k1 k2 k3 k5 "ValueError.__new__") ∧ PySem.HandSPX.refsVE bm = true := by
 unfold oexB at h
 split at h
 ·rename_i dd cd sl ho
  split at h
  ·rename_i C' bm k0 k1 k2 k3 n k5 hm hs
   simp only [Bool.and_eq_true, decide_eq_true_eq, Bool.not_eq_true'] at h
   obtain ⟨rfl, rfl, hdel, hd, hr⟩ := h
   obtain ⟨nm, bs, mro, ns, qn, hdt, sn, sub, ab, col, del⟩ := cd
   dsimp only at hm hdel hd
   subst hm hdel hd
   have hsl : sl = #[k0, k1, k2, k3, some (.builtin "ValueError.__new__"), k5] := by
    obtain ⟨l⟩ := sl
    simp only at hs
    rw [hs]
   subst hsl
   exact ⟨nm, qn, ns, bs, bm, sn, sub, ab, col, dd, k0, k1, k2, k3, k5, ho, hr⟩
  ·cases h
 ·cases h
theorem ecB_ok {K : PySem.W.Frag} {C : Addr} (h : ecB K C = true) : EcC K C := by
 unfold ecB at h
 simp only [Bool.and_eq_true, decide_eq_true_eq] at h
 obtain ⟨h1, h2, h3, h4, h5, h6, h7, h8, h9, h10, h11, h12⟩ := h
 exact ⟨⟨oexB_ok h1, h2, h3, h4, h5⟩, ⟨h6, h7, h3, h8⟩, ⟨h6, h7, h3, h8, h9, h10, h11, h12⟩⟩
structure EcI (K : PySem.W.Frag) (C fI : Addr) : Prop where
 ini : PySem.W.findIn K (.ref C) "__init__" = some (some (.ref fI))
 ty : PySem.W.typeIn K (.ref fI) = some (.type "function")
 ga : PySem.W.specialIn K (.ref C) "__getattribute__" = some (some (.builtin "type.__getattribute__"))
 rd : PySem.W.readsIn K C (.type "type") = true
 fd : PySem.W.findCls K (.ref C) (.type "type") "__init__" = some (.val (.ref fI))
 kp : PySem.W.keepIn K (.ref fI) = true
def eciB (K : PySem.W.Frag) (C fI : Addr) : Bool := decide (PySem.W.findIn K (.ref C) "__init__" = some (some (.ref fI))) && (decide (PySem.W.typeIn K (.ref fI) = some (.type "function")) &&
 (decide (PySem.W.specialIn K (.ref C) "__getattribute__" = some (some (.builtin "type.__getattribute__"))) && (PySem.W.readsIn K C (.type "type") && ((match PySem.W.findCls K (.ref C) (.type "type") "__init__" with
  | some (.val (.ref f)) => decide (f = fI)
  | _ => false) && PySem.W.keepIn K (.ref fI)))))
theorem eciB_ok {K : PySem.W.Frag} {C fI : Addr} (h : eciB K C fI = true) : EcI K C fI := by
 unfold eciB at h
 simp only [Bool.and_eq_true, decide_eq_true_eq] at h
 obtain ⟨h1, h2, h3, h4, h5, h6⟩ := h
 refine ⟨h1, h2, h3, h4, ?_, h6⟩
 split at h5
 ·rename_i f e
  rw [e, of_decide_eq_true h5]
 ·cases h5
structure ClG (P : Program) (w : World) (K : PySem.W.Frag) (mg : Str → Option Value) (base : Heap) (k : Nat) (x : Str) (C : Addr) (sp : Sp) : Prop where
 m : mg x = some (.ref C)
 ec : EcC K C
 ex : ∃ (fI : Addr) (fd : FuncData) (ps : List Str), FnG P w K mg base CX0 k fI fd ps sp ∧ EcI K C fI ∧ Binds K fd ps []
section
variable {X : Cx} {k j : Nat} {x : Str} {C : Addr} {sp : Sp} {p p1 p2 pos : Pos} {e : Expr} {es : List Expr} {t ta : TA}
theorem pe_fini {pl : Sem Bool} (c : ClG X.prog X.w X.K X.mg X.base k x C sp) (hr : RoomG j X.A) (hg : Gl X x) (ha : PA X (e :: es) t) (hk : k ≤ j := by first | decide | omega)
  (hdb : (x == ("__debug__" : Str)) = false := by decide)
  (hc : eval (.Call (.Attribute (.Name x p1) "__init__" p2) (e :: es) [] pos) X.env = (do
   let ov ← eval (.Name x p1) X.env
   standAt p2.atName
   let (f, first) ← holding [ov] (getMethod ov "__init__" pl)
   callWith pos f first (backTo pos (starEach (e :: es) X.env)) (backToKw pos (keywordEach [] X.env))) := by rfl)
  (hst : starEach (e :: es) X.env = (false, eval e X.env) :: starEach es X.env := by rfl) (hnp : (backTo pos (starEach es X.env)).any (·.1) = false := by rfl) :
  PE X (.Call (.Attribute (.Name x p1) "__init__" p2) (e :: es) [] pos) (tCall sp [] E0 t) := by
 obtain ⟨fI, fd, ps, F, ci, b⟩ := c.ex
 refine ⟨fun pins s σ H Q I h => ?_⟩
 refine PySem.W.methodCall_KW (ld_glob I hg c.m ?_ hdb) hc
 refine PySem.W.method_cls I.kIn ci.ga (PySem.W.cls_value I.kIn ci.rd ci.fd rfl ?_)
 have I2 := I.tok (s.toks + 1)
 refine PySem.W.callWith_K (h₀ := X.base) I2.ok.mod.kin ci.kp (thn (ha.run pos pins _ σ H _ I2 h) fun us s1 z => ?_) hst hnp
 obtain ⟨vs, H1, I1, r, q⟩ := z
 exact ⟨I1.kIn, run_fng F (hr.mono hk) b .nil pass0 I1 r q⟩
theorem RoomG.make {k : Nat} {A : Around} (hr : RoomG (k + 1) A) (C : Addr) (us : List Value) (kw : List (Str × Value)) : RoomG k (A.under (.builtin "type.__call__" ⟨.ref C :: us, kw⟩)) := ⟨hr.rm.make C us kw, hr.gd⟩
def spMk (C : Addr) (sp : Sp) (vs : List V) (H1 : Hp) (Q : VK) : Prop := vs.length ≤ 1000 ∧ ∀ a, H1 a = none → sp (.ref a :: vs) (upd H1 a (exo a C none)) (fun v H2 => v = .non ∧ Q (.ref a) H2) E0
abbrev laidE (C : Addr) (us : List Value) (s : Shared) : Shared := { s with heap := (s.heap.push (PySem.W.kdv_tup us)).push (PySem.HandSPX.excO C s.heap.objs.size) }
theorem laidE_keeps {us : List Value} {s : Shared} (a : Addr) (o : Obj) (e : s.heap.get? a = some o) : (laidE C us s).heap.get? a = some o := Heap.get?_push_of_some _ (Heap.get?_push_of_some _ e)
theorem laidE_inv {us : List Value} {pins : List (Addr × Obj)} {σ : L2.St} {H : Hp} {s : Shared} (I : Inv X pins σ H s) : Inv X pins σ (upd H (s.heap.objs.size + 1) (exo (s.heap.objs.size + 1) C none)) (laidE C us s) :=
 I.laid (t' := s.toks) laidE_keeps (Nat.le_succ _) (exo_ok (by heap_get))
theorem exn_runs (c : ClG X.prog X.w X.K X.mg X.base k x C sp) (hr : RoomG j X.A) (hk : k + 1 ≤ j) {pins : List (Addr × Obj)} {σ : L2.St} {H : Hp} {s : Shared} {Q E : Value → Shared → Prop} {Qi : VK} {vs : List V} {us : List Value} (I : Inv X pins σ H s) (r : Vals vs us) (few : vs.length ≤ 1000)
  (prom : sp (.ref (s.heap.objs.size + 1) :: vs) (upd H (s.heap.objs.size + 1) (exo (s.heap.objs.size + 1) C none)) Qi E0)
  (on : ∀ u z, CE X.stack X.prog X.w (upd H (s.heap.objs.size + 1) (exo (s.heap.objs.size + 1) C none)) (laidE C us s) Qi u z → u = .none ∧ Q (.ref (s.heap.objs.size + 1)) z) :
  wpAny (model X.prog X.w) X.A (call (.ref C) us) Q E s := by
 obtain ⟨fI, fd, ps, Fn, ci, binds⟩ := c.ex
 have J := laidE_inv (C := C) (us := us) I
 have all : Vals (V.ref (s.heap.objs.size + 1) :: vs) (Value.ref (s.heap.objs.size + 1) :: us) := .cons rfl r
 have count : (Value.ref (s.heap.objs.size + 1) :: us ++ []).length = ps.length := (congrArg List.length (List.append_nil _)).trans (all.length.symm.trans (Fn.len _ _ _ _ prom))
 have small : us.length ≤ sizeLine := by rw [← r.length, sizeLine_eq]; omega
 have bound := List.append_nil (Value.ref (s.heap.objs.size + 1) :: us) ▸ binds (laidE C us s) (Value.ref (s.heap.objs.size + 1) :: us) J.kIn count
 have body := Fn.go _ X.stack (laidE C us s) _ ⟨Value.ref (s.heap.objs.size + 1) :: us, []⟩ _ _ Qi E0 ((hr.mono hk).make C us []) (J.env0.make C us []) bound all prom
 obtain ⟨_, _, _, _, bm, _, _, _, _, _, _, _, _, _, _, at_C, same⟩ := c.ec.oe.cls
 refine wpAny_call (PySem.HandSPX.call_own F.excBase_ValueError (fun Y => PySem.HandSPX.refsVE_contains Y bm same) (I.kIn _ _ at_C) (PySem.W.looks_findIn I.kIn ci.ini) (fun self => PySem.W.bind_fn I.kIn self ci.ty) small (codeAny_mono body fun res z hz => ?_))
 match res, hz with
 | .ok (.ret u), hz => exact on u z hz
 | .ok .next, hz => exact absurd hz id
 | .ok .brk, hz => exact absurd hz id
 | .ok .cont, hz => exact absurd hz id
 | .error _, hz => exact absurd hz id
def tMkE (C : Addr) (sp : Sp) (ta : TA) : TE := fun σ H Q => ta σ H fun vs H1 => spMk C sp vs H1 Q
def tXat (K : PySem.W.Frag) (n : Str) (te : TE) : TE := fun σ H Q => te σ H fun x H1 => ∃ (a C d : Addr) (fs : List (Str × V)) (v : V), x = .ref a ∧ EcC K C ∧ PySem.W.findIn K (.ref C) n = some none ∧ H1 a = some (exo a C (some d)) ∧ H1 d = some (exd d fs) ∧ fs.lookup n = some v ∧ Q v H1
end
end SL
namespace PySem.W
open PySem PySem.Spec PySem.Calls PyProof.Rows
section
variable {prog : Program} {w : World} {A : Around} {E : Value → Shared → Prop} {s : Shared} {K : Frag} {x D : Addr} {ox : Obj} {od : Option Obj}
theorem sl_kitx (C : L2.ExcC K D) : KitX K (.ref x) (.ref D) (fun h => InstAt h x ox D od) :=
 kitx_exc ((any_some C.hd).elim fun _ h => by rw [h.1]; rfl) C.hg C.hk C.hs C.ha C.hn C.ht C.hm
end
end PySem.W
namespace SL
open PySem PySem.Spec PyProof.Rows L2
def rIsS (K : PySem.W.Frag) (a : Addr) (cls : Value) (d : Option Addr) : List V → Hp → VK → Prop := fun xs H Q => ∃ (C dd : Addr) (fs : List (Str × V)) (c : V) (cv : Value) (b : Bool), xs = [.ref a, c] ∧ cls = .ref C ∧ d = some dd ∧ H dd = some (.xd fs) ∧ EcC K C ∧ (∀ u, RelV c u → u = cv) ∧ PySem.W.kitOne K (.ref C) cv = some b ∧ Q (.bl b) H
theorem call_isS {X : Cx} {a : Addr} {oe : Obj} {cls : Value} {d : Option Addr} {pn : List (Addr × Obj)} (hz : Zc cls d oe) (hf : ∃ vs, oe.data = .fields vs) : CallR (X.suite a ((a, oe) :: pn)) (.builtin "isinstance") (rIsS X.K a cls d) := by
 intro pins s σ H xs us Q I r h
 obtain ⟨C, dd, fs, c, cv, b, rfl, rfl, rfl, hd, T, hcv, e, q⟩ := h
 cases r with
 | cons rx rr =>
  cases rr with
  | cons rt rr =>
   cases rr
   cases rx
   have ec := hcv _ rt
   subst ec
   obtain ⟨hget, _⟩ := I.pin (a, oe) (List.mem_append.mpr (.inl List.mem_cons_self))
   obtain ⟨vs, hv⟩ := hf
   have hx : ObjOk X.prog X.w H s.heap dd (.xd fs) := I.hok dd _ hd
   obtain ⟨mA, hns, hr⟩ := hx
   obtain ⟨od, ho, hl⟩ := lookIn_ns hns
   have J : PySem.W.InstAt s.heap a oe C (some od) := ⟨hget, hz.1, by unfold PySem.W.notCls; rw [hv] <;> rfl, by rw [hz.2]; exact ho⟩
   exact PySem.W.kia_one (PySem.W.sl_kitx T.xc) I.kIn J e (fun z => nomatch z) fun tk => ⟨.bl b, H, I.kept (t' := tk) fun _ _ z => z, rfl, q⟩
section
variable {X : Cx} {k j : Nat} {x : Str} {C : Addr} {sp : Sp} {p p1 p2 pos : Pos} {e : Expr} {es : List Expr} {t ta : TA}
def tMkX (C : Addr) (sp : Sp) (ta : TA) : L2.St → Hp → XK → Prop := fun σ H Q => ta σ H fun vs H1 => vs.length ≤ 1000 ∧ ∀ a, H1 a = none → sp (.ref a :: vs) (upd H1 a (exo a C none))
 (fun v H2 => v = .non ∧ ∃ (d : Addr) (fs : List (Str × V)), H2 a = some (exo a C (some d)) ∧ H2 d = some (exd d fs) ∧ H1 d = none ∧ Q (.ref C) (some d) (upd (del H2 a) d (.xd fs))) E0
end
structure CalX (P : Program) (w : World) (K : PySem.W.Frag) (mg : Str → Option Value) (base : Heap) (k : Nat) (x : Str) (sp : Sp) : Prop where
 ex : ∃ (f : Addr) (fd : FuncData) (ps : List Str), FnG P w K mg base (L2.CX P w) k f fd ps sp ∧ mg x = some (.ref f) ∧ PySem.W.keepIn K (.ref f) = true ∧ Binds K fd ps []
theorem calX_of {P : Program} {w : World} {K : PySem.W.Frag} {mg : Str → Option Value} {base : Heap} {k : Nat} {x : Str} {sp : Sp} {f : Addr} {fd : FuncData} {ps : List Str} (F : FnG P w K mg base (L2.CX P w) k f fd ps sp) (m : mg x = some (.ref f)) (kp : PySem.W.keepIn K (.ref f) = true) (b : Binds K fd ps []) : CalX P w K mg base k x sp := ⟨f, fd, ps, F, m, kp, b⟩
section
variable {X : Cx} {k j : Nat} {x : Str} {sp : Sp} {p pos : Pos} {e : Expr} {es : List Expr} {t : TA} {W : WX}
theorem pe_calX (c : CalX X.prog X.w X.K X.mg X.base k x sp) (tk : Takes X W) (hr : RoomG j X.A) (hg : Gl X x) (ha : PA X (e :: es) t) (hk : k ≤ j := by first | decide | omega)
  (hdb : (x == ("__debug__" : Str)) = false := by decide) (hst : starEach (e :: es) X.env = (false, eval e X.env) :: starEach es X.env := by rfl) (hnp : (backTo pos (starEach es X.env)).any (·.1) = false := by rfl) :
  PE X (.Call (.Name x p) (e :: es) [] pos) (tCallS sp (WE W) t) := by
 obtain ⟨f, fd, ps, F, hm, kp, b⟩ := c.ex
 constructor
 intro pins s σ H Q I h
 refine wpAny_Call_Name_kw (ld_glob I hg hm (PySem.W.callWith_K (h₀ := X.base) I.ok.mod.kin kp (thn (ha.run pos pins s σ H _ I h) fun us s1 z => ?_) hst hnp) hdb)
 obtain ⟨vs, H1, I1, r, q⟩ := z
 refine ⟨I1.kIn, ?_⟩
 have ln : us.length = ps.length := r.length.symm.trans (F.len _ _ _ _ q)
 have b2 := b s1 us I1.kIn (by rw [List.append_nil]; exact ln)
 rw [List.append_nil] at b2
 refine wpAny_call (codeAny_mono (F.go X.A X.stack s1 H1 ⟨us, []⟩ us vs Q (WE W σ) (hr.mono hk) I1.env0 b2 r q) fun res s2 hq => ?_)
 cases res with
 | ok fl =>
  cases fl with
  | ret u => exact I1.after hq
  | _ => exact hq.elim
 | error z => exact passAt tk σ pins H1 s1 z s2 I1 hq
end
end SL
namespace SL
open PySem PySem.Spec PyProof.Rows L2
def tXs (K : PySem.W.Frag) (a : Addr) (cls : Value) (d : Option Addr) (n : Str) (te : TE) : TE := fun σ H Q => te σ H fun x H1 => x = .ref a ∧ ∃ (C dd : Addr) (fs : List (Str × V)) (v : V), cls = .ref C ∧ d = some dd ∧ EcC K C ∧ PySem.W.findIn K (.ref C) n = some none ∧ H1 dd = some (.xd fs) ∧ fs.lookup n = some v ∧ Q v H1
theorem pe_xs {X : Cx} {a : Addr} {oe : Obj} {cls : Value} {d : Option Addr} {pn : List (Addr × Obj)} {e : Expr} {te : TE} {pos : Pos} (n : Str)
  (hz : Zc cls d oe) (hf : ∃ vs, oe.data = .fields vs) (he : PE (X.suite a ((a, oe) :: pn)) e te) (hb : attributeBase e n X.env (eval e X.env) = eval e X.env := by rfl) :
  PE (X.suite a ((a, oe) :: pn)) (.Attribute e n pos) (tXs X.K a cls d n te) := ⟨fun pins s σ H Q I h => attr_of hb (thn (he.run pins s σ H _ I h) fun got z hz1 => by
 obtain ⟨_, H1, J, same, rfl, C, dd, fs, v, rfl, rfl, cl, none_own, at_dd, val, q⟩ := hz1
 cases (show got = Value.ref a from same)
 have ⟨_, dat⟩ := hf
 have ⟨names, is_ns, rel⟩ : ObjOk X.prog X.w H1 z.heap dd (.xd fs) := J.hok dd _ at_dd
 have ⟨od, at_od, look⟩ := lookIn_ns is_ns
 have ⟨_, there, ru⟩ := RelO.some_of (v := v) (o := names n) (val ▸ rel n)
 have pinned := (J.pin (a, oe) (List.mem_append.mpr (.inl (.head _)))).1
 have no_cls : PySem.W.notCls oe = true := by unfold PySem.W.notCls; rw [dat] <;> rfl
 exact HandSPX.exc_get J.kIn (⟨pinned, hz.1, no_cls, hz.2 ▸ at_od⟩ : PySem.W.InstAt z.heap a oe C (some od)) cl.xf.ga cl.xf.gg cl.xf.exC (PySem.W.findObj_own cl.xf.hdC none_own rfl ((look n).trans (congrArg some there))) (handed_of ru) ⟨v, H1, J.tok _, ru, q⟩)⟩
def tRs (t : L2.St → Hp → XK → Prop) (W : WX) : TS := fun _ σ H => t σ H fun cls d H' => W cls d σ H'
def tTry (K : PySem.W.Frag) (c : Value) (i : Nat) (tb : WX → TS) (ts : Addr → Value → Option Addr → TS) (Wout : WX) : TS := fun D σ H => tb (wAs K c i ts Wout D) D σ H
theorem ps_tryK {X : Cx} {K : PySem.W.Frag} {x n : Str} {c : Value} {i : Nat} {body suite : List Stmt} {b₀ : Stmt} {np pos pos' : Pos} {tb : WX → TS} {ts : Addr → Value → Option Addr → TS} {Wout : WX} (eK : X.K = K)
  (hs : X.stack = X.env :: X.outer) (hf : X.env.frame = some X.env.locals) (hN : X.N.Nodup) (hi : X.N[i]? = some n) (hln : X.env.kindOf n = some .local) (hc : Names X x c) (tk : Takes X Wout)
  (hb : ∀ (W : WX) (pn : List (Addr × Obj)) (xe : Value → Shared → Prop), Takes (X.tr pn xe) W → PassesOwn (model X.prog X.w) X.A X.env xe → PSs (X.tr pn xe) body (tb W))
  (hsu : ∀ (a : Addr) (oe : Obj) (cls : Value) (d : Option Addr) (pn : List (Addr × Obj)), Zc cls d oe → (∃ vs, oe.data = .fields vs) → PSs (X.suite a ((a, oe) :: pn)) (b₀ :: suite) (ts a cls d)) :
  PS X (.Try body [.ExceptHandler (some (.Name x np)) (some n) (b₀ :: suite) pos'] [] [] pos) (tTry K c i tb ts Wout) := by
 subst eK
 exact ps_try_as hs hf hN hi hln hc tk hb hsu
theorem find_VE (K : PySem.W.Frag) : PySem.W.findCls K (.type "ValueError") (.type "type") "__init__" = some (.val (.builtin "ValueError.__init__")) := by kernel_rfl
section
variable {X : Cx} {K : PySem.W.Frag} {e : Expr} {st : Stmt} {ta : TA} {te to : TE} {f : Str} {a : Addr} {cls : Value} {d : Option Addr} {σ : L2.St} {H : Hp} {Q : VK} {D : Ends}
theorem kVeI (q : X.K = K) (h : PE X e (tVeI X.K ta)) : PE X e (tVeI K ta) := q ▸ h
theorem kOst (q : X.K = K) (h : PS X st (tOst X.K f to te)) : PS X st (tOst K f to te) := q ▸ h
theorem kXs (q : X.K = K) (h : PE X e (tXs X.K a cls d f te)) : PE X e (tXs K a cls d f te) := q ▸ h
theorem g_vei (q : ta σ H fun vs H1 => ∃ (a C : Addr) (ws : List V), vs = .ref a :: ws ∧ ws.length ≤ 1000 ∧ OexC K C ∧ H1 a = some (exo a C none) ∧ Q .non H1) : tVeI K ta σ H Q := q
theorem g_ost (q : te σ H fun y H1 => to σ H1 fun x H2 => ∃ a C : Addr, x = .ref a ∧ OexC K C ∧ PySem.W.findIn K (.ref C) f = some none ∧
 ((H2 a = some (exo a C none) ∧ ∀ dx, H2 dx = none → dx ≠ a → D.nx σ (upd (upd H2 dx (exd dx [(f, y)])) a (exo a C (some dx)))) ∨
  ∃ (dx : Addr) (fs : List (Str × V)), H2 a = some (exo a C (some dx)) ∧ H2 dx = some (exd dx fs) ∧ fs.length ≤ 900 ∧ D.nx σ (upd H2 dx (exd dx ((f, y) :: fs))))) : tOst K f to te D σ H := q
theorem g_xat (q : te σ H fun x H1 => ∃ (a C d : Addr) (fs : List (Str × V)) (v : V), x = .ref a ∧ EcC K C ∧ PySem.W.findIn K (.ref C) f = some none ∧ H1 a = some (exo a C (some d)) ∧ H1 d = some (exd d fs) ∧ fs.lookup f = some v ∧ Q v H1) : tXat K f te σ H Q := q
theorem g_xs (q : te σ H fun x H1 => x = .ref a ∧ ∃ (C dd : Addr) (fs : List (Str × V)) (v : V), cls = .ref C ∧ d = some dd ∧ EcC K C ∧ PySem.W.findIn K (.ref C) f = some none ∧ H1 dd = some (.xd fs) ∧ fs.lookup f = some v ∧ Q v H1) : tXs K a cls d f te σ H Q := q
theorem g_mkE {C : Addr} {sp : Sp} (q : ta σ H fun vs H1 => spMk C sp vs H1 Q) : tMkE C sp ta σ H Q := q
theorem g_rs {t : L2.St → Hp → XK → Prop} {W : WX} (q : t σ H fun cls d H' => W cls d σ H') : tRs t W D σ H := q
theorem g_mkX {C : Addr} {sp : Sp} {Qx : XK} (q : ta σ H fun vs H1 => vs.length ≤ 1000 ∧ ∀ a, H1 a = none → sp (.ref a :: vs) (upd H1 a (exo a C none))
 (fun v H2 => v = .non ∧ ∃ (d : Addr) (fs : List (Str × V)), H2 a = some (exo a C (some d)) ∧ H2 d = some (exd d fs) ∧ H1 d = none ∧ Qx (.ref C) (some d) (upd (del H2 a) d (.xd fs))) E0) : tMkX C sp ta σ H Qx := q
theorem g_try {c : Value} {i : Nat} {tb : WX → TS} {ts : Addr → Value → Option Addr → TS} {Wout : WX} (q : tb (wAs K c i ts Wout D) D σ H) : tTry K c i tb ts Wout D σ H := q
theorem g_callS {sp : Sp} {E : L2.St → XK} (q : ta σ H fun vs H1 => sp vs H1 Q (E σ)) : tCallS sp E ta σ H Q := q
theorem g_wAs {c : Value} {i : Nat} {ts : Addr → Value → Option Addr → TS} {Wout : WX} (h : PySem.W.exmOne K cls c = some true) (q : ∀ a, H a = none → ts a cls d { nx := fun σ' H' => D.nx (σ'.set i none) H', rt := D.rt, bk := fun σ' H' => D.bk (σ'.set i none) H', ct := fun σ' H' => D.ct (σ'.set i none) H' } (σ.set i (some (.ref a))) H) :
 WE (wAs K c i ts Wout D) σ cls d H := ⟨true, h, fun _ => q, fun z => nomatch z⟩
end
theorem okX {P : Program} {w : World} {K : PySem.W.Frag} {mg : Str → Option Value} {base : Heap} {x qual : Str} {pr : Arguments} {bd : List Stmt} {sc : Scope} {dvs : List V} {kws : List (Str × V)} {f : Addr} {fd : FuncData} {N ps : List Str} {k : Nat} {sp : Sp} (F : FunD K x qual pr bd sc dvs kws f fd) (S : FnScope N ps sc) (hlen : ∀ vs H Q E, sp vs H Q E → vs.length = ps.length)
  (hb : ∀ (cdv : Value) (A : Around) (outer : List Env) (s : Shared) (H : Hp) (vs : List V) (Q : VK) (E : XK), RoomG k (A.deeper (envOfC qual sc s.heap.objs.size f cdv)) → sp vs H Q E →
   Takes (cxOf (L2.CX P w) P w K mg base N qual sc f cdv A outer s H E) (fun cls d _ H => E cls d H) →
   ∃ t, PSs (cxOf (L2.CX P w) P w K mg base N qual sc f cdv A outer s H E) bd t ∧ t { nx := fun _ H' => Q .non H', rt := Q } (start N vs) H) : FnG P w K mg base (L2.CX P w) (k + 1) f fd ps sp :=
 okG F S hlen fun cdv A outer s H vs Q E hr hsp => hb cdv A outer s H vs Q E hr hsp (takes_of rfl rfl rfl rfl)
def Made (a C : Addr) (fs : List (Str × V)) (H : Hp) (Q : VK) : Prop := ∀ (d : Addr) (H' : Hp), H d = none → d ≠ a → Fr [a] H H' → H' a = some (exo a C (some d)) → H' d = some (exd d fs) → Q .non H'
def IniAt (K : PySem.W.Frag) (a C : Addr) (f : Str) (H : Hp) : Prop := OexC K C ∧ PySem.W.findIn K (.ref C) f = some none ∧ H a = some (exo a C none)
def spL (K : PySem.W.Frag) : Sp := fun vs H Q _ => ∃ (a C : Addr) (y : V), vs = [.ref a, y] ∧ IniAt K a C "word" H ∧ Made a C [("word", y)] H Q
def spI1 (K : PySem.W.Frag) (w f : Str) : Sp := fun vs H Q _ => ∃ (a C : Addr) (y : V), vs = [.ref a, y] ∧ IniAt K a C "word" H ∧ PySem.W.findIn K (.ref C) f = some none ∧ Made a C [(f, y), ("word", .str w)] H Q
theorem nofix_exo {e C : Addr} {d : Option Addr} : ¬ Fix (exo e C d) := fun z => z
theorem Fr.exd {H : Hp} {a d C : Addr} {o u : HO} (hd : H d = none) (ha : H a = some (exo a C none)) : Fr [a] H (upd (upd H d o) a u) := (Fr.new hd).trans (Fr.mut List.mem_cons_self (by rw [upd_ne (ne_of_none ha hd)]; exact ha) nofix_exo)
theorem mkX_I1 {K : PySem.W.Frag} {C : Addr} {w f : Str} {y : V} {H : Hp} {Qx : XK} (T : EcC K C) (h1 : PySem.W.findIn K (.ref C) "word" = some none) (h2 : PySem.W.findIn K (.ref C) f = some none)
  (q : ∀ (d : Addr) (H' : Hp), Fr [] H H' → H' d = some (.xd [(f, y), ("word", .str w)]) → Qx (.ref C) (some d) H') :
  [y].length ≤ 1000 ∧ ∀ a, H a = none → spI1 K w f (.ref a :: [y]) (upd H a (exo a C none)) (fun v H2 => v = .non ∧ ∃ (d : Addr) (fs : List (Str × V)), H2 a = some (exo a C (some d)) ∧ H2 d = some (exd d fs) ∧ H d = none ∧ Qx (.ref C) (some d) (upd (del H2 a) d (.xd fs))) E0 :=
 ⟨Nat.le_of_ble_eq_true rfl, fun a ha => ⟨a, C, y, rfl, ⟨T.oe, h1, upd_same⟩, h2, fun d H' hd hne fr e1 e2 => ⟨rfl, d, _, e1, e2, by rw [upd_ne hne] at hd; exact hd, q d _ (fun b o hb _ => by
  have hb2 : b ≠ a := ne_of_none hb ha
  have hd2 : H d = none := by rw [upd_ne hne] at hd; exact hd
  rw [upd_ne (ne_of_none hb hd2), del_ne hb2]
  exact fr b o (by rw [upd_ne hb2]; exact hb) (.inl fun z => hb2 (List.mem_singleton.mp z))) upd_same⟩⟩⟩
end SL
namespace SL
open PySem PySem.Spec PyProof.Rows L2
section
variable {K : PySem.W.Frag} {σ : L2.St} {H : Hp} {Q : VK} {ta tb tc te : TE} {r r' : R2}
theorem g_chain (q : ta σ H fun x H1 => tb σ H1 fun y H2 => r x y H2 fun z H3 => ∃ k, z = .bl k ∧ (if k = true then tc σ H3 fun w' H4 => r' y w' H4 Q else Q (.bl false) H3)) : tChain r r' ta tb tc σ H Q := q
theorem g_rU {f : Int → V} {i : Int} (q : Q (f i) H) : rU f (.int i) H Q := ⟨i, rfl, q⟩
theorem g_istr {S : It → Hp → Prop} (q : te σ H fun v H1 => ∃ x, v = .str x ∧ S (Its x) H1) : iStr te σ H S := q
theorem g_leS {a b : Str} (q : Q (.bl (!decide (b.cps.toList < a.cps.toList))) H) : uLe (.str a) (.str b) H Q := q
end
end SL
namespace SL
open PySem PySem.Spec PyProof.Rows L2 He
structure SaysY (fa : List Fa) (fn : List DefD) (ts : List Tab) (ex : PySem.W.Frag → Bool) (w : World) (K : PySem.W.Frag) : Prop where
 t : SaysT fa fn ts w K
 more : ex K = true
end SL
set_option Elab.async false
set_option linter.all false
set_option maxRecDepth 100000
set_option maxHeartbeats 2000000
namespace SL
open PySem PySem.Spec PyProof.Rows L2
structure MetG (P : Program) (w : World) (K : PySem.W.Frag) (mg : Str → Option Value) (base : Heap) (CX : CXT) (k : Nat) (C : Addr) (m : Str) (dvs : List V) (sp : Sp) : Prop where
 cls : Cls K C
 ex : ∃ (f : Addr) (fd : FuncData) (ps : List Str) (ds : List Value), Meth K C m f ∧ FnG P w K mg base CX k f fd ps sp ∧ Binds K fd ps ds ∧ Vals dvs ds
def tMetX (C : Addr) (m : Str) (sp : Sp) (dvs : List V) (E : L2.St → XK) (ta : TE) (t : TA) : TE := fun σ H Q => ta σ H fun x H1 => ∃ a dx fs, x = .ref a ∧ H1 a = some (.ins C dx fs) ∧ fs.lookup m = none ∧
 t σ H1 fun vs H2 => sp (x :: (vs ++ dvs)) H2 Q (E σ)
section
variable {X : Cx} {k j : Nat} {C : Addr} {sp : Sp} {m : Str} {pos apos : Pos} {e o : Expr} {es : List Expr} {ta : TE} {t : TA} {W : WX} {dvs : List V}
abbrev metEval (o : Expr) (m : Str) (apos pos : Pos) (pl : Sem Bool) (args : List (Bool × Sem Value)) (kws : List (Option Str × Sem Value)) (env : Env) : Sem Value := do
 let self ← eval o env
 standAt apos.atName
 let (d, fst) ← holding [self] (getMethod self m pl)
 callWith pos d fst args kws
theorem met_call {as : List Expr} {f : Addr} {pl : Sem Bool} {kws : List Keyword} {pins : List (Addr × Obj)} {σ : L2.St} {H : Hp} {s : Shared} {R : V → Hp → Prop} {Q : Value → Shared → Prop} (cls : Cls X.K C) (meth : Meth X.K C m f) (he : PE X o ta)
  (form : eval (.Call (.Attribute o m apos) as kws pos) X.env = metEval o m apos pos pl (backTo pos (starEach as X.env)) (backToKw pos (keywordEach kws X.env)) X.env) (I : Inv X pins σ H s) (h : ta σ H fun x H1 => ∃ a dx fs, x = .ref a ∧ H1 a = some (.ins C dx fs) ∧ fs.lookup m = none ∧ R x H1)
  (on : ∀ a H1 z, Inv X pins σ H1 z → R (.ref a) H1 → wpAny (model X.prog X.w) X.A (callWith pos (.ref f) [.ref a] (backTo pos (starEach as X.env)) (backToKw pos (keywordEach kws X.env))) Q X.xe z) : wpAny (model X.prog X.w) X.A (eval (.Call (.Attribute o m apos) as kws pos) X.env) Q X.xe s :=
 PySem.W.methodCall_KW (pl := pl) (thn (he.run pins s σ H _ I h) fun u z hz => by
  obtain ⟨_, H1, J, ru, a, _, _, rfl, at_a, no_field, r⟩ := hz
  cases (show u = Value.ref a from ru)
  exact getmeth_ok J at_a cls meth no_field (on a H1 z J r)) form
theorem pe_metG {pl : Sem Bool} (M : MetG X.prog X.w X.K X.mg X.base CX0 k C m dvs sp) (hr : RoomG j X.A) (he : PE X o ta) (ha : PA X (e :: es) t) (hk : k ≤ j := by first | decide | omega)
  (hst : starEach (e :: es) X.env = (false, eval e X.env) :: starEach es X.env := by rfl) (hpl : (backTo pos (starEach es X.env)).any (·.1) = false := by rfl)
  (ht : eval (.Call (.Attribute o m apos) (e :: es) [] pos) X.env = metEval o m apos pos pl (backTo pos (starEach (e :: es) X.env)) (backToKw pos (keywordEach [] X.env)) X.env := by rfl) :
  PE X (.Call (.Attribute o m apos) (e :: es) [] pos) (tMetX C m sp dvs (fun _ => E0) ta t) := ⟨fun pins s σ H Q I h => by
 obtain ⟨f, fd, ps, ds, meth, Fn, binds, rel⟩ := M.ex
 exact met_call M.cls meth he ht I h fun a H1 z J q => PySem.W.callWith_K (first := [.ref a]) (h₀ := X.base) J.ok.mod.kin meth.kp (thn (ha.run pos pins z σ H1 _ J q) fun us y hy => by
  obtain ⟨vs, H2, J2, r, q2⟩ := hy
  exact ⟨J2.kIn, run_fng (us := .ref a :: us) (vs := .ref a :: vs) Fn (hr.mono hk) binds rel pass0 J2 (.cons rfl r) q2⟩) hst hpl⟩
theorem pe_metG0 {pl : Sem Bool} (M : MetG X.prog X.w X.K X.mg X.base CX0 k C m dvs sp) (hr : RoomG j X.A) (he : PE X o ta) (hk : k ≤ j := by first | decide | omega)
  (ht : eval (.Call (.Attribute o m apos) [] [] pos) X.env = metEval o m apos pos pl (backTo pos (starEach [] X.env)) (backToKw pos (keywordEach [] X.env)) X.env := by rfl) :
  PE X (.Call (.Attribute o m apos) [] [] pos) (tMetX C m sp dvs (fun _ => E0) ta tNil) := ⟨fun pins s σ H Q I h => by
 obtain ⟨f, fd, ps, ds, meth, Fn, binds, rel⟩ := M.ex
 exact met_call M.cls meth he ht I h fun a H1 z J q => PySem.W.callWith_K0 (first := [.ref a]) J.kIn meth.kp (run_fng (us := [.ref a]) (vs := [.ref a]) Fn (hr.mono hk) binds rel pass0 J (.cons rfl .nil) q)⟩
end
section
variable {X : Cx} {K : PySem.W.Frag} {o e value ex : Expr} {f : Str} {pos pos' tpos : Pos} {ta tv : TE} {rd : V → V → Hp → VK → Prop} {st : Stmt}
theorem kFld (h : X.K = K) (p : PE X ex (tFld X.K ta f)) : PE X ex (tFld K ta f) := h ▸ p
theorem kSFld (h : X.K = K) (p : PS X st (sFld X.K ta tv f)) : PS X st (sFld K ta tv f) := h ▸ p
theorem kFldAug (h : X.K = K) (p : PS X st (sFldAug X.K ta tv rd f)) : PS X st (sFldAug K ta tv rd f) := h ▸ p
variable {σ : L2.St} {H : Hp} {Q : VK} {C : Addr} {m : Str} {sp : Sp} {dvs : List V} {E : L2.St → XK} {t : TA} {D : Ends}
theorem g_fld (q : ta σ H fun x H1 => ∃ a C dx fs v, x = .ref a ∧ H1 a = some (.ins C dx fs) ∧ Cls K C ∧ NoAttr K C f ∧ fs.lookup f = some v ∧ Q v H1) : tFld K ta f σ H Q := q
theorem g_met (q : ta σ H fun x H1 => ∃ a dx fs, x = .ref a ∧ H1 a = some (.ins C dx fs) ∧ fs.lookup m = none ∧ t σ H1 fun vs H2 => sp (x :: (vs ++ dvs)) H2 Q (E σ)) : tMetX C m sp dvs E ta t σ H Q := q
theorem g_sfld (q : tv σ H fun y H1 => ta σ H1 fun x H2 => ∃ a C dx fs, x = .ref a ∧ H2 a = some (.ins C dx fs) ∧ Cls K C ∧ NoAttr K C f ∧ fs.length < 1000 ∧ D.nx σ (upd H2 a (.ins C dx (putF f y fs)))) : sFld K ta tv f D σ H := q
theorem g_fldaug (q : ta σ H fun x H1 => ∃ a C dx fs v, x = .ref a ∧ H1 a = some (.ins C dx fs) ∧ Cls K C ∧ NoAttr K C f ∧ fs.lookup f = some v ∧
 tv σ H1 fun y H2 => rd v y H2 fun z H3 => ∃ dx' fs', H3 a = some (.ins C dx' fs') ∧ fs'.length < 1000 ∧ D.nx σ (upd H3 a (.ins C dx' (putF f z fs')))) : sFldAug K ta tv rd f D σ H := q
end
section
variable {σ : L2.St} {H : Hp} {D : Ends}
theorem g_while2 {c : TT} {tb : TS} (Pv : L2.St → Hp → Prop) (μ : L2.St → Hp → Nat) (h0 : Pv σ H) (hs : ∀ σ H, Pv σ H → c σ H fun b H1 => if b = true then ∃ N : L2.St → Hp → Prop, (∀ σ' H', N σ' H' → ∃ m', m' < μ σ H ∧ m' = μ σ' H' ∧ Pv σ' H') ∧ tb { D with nx := N, ct := N, bk := D.nx } σ H1 else D.nx σ H1) :
  tWhile c tb D σ H := by
 refine ⟨fun m σ H => m = μ σ H ∧ Pv σ H, ⟨_, rfl, h0⟩, ?_⟩
 rintro m σ H ⟨rfl, p⟩
 exact hs σ H p
theorem g_wt {μ : L2.St → Hp → Nat} {Pv : L2.St → Hp → Prop} {M : Nat} {T : (L2.St → Hp → Prop) → Prop} (h : T fun σ' H' => Pv σ' H' ∧ μ σ' H' < M) : ∃ N : L2.St → Hp → Prop, (∀ σ' H', N σ' H' → ∃ m', m' < M ∧ m' = μ σ' H' ∧ Pv σ' H') ∧ T N :=
 ⟨_, fun _ _ z => ⟨_, z.2, rfl, z.1⟩, h⟩
theorem g_aug1 {i : Nat} {a b : Int} {f : Int → Int → Int} (h : σ[i]? = some (some (.int a))) (q : D.nx (σ.set i (some (.int (f a b)))) H) : tAug i (tC (.int b)) (ipI f) D σ H := ⟨_, h, _, _, rfl, rfl, q⟩
end
end SL
set_option Elab.async false
set_option linter.all false
set_option maxRecDepth 100000
set_option maxHeartbeats 2000000
namespace SL
open PySem PySem.Spec PyProof.Rows L2
def tMakeX (C : Addr) (n m : Nat) (sp : Sp) (gV : List V → List V → List V) (E : L2.St → XK) (t tk : TA) : TE := fun σ H Q => t σ H fun vs H1 => tk σ H1 fun zs H2 => vs.length = n ∧ zs.length = m ∧ ∀ x dx, H2 x = none → H2 dx = none → dx ≠ x →
 sp (gV (.ref x :: vs) zs) (upd (upd H2 dx (.own x)) x (.ins C dx [])) (fun v H3 => v = .non ∧ Q (.ref x) H3) (E σ)
theorem g_makeX {C : Addr} {n m : Nat} {sp : Sp} {gV : List V → List V → List V} {E : L2.St → XK} {t tk : TA} {σ : L2.St} {H : Hp} {Q : VK} (q : t σ H fun vs H1 => tk σ H1 fun zs H2 => vs.length = n ∧ zs.length = m ∧ ∀ x dx, H2 x = none → H2 dx = none → dx ≠ x →
 sp (gV (.ref x :: vs) zs) (upd (upd H2 dx (.own x)) x (.ins C dx [])) (fun v H3 => v = .non ∧ Q (.ref x) H3) (E σ)) : tMakeX C n m sp gV E t tk σ H Q := q
section
variable {X : Cx} {k j n : Nat} {f C : Addr} {fd : FuncData} {ps ks : List Str} {sp : Sp} {x : Str} {p pos : Pos} {e : Expr} {es : List Expr} {kws : List Keyword} {t tk : TA} {g : List Value → List Value → List Value} {gV : List V → List V → List V} {W : WX}
theorem run_mk {CX : CXT} {E : XK} {pins : List (Addr × Obj)} {σ : L2.St} {H : Hp} {s : Shared} {Q : VK} {us ws : List Value} {vs zs : List V} (M : Mk X.K C f) (Fn : FnG X.prog X.w X.K X.mg X.base CX k f fd ps sp) (hr : RoomG (k + 1) X.A) (kb : KBn X.K fd ps (n + 1) ks g gV) (fail : PassesAt CX X σ E)
  (I : Inv X pins σ H s) (r : Vals vs us) (rz : Vals zs ws) (l1 : vs.length = n) (l2 : zs.length = ks.length)
  (prom : ∀ o d, H o = none → H d = none → d ≠ o → sp (gV (.ref o :: vs) zs) (upd (upd H d (.own o)) o (.ins C d [])) (fun v H2 => v = .non ∧ Q (.ref o) H2) E) :
  wpAny (model X.prog X.w) X.A (call (.ref C) us (ks.zip ws)) (EP X pins σ Q) X.xe s := by
 have J : Inv X pins σ _ _ := Inv.made (C := C) I
 have fresh := fun i => I.hok.fresh (a := s.heap.objs.size + i) (Nat.le_add_right ..)
 have all : Vals (V.ref (s.heap.objs.size + 1) :: vs) (Value.ref (s.heap.objs.size + 1) :: us) := .cons rfl r
 have count : (Value.ref (s.heap.objs.size + 1) :: us).length = n + 1 := all.length.symm.trans (congrArg (· + 1) l1)
 have init := Fn.go _ X.stack _ _ ⟨Value.ref (s.heap.objs.size + 1) :: us, ks.zip ws⟩ _ _ _ E (hr.make C us (ks.zip ws)) (J.env0.make C us (ks.zip ws)) (kb.to _ _ ws J.kIn count (rz.length.symm.trans l2)) (kb.rel all rz) (prom _ _ (fresh 1) (fresh 0) (Nat.ne_of_lt (Nat.lt_succ_self _)))
 refine wpAny_call (make_map (f := f) I.kIn M.makes M.init (beq_iff_eq.mp M.fn) (codeAny_mono init fun res z hz => ?_))
 match res, hz with
 | .error x, hz => exact fail pins _ _ x z J hz
 | .ok .next, hz => exact absurd hz id
 | .ok .brk, hz => exact absurd hz id
 | .ok .cont, hz => exact absurd hz id
 | .ok (.ret u), hz =>
  have ⟨_, H2, J2, ru, is_non, q⟩ := J.after hz
  cases is_non
  exact ⟨ru, .ref _, H2, J2, rfl, q⟩
structure MkX (P : Program) (w : World) (K : PySem.W.Frag) (mg : Str → Option Value) (base : Heap) (k : Nat) (x : Str) (C : Addr) (n : Nat) (ks : List Str) (gV : List V → List V → List V) (sp : Sp) : Prop where
 m : mg x = some (.ref C)
 ex : ∃ (f : Addr) (fd : FuncData) (ps : List Str) (g : List Value → List Value → List Value), Mk K C f ∧ FnG P w K mg base (L2.CX P w) k f fd ps sp ∧ KBn K fd ps (n + 1) ks g gV
theorem pe_mk {CX : CXT} {E : L2.St → XK} (m : X.mg x = some (.ref C)) (M : Mk X.K C f) (Fn : FnG X.prog X.w X.K X.mg X.base CX k f fd ps sp) (kb : KBn X.K fd ps (n + 1) ks g gV) (fail : ∀ σ, PassesAt CX X σ (E σ)) (hr : RoomG (k + 1) X.A) (hg : Gl X x) (ha : PA X (e :: es) t) (hkw : PK X kws tk)
  (named : (backToKw pos (keywordEach kws X.env)).all (·.1.isSome) = true) (names : (backToKw pos (keywordEach kws X.env)).filterMap (·.1) = ks) (no_debug : (x == ("__debug__" : Str)) = false)
  (each : starEach (e :: es) X.env = (false, eval e X.env) :: starEach es X.env) (no_star : ((backTo pos (starEach (e :: es) X.env)).any (·.1) || (backToKw pos (keywordEach kws X.env)).any (·.1.isNone)) = false) :
  PE X (.Call (.Name x p) (e :: es) kws pos) (tMakeX C n ks.length sp gV E t tk) := ⟨fun pins s σ H Q I h =>
 wpAny_Call_Name_kw (ld_glob I hg m (PySem.W.callWith_KW (h₀ := X.base) I.ok.mod.kin M.kp named (thn (ha.run pos pins s σ H _ I h) fun us s1 h1 => by
  obtain ⟨vs, H1, J, r, h1⟩ := h1
  refine thn (hkw.run pos pins s1 σ H1 _ J h1) fun ws s2 h2 => ?_
  obtain ⟨zs, H2, J2, rz, l1, l2, q⟩ := h2
  exact ⟨J2.kIn, names ▸ run_mk M Fn hr kb (fail σ) J2 r rz l1 l2 q⟩) no_star each) no_debug)⟩
end
end SL
set_option Elab.async false
set_option linter.all false
set_option maxRecDepth 100000
set_option maxHeartbeats 2000000
namespace SL
open PySem PySem.Spec PyProof.Rows L2 PySem.Builtin PySem.Builtin.Str
theorem gives_rep1 (x y z : Str) (t u v w : Tok)
    (hf : ((occurrences x y 0 x.length 1).isEmpty || (y.length == 0 && z.length == 0)) = false →
      (u == 0 || v == 0) = false ∧ (u == v) = false ∧ tooLong (x.length + (occurrences x y 0 x.length 1).length * z.length) = false) :
    GivesAt (fun s => NoneBooked s.heap) («str.replace» ⟨[.str x t, .str y u, .str z v, .int 1 w], []⟩)
      (if ((occurrences x y 0 x.length 1).isEmpty || (y.length == 0 && z.length == 0)) = true then .val (.str x t)
       else if (y == z) = true then .either (.val (.str x t)) (.str (glued z (partsBetween x (occurrences x y 0 x.length 1) y.length)))
       else .str (glued z (partsBetween x (occurrences x y 0 x.length 1) y.length))) := by
  have e : «str.replace» ⟨[.str x t, .str y u, .str z v, .int 1 w], []⟩ = (if ((occurrences x y 0 x.length 1).isEmpty || (y.length == 0 && z.length == 0)) = true then (do rule "str.replace.nothing"; ret (.str x t)) else
          (do let same ← isSame (.str y u) (.str z v)
              if same = true then (do rule "str.replace.old-is-new"; ret (.str x t)) else
              if tooLong (x.length + (occurrences x y 0 x.length 1).length * z.length) = true then unsupported "str.replace:memory" else
              retStr (glued z (partsBetween x (occurrences x y 0 x.length 1) y.length)))) := by
    show (do let limit ← countLimit "str.replace" (some (.int 1 w)) (x.length + 1); _) = _
    rw [countLimit_int "str.replace" 1 w (x.length + 1) (by decide)]
    rfl
  rw [e]
  cases hc : ((occurrences x y 0 x.length 1).isEmpty || (y.length == 0 && z.length == 0))
  · obtain ⟨h0, huv, hl⟩ := hf hc
    cases hyz : (y == z)
    · rw [isSame_str_other y z u v h0 huv hyz, hl]
      exact Gives.at (.of_eq rfl)
    · intro prog w A R s hb hq
      show wpAny _ _ (isSame (.str y u) (.str z v) >>= _) _ _ _
      refine wpAny_bind (wpAny_isSame_str h0 hb fun b => ?_)
      cases b
      · show wpAny _ _ (if tooLong (x.length + (occurrences x y 0 x.length 1).length * z.length) = true then _
                         else retStr (glued z (partsBetween x (occurrences x y 0 x.length 1) y.length))) _ _ _
        rw [hl]
        exact wpAny_bind (wpAny_mkStr (wpAny_pure hq.2.2) hq.2.1)
      · exact wpAny_bind (wpAny_rule (wpAny_pure hq.1))
  · exact Gives.at (.rule (.of_eq rfl))
def repl1 (x y z : Str) : Str := if ((occurrences x y 0 x.length 1).isEmpty || (y.length == 0 && z.length == 0)) = true then x else glued z (partsBetween x (occurrences x y 0 x.length 1) y.length)
theorem parts_two (x : Str) (i n : Nat) : partsBetween x [i] n = [⟨x.cps.extract 0 i⟩, ⟨x.cps.extract (i + n) x.length⟩] := rfl
theorem glued_two (z a b : Str) : glued z [a, b] = ⟨a.cps ++ z.cps ++ b.cps⟩ := rfl
theorem repl1_form (x y z : Str) : repl1 x y z = x ∨ ∃ i : Nat, repl1 x y z = ⟨x.cps.extract 0 i ++ z.cps ++ x.cps.extract (i + y.length) x.length⟩ := by
 unfold repl1
 split
 ·exact .inl rfl
 ·rename_i c
  have hl := StrLaws.occ_length_le x y 0 x.length 1
  cases e : occurrences x y 0 x.length 1 with
  | nil => rw [e] at c; exact absurd rfl c
  | cons i r =>
   rw [e] at hl
   have hr : r = [] := by
    cases r with
    | nil => rfl
    | cons _ _ => simp at hl
   subst hr
   refine .inr ⟨i, ?_⟩
   rw [parts_two, glued_two]
theorem repl1_list (x y z : Str) : (repl1 x y z).cps.toList = x.cps.toList ∨ ∃ i : Nat, (repl1 x y z).cps.toList = x.cps.toList.take i ++ z.cps.toList ++ x.cps.toList.drop (i + y.length) := by
 rcases repl1_form x y z with h | ⟨i, h⟩
 ·exact .inl (by rw [h])
 ·refine .inr ⟨i, ?_⟩
  have hx : x.length = x.cps.toList.length := Array.length_toList.symm
  rw [h]
  show (x.cps.extract 0 i ++ z.cps ++ x.cps.extract (i + y.length) x.length).toList = _
  rw [Array.toList_append, Array.toList_append, Array.toList_extract, Array.toList_extract, hx]
  simp [List.extract_eq_drop_take]
  exact List.take_of_length_le (by rw [List.length_drop, Array.length_toList]; omega)
theorem repl1_self (x y : Str) : repl1 x y y = x := by
 unfold repl1
 split
 ·rfl
 ·exact StrLaws.glued_between_self x y _
theorem booked {K : PySem.W.Frag} {h : Heap} (X : K.In h) (N : h.NoLimit) (e : PySem.W.nsIn K cStatics sharingNotToldKey = some none) : NoneBooked h := by
 obtain ⟨mc, G, _⟩ := N
 refine ⟨mc, G, ?_⟩
 obtain ⟨o, es, ep, ho, hd, _, hf⟩ := G
 unfold PySem.W.nsIn at e
 split at e
 ·rename_i c d es' n' sl q
  have := X _ _ q
  rw [ho] at this
  cases this
  cases hd
  split at e
  ·cases e
  ·rename_i he
   rw [← hf]
   unfold nsFind findBy
   rw [← Array.find?_toList, he]
   rfl
 ·cases e
theorem repS_list (a : Array Nat) : ∀ (n : Nat) (acc : Array Nat), ((List.replicate n a).foldl (· ++ ·) acc).toList = acc.toList ++ (List.replicate n a.toList).flatten
 | 0, acc => by simp
 | n + 1, acc => by
  rw [List.replicate_succ, List.foldl_cons, repS_list a n, Array.toList_append, List.replicate_succ, List.flatten_cons, List.append_assoc]
def repS (y : Str) (k : Int) : Str := ⟨(List.replicate k.toNat y.cps).foldl (· ++ ·) #[]⟩
theorem repS_toList (y : Str) (k : Int) : (repS y k).cps.toList = (List.replicate k.toNat y.cps.toList).flatten := by
 show ((List.replicate k.toNat y.cps).foldl (· ++ ·) #[]).toList = _
 rw [repS_list]
 rfl
theorem repS_len {y : Str} (hy : y.length = 1) (k : Int) : (repS y k).length = k.toNat := by
 have h : (repS y k).length = (repS y k).cps.toList.length := Array.length_toList.symm
 have h1 : y.cps.toList.length = 1 := hy
 rw [h, repS_toList, List.length_flatten, List.map_replicate, h1, List.sum_replicate_nat]
 omega
theorem repS_one (y : Str) : repS y 1 = y := by
 unfold repS
 show (⟨#[] ++ y.cps⟩ : Str) = y
 rw [Array.empty_append]
def tRep1 (to tk : TE) (y : Str) : TE := fun σ H Q => to σ H fun v H1 => ∃ x : Str, v = .str x ∧ x.length ≤ 10000 ∧ tk σ H1 fun w H2 => ∃ k : Int, w = .int k ∧ 1 ≤ k ∧ k ≤ 1000 ∧ Q (.str (repl1 x y (repS y k))) H2
section
variable {X : Cx} {o e : Expr} {te : TE} {to tk : TE} {y : Str} {j1 j2 j3 : Nat} {c0 c1 c2 apos pos pm : Pos}
theorem pet_rep1 (ho : PE X o to) (hk : PE X e tk) (nb : PySem.W.nsIn X.K cStatics sharingNotToldKey = some none) (hy : y.length = 1 := by decide)
  (hst : starEach [.Constant (.str y) j1 c0, .BinOp (.Constant (.str y) j2 c1) .Mult e pm, .Constant (.int 1) j3 c2] X.env = [(false, eval (.Constant (.str y) j1 c0) X.env), (false, eval (.BinOp (.Constant (.str y) j2 c1) .Mult e pm) X.env), (false, eval (.Constant (.int 1) j3 c2) X.env)] := by rfl)
  (hbase : attributeBase o "replace" X.env (eval o X.env) = eval o X.env := by rfl) (hline : (apos.endLine == pos.line) = true := by rfl) :
  PET X (.Call (.Attribute o "replace" apos) [.Constant (.str y) j1 c0, .BinOp (.Constant (.str y) j2 c1) .Mult e pm, .Constant (.int 1) j3 c2] [] pos) (tRep1 to tk y) := by
 intro pins s σ H Q h0 I h
 refine PySem.wpAny_Call_method_lateS hbase (by rw [hst]; rfl) hline ?_
 rw [hst]
 suffices key : wpAny (model X.prog X.w) X.A (eval o X.env) (fun ov s₁ => MethodOnS X.prog X.w X.A X.xe "replace" ov pos [(false, eval (.Constant (.str y) j1 c0) X.env), (false, eval (.BinOp (.Constant (.str y) j2 c1) .Mult e pm) X.env), (false, eval (.Constant (.int 1) j3 c2) X.env)] (EP X pins σ Q) s₁) X.xe s by exact key
 refine wpAny_mono (PySem.wpAny_toks (ho.run pins s σ H _ I h)) (fun v s1 q => ?_) fun _ _ z => z.2
 obtain ⟨hk1, v', H1, I1, r1, x, e1, hx, q⟩ := q
 subst e1
 obtain ⟨tx, e2⟩ := r1
 subst e2
 refine ⟨"str", _, PySem.F.plainAttrs_str, PySem.F.slot_str_replace, PySem.F.type_str_replace, typeIs_str _ _ _, (fun _ e => nomatch e), Calls.callWith_builtin rfl (Calls.evalArgs_plain (Calls.spliced_cons ?_))⟩
 refine Calls.Constant_str (Calls.spliced_cons ?_)
 refine wpAny_BinOp (Calls.Constant_str ?_)
 refine wpAny_mono (PySem.wpAny_toks (hk.run pins _ σ H1 _ ((I1.tok (s1.toks + 1)).tok (s1.toks + 1 + 1)) q)) (fun w s3 q => ?_) fun _ _ z => z.2
 obtain ⟨hk3, w', H2, I3, r3, k, e3, k1, k2, q⟩ := q
 subst e3
 obtain ⟨tw, e4⟩ := r3
 subst e4
 have hk4 : s1.toks + 2 ≤ s3.toks := hk3
 have h63 : (decide (k < -(2 ^ 63 : Int)) || decide (k ≥ 2 ^ 63)) = false := by
  rw [decide_eq_false (by omega), decide_eq_false (by omega)]; rfl
 have fin : ∀ (v : Tok) (s4 : Shared), s1.toks + 1 ≤ v → Inv X pins σ H2 s4 →
   wpAny (model X.prog X.w) X.A (spliced [(false, eval (.Constant (.int 1) j3 c2) X.env)]) (fun vs s5 => wpAny (model X.prog X.w) X.A (call (.builtin "str.replace") (.str x tx :: .str y s1.toks :: .str (repS y k) v :: vs)) (EP X pins σ Q) X.xe s5) X.xe s4 := by
  intro v s4 hv I4
  refine Calls.spliced_cons (thn (pe_int.run pins s4 σ H2 (fun y H' => y = .int 1 ∧ H' = H2) I4 ⟨rfl, rfl⟩) fun u s5 ⟨y1, H5, I5, r5, e5, e6⟩ => Calls.spliced_nil ?_)
  subst e5 e6
  obtain ⟨t5, e7⟩ := r5
  subst e7
  have hu0 : s1.toks ≠ 0 := Nat.ne_of_gt (Nat.lt_of_lt_of_le Nat.zero_lt_one (Nat.le_trans h0 hk1))
  have hv0 : v ≠ 0 := Nat.ne_of_gt (Nat.lt_of_lt_of_le (Nat.succ_pos _) hv)
  have huv : s1.toks ≠ v := Nat.ne_of_lt hv
  have zl := repS_len hy k
  have ol := StrLaws.occ_length_le x y 0 x.length 1
  have hl : tooLong (x.length + (occurrences x y 0 x.length 1).length * (repS y k).length) = false := by
   have h2 : (occurrences x y 0 x.length 1).length * (repS y k).length ≤ 1 * (repS y k).length := Nat.mul_le_mul_right _ ol
   unfold tooLong sizeLine
   exact decide_eq_false (by omega)
  have fits : (repl1 x y (repS y k)).length ≤ sizeLine := by
   have e : (repl1 x y (repS y k)).length = (repl1 x y (repS y k)).cps.toList.length := Array.length_toList.symm
   have ex : x.length = x.cps.toList.length := Array.length_toList.symm
   have ez : (repS y k).length = (repS y k).cps.toList.length := Array.length_toList.symm
   rw [e, sizeLine_eq]
   rcases repl1_list x y (repS y k) with h | ⟨i, h⟩
   ·rw [h]; omega
   ·rw [h, List.length_append, List.length_append, List.length_take, List.length_drop]
    omega
  have E : ∀ t k', EP X pins σ Q (.str (repl1 x y (repS y k)) t) { s5 with toks := k' } := fun t k' => ⟨.str (repl1 x y (repS y k)), _, I5.tok k', ⟨t, rfl⟩, q⟩
  refine call_givesAt F.slot_str_replace (typeIs_str _ _ _) F.entry_str_replace (F.args_str_replace_4 _ _ _ _)
   (gives_rep1 x y (repS y k) tx s1.toks v t5 fun _ => ⟨by simp [hu0, hv0], by simp [huv], hl⟩) (booked I5.kIn I5.nolimit nb) ?_
  cases hc : ((occurrences x y 0 x.length 1).isEmpty || (y.length == 0 && (repS y k).length == 0))
  ·have er : repl1 x y (repS y k) = glued (repS y k) (partsBetween x (occurrences x y 0 x.length 1) y.length) := by
    unfold repl1; rw [hc]; rfl
   simp only [Bool.false_eq_true, if_false]
   cases hyz : (y == repS y k)
   ·simp only [Bool.false_eq_true, if_false]
    rw [← er]
    exact ⟨fits, E _ _⟩
   ·simp only [if_true]
    have ey : y = repS y k := eq_of_beq hyz
    have es : repl1 x y (repS y k) = x := by rw [← ey]; exact repl1_self x y
    rw [← er]
    refine ⟨?_, fits, E _ _⟩
    have := E tx s5.toks
    rw [es] at this
    exact this
  ·have es : repl1 x y (repS y k) = x := by unfold repl1; rw [hc]; rfl
   simp only [if_true]
   have := E tx s5.toks
   rw [es] at this
   exact this
 have k0 : ¬ k < 1 := by omega
 refine PySem.P.mul_str h63 (fun _ _ => ?_) (fun _ _ => ?_) ?_
 ·have : (1 : Int) ≤ (2 ^ 63 - 1) / k := Int.le_ediv_of_mul_le (by omega) (by omega)
  omega
 ·unfold tooLong sizeLine
  rw [hy]
  exact decide_eq_false (by omega)
 ·rw [if_neg k0]
  by_cases h1 : k = 1
  ·subst h1
   rw [if_pos (by rfl)]
   have := fin (s1.toks + 1) s3 (by omega) I3
   rw [repS_one] at this
   exact this
  ·rw [if_neg (by rw [Bool.or_eq_true]; rintro (h | h); exact h1 (eq_of_beq h); rw [hy] at h; cases h)]
   refine ⟨by have := repS_len hy k; show (repS y k).length ≤ sizeLine; rw [this, sizeLine_eq]; omega, ?_⟩
   exact fin s3.toks { s3 with toks := s3.toks + 1 } (by omega) (I3.tok _)
theorem ps_ifT {x : Str} {px pc pt pos : Pos} {n : Int} {j i : Nat} {r : R2} {body : List Stmt} {t : TS} (hn : PE X (.Name x px) te) (ho : OpR X (compareOp .Eq) r) (hb : PSsT X body t) :
  PS X (.If (.Compare (.Name x px) [.Eq] [.Constant (.int n) j pc] pt) body [] pos) (tIfS (tTest (tOp r te (tC (.int n)))) t tNext) := by
 refine ⟨fun pins s σ H D I h => ?_⟩
 refine wpAny_If (wpAny_isTrue_Compare1 (thn (hn.run pins s σ H _ I h) fun v s1 ⟨y, H1, I1, r1, q1⟩ => ?_))
 refine wpAny_Constant_int ?_
 refine wpAny_mono (PySem.wpAny_toks (ho pins { s1 with toks := s1.toks + 1 } σ H1 y (.int n) v _ _ (I1.tok _) r1 ⟨_, rfl⟩ q1)) (fun c s3 q => ?_) fun _ _ z => z.2
 obtain ⟨hk, z, H3, I3, r3, k, e, q3⟩ := q
 subst e
 cases r3
 have h1 : 1 ≤ s3.toks := Nat.le_trans (Nat.succ_le_succ (Nat.zero_le _)) hk
 refine wpAny_truthy_bool ?_
 cases k with
 | true => exact hb pins s3 σ H3 D h1 I3 q3
 | false => exact pss_nil.run pins s3 σ H3 D I3 q3
end
end SL
set_option Elab.async false
set_option linter.all false
set_option maxRecDepth 100000
set_option maxHeartbeats 2000000
noncomputable section
namespace SL
open PySem PySem.W PySem.Calls PyProof.Rows HandSHeadRun
section
variable (st : SharedT → Thread → Option (SharedT × Thread)) (n0 : Nat) (ann : Option Value)
def segF : Nat → SharedT → Thread → Option (Flow × SharedT × Code × Pos)
 | 0, _, _ => none
 | m + 1, s, t => match endAt 1 t with
  | some f => some (f, s, t.code, t.pos)
  | none => match stepOk n0 ann t with
   | false => none
   | true => match st s t with
    | some (s', t') => frS s' fun s' => segF m s' t'
    | none => none
def topF : Nat → SharedT → Thread → Option (SharedT × Thread)
 | 0, s, t => some (s, t)
 | m + 1, s, t => match through t with
  | true => none
  | false => match stepOk n0 ann t with
   | false => none
   | true => match st s t with
    | some (s', t') => frS s' fun s' => topF m s' t'
    | none => none
end
section
variable {tb : String → Option Builtin} {p : Program} {w : World} {n0 : Nat} {ann : Option Value}
theorem segF_eq : ∀ (m : Nat) (s : SharedT) (t : Thread), segF (stepT (denote tb) p w) n0 ann m s t = segRunT tb p w n0 ann 1 m s t
 | 0, _, _ => rfl
 | m + 1, s, t => by
  unfold segF segRunT
  cases endAt 1 t with
  | some f => rfl
  | none =>
   cases stepOk n0 ann t with
   | false => rfl
   | true =>
    cases stepT (denote tb) p w s t with
    | none => rfl
    | some r =>
     obtain ⟨s2, t2⟩ := r
     show frS s2 (fun s' => segF (stepT (denote tb) p w) n0 ann m s' t2) = _
     rw [frS_eq]
     exact segF_eq m s2 t2
theorem seg_ok {m : Nat} {s s' : SharedT} {t : Thread} {f : Flow} {c : Code} {q : Pos} (h : segF (stepT (denote tb) p w) n0 ann m s t = some (f, s', c, q)) : segRun tb p w n0 ann 1 m s.abs t = some (f, s'.abs, c, q) :=
 segRun_of (by rw [← segF_eq]; exact h)
theorem topF_ok : ∀ {m : Nat} {s s' : SharedT} {t t' : Thread}, topF (stepT (denote tb) p w) n0 ann m s t = some (s', t') → topGo tb p w n0 ann m s.abs t = some (s'.abs, t')
 | 0, s, s', t, t', h => by cases h; rfl
 | m + 1, s, s', t, t', h => by
  unfold topF at h
  unfold topGo
  cases ht : through t with
  | true => rw [ht] at h; cases h
  | false =>
   rw [ht] at h
   cases hk : stepOk n0 ann t with
   | false => rw [hk] at h; cases h
   | true =>
    rw [hk] at h
    cases hs : stepT (denote tb) p w s t with
    | none => rw [hs] at h; cases h
    | some r =>
     obtain ⟨s2, t2⟩ := r
     rw [hs] at h
     rw [stepT_spec hs]
     have h2 : frS s2 (fun s' => topF (stepT (denote tb) p w) n0 ann m s' t2) = some (s', t') := h
     rw [frS_eq] at h2
     exact topF_ok h2
end
def stQ (p : Program) (w : World) : SharedT → Thread → Option (SharedT × Thread) := stepQ (denQ tabQ) p w
theorem stQ_eq (p : Program) (w : World) : stQ p w = stepT (denote treeTable) p w := by unfold stQ; rw [stepQ_eq, denQ_eq, tabQ_eq]
theorem boot_ok {p : Program} {w : World} {os : OsState} {m n : Nat} {T : BT} {s : SharedT} {t : Thread} (hT : putAll (boot_heap w.params).objs.toList .nil 0 = some (T, n)) (h : topF (stQ p w) n (bootAnn w) m (bootT w os (T, n)) (topStub p) = some (s, t)) :
  (boot_heap w.params).objs.size = n ∧ topGo treeTable p w n (bootAnn w) m ⟨boot_heap w.params, #[], boot_drawn, boot_toks, os⟩ (topStub p) = some (s.abs, t) := by
 have eh := putAll_heap hT
 have en : (boot_heap w.params).objs.size = n := by
  rw [← eh]
  exact absHeap_size T n _
 refine ⟨en, ?_⟩
 rw [stQ_eq] at h
 have z := topF_ok h
 have eb : (bootT w os (T, n)).abs = ⟨boot_heap w.params, #[], boot_drawn, boot_toks, os⟩ := by
  show (⟨absHeap T n (boot_heap w.params).life, #[], boot_drawn, boot_toks, os⟩ : Shared) = _
  rw [eh]
 rw [eb] at z
 exact z
abbrev DoneAt (p q : Program) (loose : List Str) (Xt : Shared → Bool) {α : Type} (Yf : Shared → α) (y : α) (M : Nat) (w : World) (os : OsState) : Prop :=
 ∃ s : Shared, topRun treeTable p w (boot_heap w.params).objs.size (bootAnn w) M ⟨boot_heap w.params, #[], boot_drawn, boot_toks, os⟩ (topStub p) = some s ∧
  looksF p (boot_heap w.params) s = true ∧ openSeen q loose (importedModules p.main.body) Xt true s = openGood q loose ∧ Yf s = y
theorem left_cut {p q : Program} {loose : List Str} {Xt : Shared → Bool} {α : Type} {Yf : Shared → α} {Ya : World → α} {N M : Nat}
  (plain : opening p = plainProg p.main.scope.names) (big : Nat.ble 600 N = true) (fence : ∀ s, fenceModules? p s = some s) (le : Nat.ble M N = true)
  (run : ∀ (w : World) (os : OsState), DoneAt p q loose Xt Yf (Ya w) M w os) : LeftO p q loose Xt Yf Ya N true := fun w => by
 have ⟨s0, opened, parts⟩ := Option.map_eq_some_iff.mp (boot_open plain big fence w)
 have is_boot : s0 = ⟨boot_heap w.params, #[], boot_drawn, boot_toks, s0.os⟩ := by
  cases s0
  simp only [Prod.mk.injEq] at parts
  simp only [parts]
 have ⟨s, ran, looked, seen, val⟩ := run w s0.os
 have longer := topRun_mono (N - M) _ _ _ _ ran
 rw [Nat.add_sub_cancel' (Nat.le_of_ble_eq_true le)] at longer
 have ends : topFrom treeTable p w N ⟨boot_heap w.params, #[], boot_drawn, boot_toks, s0.os⟩ = some s := by
  simp only [topFrom, boot_ns]
  refine (congrArg (fun r => Option.bind r _) longer).trans ?_
  simp only [Option.bind_some]
  unfold looksF at looked
  simp only [looked]
 rw [openEnds, opened, Option.bind_some, is_boot, ends]
 exact congrArg some (Prod.ext seen val)
theorem head_cut {r : OpenRow} {q : Program} {H : Hook} {M : Nat} {loose : List PySem.Str} {d : DefRec} {kwd : List (PySem.Str × PySem.Expr)}
  (e : opening r.prog = plainProg r.prog.main.scope.names) (f : ∀ s, fenceModules? r.prog s = some s)
  (run : ∀ (w : World) (os : OsState), DoneAt r.prog q loose (fun s => xlAt q [] s && recOk r.toRowW.records s) H.obs (H.val w) M w os)
  (hdef : defOf q r.name = some (d, kwd)) (hp : r.prog.theDef r.name = some (d.params, d.body, d.scope)) (hk : kwWritten? d.params.kwonlyargs d.params.kw_defaults = some kwd)
  (hwr : (!r.writes || r.records.isEmpty) = true) (k1 : r.wellSaid = true) (ok : (chainsOk q && opensWell r.prog && (frees r.toRowW && r.within.isEmpty)) = true) (hb : r.prog.bare) (hw : r.toRowW.promised)
  (call : WalkO q loose (XL q []) H.says r.toRowW d kwd fun f vs => PySem.call f vs) : r.Holds := by
 exact holds_open (r := r) (q := q) (loose := loose) (XP := XL q []) (YP := H.says) (d := d) (kwd := kwd) (left_cut (N := M + 600) e (Nat.ble_eq_true_of_le (by omega)) f (Nat.ble_eq_true_of_le (by omega)) run) H.of H.keeps
  (fun s both => xl_of s (Bool.and_eq_true_iff.mp both).1) XL.keeps hdef hp hk (fun s both => recFacts_of (Bool.and_eq_true_iff.mp both).2) hwr k1 ok hb hw call
def hookK (as : List Addr) (K0 : World → Frag) (h : ∀ w, as = (K0 w).map (·.1)) : Hook where
 α := List (Option Obj)
 obs := fun s => as.map s.heap.get?
 val := fun w => (K0 w).map fun p => some p.2
 says := fun w h => (K0 w).In h
 of := fun w s e => Frag.in_of (h w) e
 keeps := fun _ _ _ h k => h.keeps k
theorem hookK_obs {as : List Addr} {K0 : World → Frag} {h : ∀ w, as = (K0 w).map (·.1)} {s : SharedT} {l : List (Option Obj)} (e1 : as.map (getT s) = l) : (hookK as K0 h).obs s.abs = l := by
 have e : getT s = s.abs.heap.get? := funext (getT_eq s)
 rw [← e1, e]
 rfl
end SL
set_option Elab.async false
set_option linter.all false
set_option maxRecDepth 100000
set_option maxHeartbeats 2000000
namespace SL
open PySem PySem.Spec PyProof.Rows L2 L2H
structure Swap (L : Addr) (m m' : Str → Option Value) (h h' : Heap) : Prop where
 was : h.Ns L m
 now : h'.Ns L m'
 off : Heap.SameBut L h h'
namespace Swap
variable {L e b : Addr} {m m' : Str → Option Value} {h h' base : Heap} {o : Obj} {Z : Obj → Prop}
theorem far (x : Swap L m m' h h') (ne : b ≠ L) (q : h.get? b = some o) : h'.get? b = some o := by
 rw [x.off.2 b ne]
 exact q
theorem recd (x : Swap L m m' h h') {vs : Array Value} (q : h.get? b = some o) (dd : o.data = .fields vs) : h'.get? b = some o := by
 refine x.far (fun z => ?_) q
 obtain ⟨oD, es, ep, at_L, is_dict, -⟩ := x.was
 rw [z, at_L, Option.some.injEq] at q
 rw [q, dd] at is_dict
 nomatch is_dict
theorem traced (x : Swap L m m' h h') {fl : Value} : HandSPX.TracedZ h base e Z fl → HandSPX.TracedZ h' base e Z fl
 | ⟨oe, vs, T, oT, ts, e1, z, d1, f1, n1, ne, e2, d2, f2⟩ => ⟨oe, vs, T, oT, ts, x.recd e1 d1, z, d1, f1, n1, ne, x.recd e2 d2, d2, f2⟩
theorem held (x : Swap L m m' h h') (free : base.get? L = none) {l : List Env} {L' : Addr} : HandSPX.HeldZ base l e Z L' h → HandSPX.HeldZ base l e Z L' h'
 | ⟨stay, new, fr, tr⟩ => ⟨fun _ _ q => x.far (fun z => nomatch (z ▸ free).symm.trans q) (stay _ _ q), new, Heap.FunFrames.sameBut x.off x.now fr, x.traced tr⟩
end Swap
section
variable {M : Model} {A A' : Around} {E : Value → Shared → Prop} {s : Shared} {base : Heap} {e L : Addr} {Z : Obj → Prop}
theorem traced_has {α : Type} {fl : Value} {no yes : Sem α} {Q : α → Shared → Prop} (t : HandSPX.TracedZ s.heap base e Z fl) (h : wpAny M A yes Q E s) :
  wpAny M A (field (.ref e) 1 >>= fun x => if (x == Value.none) = true then no else yes) Q E s := by
 obtain ⟨_, _, T, _, _, at_e, _, dat, at_1, -⟩ := t
 exact wpAny_bind (wpAny_field at_e dat at_1 (by rw [if_neg (by simp : ¬ (Value.ref T == Value.none) = true)]; exact h))
theorem name_goes {env : Env} {outer : List Env} {n : Str} {pos : Pos} {m : Str → Option Value} {E₂ : Value → Shared → Prop}
  (own : env.frame = some L) (loc : env.locals = L) (hh : HandSPX.HeldZ base (env :: outer) e Z L s.heap) (hn : s.heap.Ns L m) (isL : env.kindOf n = some .local)
  (plain : (env.scope.kind == .class || (env.scope.kind == .module && env.locals != env.globals)) = false)
  (hQ : ∀ hN v h', Swap L m (fun x => if x = n then v else m x) s.heap hN → hN.UpToSlots h' → HandSPX.HeldZ base (env :: outer) e Z L h' → E (.ref e) { s with heap := h', toks := s.toks + 1 }) :
  wpAny M A' (do bindName env n .none; unbindBehindTheSuite env n pos)
   (fun _ s' => wpAny M A' (PySem.passOn "try.except-as" (.ref e) env : Sem Flow) (fun _ _ => False) (notedBy M A' env (cameBackBy M A env E)) s') E₂ s := by
 have free : base.get? L = none := by
  obtain ⟨-, -, ⟨-, ⟨_, _, own', none', -⟩, -⟩, -⟩ := hh
  obtain rfl := Option.some.inj (own.symm.trans own')
  exact none'
 refine wpAny_nameGoes_keeps isL (by rw [loc]; exact hn) plain fun hN v now off => ?_
 have sw : Swap L m (fun x => if x = n then v else m x) s.heap hN := ⟨hn, loc ▸ now, loc ▸ off⟩
 have h1 := sw.held free hh
 unfold PySem.passOn
 refine traced_has (s := { s with heap := hN, toks := s.toks + 1 }) h1.2.2.2 ?_
 rw [own]
 refine wpAny_bind (HandSPX.setFlight_onZ h1 fun _ h2 up2 => wpAny_throw ?_)
 refine HandSPX.againZ own h2.2.2.2 (traced_has (yes := setFlight (.ref e) env.frame) h2.2.2.2 ?_)
 rw [own]
 exact HandSPX.setFlight_onZ h2 fun _ h3 up3 => hQ _ _ _ sw (up2.trans up3) h3
end
section
variable {X : Cx} {pins : List (Addr × Obj)} {σ : L2.St} {H : Hp} {s : Shared}
theorem name_gone {i : Nat} {n : Str} {h' : Heap} {t' : Nat} {m : Str → Option Value} {v : Option Value} (I : Inv X pins σ H s) (nd : X.N.Nodup) (hi : X.N[i]? = some n)
  (look : ∀ (i : Nat) (x : Str) (v : V), X.N[i]? = some x → σ[i]? = some (some v) → Vis X.env.scope x → ∃ u, RelV v u ∧ Look X.env s.heap m x u)
  (sw : Swap X.env.locals m (fun x => if x = n then v else m x) s.heap h') : Inv X pins (σ.set i none) H { s with heap := h', toks := t' } where
 ok := I.ok
 os := I.os
 bare := I.bare
 base :=
  have low : ∀ {b o}, X.s_0.heap.get? b = some o → b ≠ X.env.locals := fun q z => absurd (Heap.lt_size q) (Nat.not_lt.mpr (z ▸ I.ok.above))
  {
   keep := fun _ _ q f1 f2 f3 => sw.far (low q) (I.base.keep _ _ q f1 f2 f3)
   slot := fun _ _ q f1 f2 f3 => (I.base.slot _ _ q f1 f2 f3).imp fun _ r => sw.far (low q) r
   free := I.base.free
   there := fun _ _ q f => (I.base.there _ _ q f).imp fun _ r => sw.far (low q) r
   tups := I.base.tups
   frzs := I.base.frzs
   tbls := I.base.tbls
  }
 loc := by
  refine ⟨_, sw.now, fun j y w at_j has vis => ?_⟩
  have ji : i ≠ j := fun z => by
   subst z
   rw [List.getElem?_set] at has
   split at has
   ·split at has <;> cases has
   ·contradiction
  rw [List.getElem?_set_ne ji] at has
  refine (look j y w at_j has vis).imp fun u r => ⟨r.1, r.2.imp (fun z => ⟨z.1, ?_⟩) fun z => ⟨z.1, z.2.imp fun c w => ⟨w.1, w.2.sameBut sw.off (I.cne _ _ w.1)⟩⟩⟩
  exact (if_neg fun same : y = n => ji (nodup_ix nd hi (same ▸ at_j))).trans z.2
 cell := fun _ _ q => (I.cell _ _ q).imp fun _ z => z.sameBut sw.off (I.cne _ _ q)
 free := I.free
 freeC := I.freeC
 pin := fun p hp => have ⟨q, r⟩ := I.pin p hp; ⟨sw.far r.2.1 q, r⟩
 hok := fun b ob q => (I.hok b ob q).stay (fun c w own at_c => sw.far (fun z => by
   subst z
   have no := I.free
   rcases own with rfl | own
   ·exact nomatch no.symm.trans q
   ·exact nomatch no.symm.trans own) at_c) (fun _ z => z) fun _ _ z => z
 len := by rw [List.length_set]; exact I.len
end
section
variable {X Y : Cx} {pins ps : List (Addr × Obj)} {D : Ends}
theorem sp_map (k : ∀ σ H s, Inv Y ps σ H s → Inv X pins σ H s) {s : Shared} : ∀ {f : Flow}, SP Y ps D f s → SP X pins D f s
 | .next, h | .brk, h | .cont, h => h.imp fun _ => .imp fun _ => .imp_left (k _ _ _)
 | .ret _, h => h.imp fun _ => .imp fun _ => .imp fun _ => .imp_left (k _ _ _)
theorem sp_gone {M : Model} {A : Around} {E : Value → Shared → Prop} {i : Nat} {n : Str} {pos : Pos} (nd : X.N.Nodup) (hi : X.N[i]? = some n) (isL : X.env.kindOf n = some .local) {s : Shared} {f : Flow}
  (h : SP X pins { nx := fun σ H => D.nx (σ.set i none) H, rt := D.rt, bk := fun σ H => D.bk (σ.set i none) H, ct := fun σ H => D.ct (σ.set i none) H } f s) :
  wpAny M A (do bindName X.env n .none; unbindBehindTheSuite X.env n pos) (fun _ => SP X pins D f) E s := by
 rcases f with _ | _ | _ | u
 case ret => exact h.elim fun v h => h.elim fun σ h => h.elim fun H h => gone_ok h.1 nd hi isL fun _ I => ⟨v, _, H, I, h.2⟩
 all_goals exact h.elim fun σ h => h.elim fun H h => gone_ok h.1 nd hi isL fun _ I => ⟨_, H, I, h.2⟩
structure Down (X : Cx) (pins : List (Addr × Obj)) (a : Addr) (B : Heap) (sI : Shared) (σ : L2.St) (H : Hp) (cls : Value) (d : Option Addr) (s : Shared) : Prop where
 gr : Inv X pins σ H sI
 nb : ∀ b o, sI.heap.get? b = some o → b ∉ frs X.stack → B.get? b = some o
 up : sI.heap.UpToSlots s.heap
 fl : HandSPX.FlyingZ B (X.env :: X.outer) a (L2N.Zn cls d) s.heap
 na : H a = none
 os : s.os = sI.os
 ag : AllBare s.gens
namespace Down
variable {a : Addr} {B : Heap} {sI s : Shared} {σ : L2.St} {H : Hp} {cls : Value} {d : Option Addr} (x : Down X pins a B sI σ H cls d s)
include x
theorem inv : Inv X pins σ H s := x.gr.landed x.nb x.fl.1 x.up x.os x.ag
theorem off : a ∉ frs (X.env :: X.outer) := fun mem => by
 obtain ⟨oe, vs, q, -, dd⟩ := x.fl.there
 obtain ⟨-, _, q', no⟩ := x.fl.2.2.1.mem mem
 obtain rfl := Option.some.inj (q.symm.trans q')
 exact no vs dd
theorem suite (own : X.env.frame = some X.env.locals) : ∃ oe, L2N.Zn cls d oe ∧ (∃ vs, oe.data = .fields vs) ∧ Inv (X.suite a ((a, oe) :: (X.pn ++ pins))) [] σ H s := by
 have in_frs : ∀ {e : Env} {L : Addr}, e ∈ X.env :: X.outer → e.frame = some L → a ≠ L := fun m q z => x.off (List.mem_filterMap.mpr ⟨_, m, z ▸ q⟩)
 obtain ⟨oe, vs, q, hz, dd⟩ := x.fl.there
 exact ⟨oe, hz, ⟨vs, dd⟩, x.inv.suite q dd x.na (in_frs List.mem_cons_self own) fun mem => by
  obtain ⟨e, me, q⟩ := List.mem_filterMap.mp mem
  exact in_frs (List.mem_cons_of_mem _ me) q rfl⟩
theorem again {M : Model} {A : Around} {E : Value → Shared → Prop} {Q : Unit → Shared → Prop} (h : ∀ h', Down X pins a B sI σ H cls d { s with heap := h' } → Q () { s with heap := h' }) : wpAny M A (setFlight (.ref a) none) Q E s :=
 HandSPX.lands_againZ x.fl fun h' fl up => h h' ⟨x.gr, x.nb, x.up.trans up, fl, x.na, x.os, x.ag⟩
theorem reads (own : X.env.frame = some X.env.locals) {n : Str} {c : Value} {p : Pos} (hc : Names X n c) {Q : Value → Shared → Prop} {E : Value → Shared → Prop} (h : Q c s) : wpAny (model X.prog X.w) (X.A.mark (some (.ref a))) (eval (.Name n p) X.env) Q E s := by
 obtain ⟨oe, -, -, S⟩ := x.suite own
 obtain ⟨g, dbg, m | ⟨m, v, nn⟩⟩ := hc
 ·exact ld_glob (X := X.suite a ((a, oe) :: (X.pn ++ pins))) S g m h dbg
 ·exact ld_blt (X := X.suite a ((a, oe) :: (X.pn ++ pins))) S g m v h nn dbg
theorem asked {c : Value} {b : Bool} (hb : PySem.W.exmOne X.K cls c = some b) : PySem.W.Looks (model X.prog X.w) s.heap (excMatches (.ref a) c) b := by
 obtain ⟨oe, vs, q, hz, -⟩ := x.fl.there
 exact PySem.W.exm_one x.inv.kIn (fun _ _ _ _ k r => wpAny_typeOf_ref (k _ _ q) (by rw [hz.1]; exact r)) hb
theorem goes_on (own : X.env.frame = some X.env.locals) (hs : X.stack = X.env :: X.outer) {W : WX} (tk : L2.Takes X W) (w : W cls d σ H) {Q : Flow → Shared → Prop} : wpAny (model X.prog X.w) X.A (handleBy (.ref a) X.env []) Q X.xe s := by
 refine wpAny_handleBy_nil ?_
 unfold PySem.passOn
 refine traced_has x.fl.2.2.2 ?_
 rw [own]
 refine wpAny_bind (HandSPX.setFlight_upZ (flyingZ_imp (fun _ z => z.zc) x.fl) fun h' hh up => wpAny_throw (tk _ _ ?_))
 exact ⟨a, B, sI, pins, σ, H, cls, d, rfl, x.gr, x.nb, x.up.trans up, .inr (.inr (hs ▸ hh)), x.na, x.os, x.ag, w⟩
end Down
end
section
variable {B : Heap}
theorem sky_hand {M : Model} {A : Around} {E : Value → Shared → Prop} {env : Env} {outer : List Env} {L a : Addr} {Z : Obj → Prop} {Q : Unit → Shared → Prop} {s : Shared} (hZ : HandSPX.Steady Z) (hfr : A.frames = some (env :: outer)) (own : env.frame = some L) :
  Sky B (env :: outer) a Z L s.heap → (∀ h', HandSPX.HeldZ B (env :: outer) a Z L h' → s.heap.UpToSlots h' → Q () { s with heap := h' }) → wpAny M A (noteFrame (.ref a) env) Q E s
 | .inl ⟨stay, new, fr, _, _, q, z, dd, at_1⟩, hQ => HandSPX.look_newZ hZ hfr fr own q stay new dd at_1 z hQ
 | .inr (.inl fl), hQ => HandSPX.looks_onZ hZ hfr own fl hQ
 | .inr (.inr hh), hQ => HandSPX.againZ own hh.2.2.2 (hQ _ hh (Heap.UpToSlots.refl _))
abbrev suiteE (X : Cx) (a : Addr) (pn : List (Addr × Obj)) (xe : Value → Shared → Prop) : Cx := { X with A := X.A.mark (some (.ref a)), calm := false, pn := pn, xe := xe }
end
section
variable {X : Cx} {x n : Str} {c : Value} {i : Nat} {body suite : List Stmt} {b₀ : Stmt} {np pos pos' : Pos} {tb : WX → TS} {ts : Addr → Value → Option Addr → TS} {Wout : WX}
theorem unsuiteE {a : Addr} {q : Addr × Obj} {pins ps : List (Addr × Obj)} {xe : Value → Shared → Prop} (ok : X.Ok) (σ : L2.St) (H : Hp) (s : Shared) (I : Inv (suiteE X a (q :: (X.pn ++ pins)) xe) ps σ H s) : Inv X pins σ H s := unsuiteX (I.wish X.xe) ok
theorem suite_leaves {a : Addr} {q : Addr × Obj} {pins : List (Addr × Obj)} {xe : Value → Shared → Prop} (hs : X.stack = X.env :: X.outer) (own : X.env.frame = some X.env.locals) (nd : X.N.Nodup) (hi : X.N[i]? = some n) (isL : X.env.kindOf n = some .local) (ok : X.Ok) (tk : L2.Takes X Wout)
  {u : Value} {s : Shared} (xx : L2.XE (suiteE X a (q :: (X.pn ++ pins)) xe) (fun cls d σ H => Wout cls d (σ.set i none) H) u s) {R : Value → Shared → Prop} {E₂ E₃ : Value → Shared → Prop} (hR : R = cameBackBy (model X.prog X.w) X.A X.env X.xe) :
  wpAny (model X.prog X.w) (X.A.mark (some (.ref a))) (noteFrame u X.env) (fun _ s₃ =>
   wpAny (model X.prog X.w) (X.A.mark (some (.ref a))) (do bindName X.env n .none; unbindBehindTheSuite X.env n pos')
    (fun _ s₄ => wpAny (model X.prog X.w) (X.A.mark (some (.ref a))) (PySem.passOn "try.except-as" u X.env : Sem Flow) (fun _ _ => False) (notedBy (model X.prog X.w) (X.A.mark (some (.ref a))) X.env R) s₄) E₂ s₃) E₃ s := by
 subst hR
 obtain ⟨e, B, sI, ps, σ, H, cls, d, rfl, I, nb, up, sky, na, os, ag, w⟩ := xx
 have I0 := unsuiteE ok _ _ _ I
 refine sky_hand (B := B) (L := X.env.locals) Zc.steady (by rw [← hs]; exact ok.frames) own (hs ▸ sky) fun h1 hh up1 => ?_
 have all1 := up.trans up1
 obtain ⟨m, hn, look⟩ := id I0.loc
 refine name_goes (s := { s with heap := h1 }) (m := m) own rfl hh (all1.ns hn) isL (by rw [ok.kind]; rfl) fun hN v h' sw up2 hh' => ?_
 obtain ⟨oN, es, ep, at_N, dict_N, keys⟩ := id sw.now
 obtain ⟨oI, _, _, at_I, dict_I, _⟩ := id hn
 have now : (sI.heap.update X.env.locals fun _ => oN).get? X.env.locals = some oN := Heap.get?_update_self _ at_I (Obj.isFreed_of_dict dict_N)
 have sw0 : Swap X.env.locals m (fun x => if x = n then v else m x) sI.heap (sI.heap.update X.env.locals fun _ => oN) := ⟨hn, ⟨oN, es, ep, now, dict_N, keys⟩, Heap.SameBut.update _ _ _⟩
 have of0 : ∀ {b o}, b ≠ X.env.locals → (sI.heap.update X.env.locals fun _ => oN).get? b = some o → sI.heap.get? b = some o := fun ne q => by rw [← sw0.off.2 _ ne]; exact q
 refine tk _ _ ⟨e, B, _, pins, _, H, cls, d, rfl, name_gone (t' := sI.toks) I0 nd hi look sw0, fun b o q no => nb b o (of0 (fun z => no ?_) q) no, fun b o q rec_no => ?_, .inr (.inr (hs ▸ hh')), na, os, ag, w⟩
 ·rw [z, hs]
  exact List.mem_filterMap.mpr ⟨X.env, List.mem_cons_self, own⟩
 ·by_cases z : b = X.env.locals
  ·subst z
   cases now.symm.trans q
   exact up2 _ _ at_N rec_no
  ·obtain ⟨sl, q1⟩ := all1 b o (of0 z q) rec_no
   exact (up2 b _ (sw.far z q1) rec_no).imp fun _ r => r
theorem caught (hs : X.stack = X.env :: X.outer) (hf : X.env.frame = some X.env.locals) (hN : X.N.Nodup) (hi : X.N[i]? = some n) (hln : X.env.kindOf n = some .local) (hc : Names X x c) (tk : L2.Takes X Wout) (ok : X.Ok)
  (hsu : ∀ (a : Addr) (oe : Obj) (cls : Value) (d : Option Addr) (pn : List (Addr × Obj)) (xe : Value → Shared → Prop), L2N.Zn cls d oe → (∃ vs, oe.data = .fields vs) → L2.Takes (suiteE X a ((a, oe) :: pn) xe) (fun cls d σ H => Wout cls d (σ.set i none) H) →
   HotC (suiteE X a ((a, oe) :: pn) xe) → PSs (suiteE X a ((a, oe) :: pn) xe) (b₀ :: suite) (ts a cls d))
  {pins : List (Addr × Obj)} {D : Ends} {xe : Value → Shared → Prop} {u : Value} {s : Shared} (xx : L2N.XE (X.tr (X.pn ++ pins) xe) (wAs X.K c i ts Wout D) u s) :
  wpAny (model X.prog X.w) X.A (noteFrame u X.env) (fun _ s₂ => wpAny (model X.prog X.w) X.A (setFlight u none) (fun _ s₃ =>
   wpAny (model X.prog X.w) X.A (handleBy u X.env [.ExceptHandler (some (.Name x np)) (some n) (b₀ :: suite) pos']) (SP X pins D) X.xe s₃) X.xe s₂) X.xe s := by
 obtain ⟨a, B, sI, ps, σ, H, cls, d, rfl, J, nb, up, sky, na, os, ag, b, is_b, yes, no⟩ := xx
 refine L2N.Sky.land L2N.Zn.steady (by rw [← hs]; exact ok.frames) hf (hs ▸ sky) fun h1 fl up1 => ?_
 have dn : Down X pins a B sI σ H cls d { s with heap := h1 } := ⟨J.ofTry ok, nb, up.trans up1, fl, na, os, ag⟩
 refine wpAny_handleBy_cons (codeAny_handlers_test (dn.reads hf hc ((dn.asked is_b).here ?_))) (by intro q; cases q)
 cases b
 ·exact dn.goes_on hf hs tk (no rfl)
 refine codeAny_handlers_suite_as (dn.again fun h2 dn2 => ?_)
 obtain ⟨oe, hz, is_rec, S⟩ := dn2.suite hf
 have hot : ∀ xe, HotC (suiteE X a ((a, oe) :: (X.pn ++ pins)) xe) := fun _ => ⟨(a, oe), ⟨rfl, is_rec.imp fun vs dd => ⟨dd, hz.2.2 vs dd⟩⟩, List.mem_cons_self⟩
 refine store_ok (X := X.suite a ((a, oe) :: (X.pn ++ pins))) (v := .ref a) S hN hi (.inl hln) rfl (fun s3 S3 => ?_) (.inr hln)
 exact wpAny_mono ((hsu a oe cls d _ _ hz is_rec (fun u s4 xx => suite_leaves hs hf hN hi hln ok tk xx rfl) (hot _)).run [] s3 _ H _ (S3.wish _) (yes rfl a na))
  (fun f s4 done => sp_gone hN hi hln (sp_map (unsuiteE ok) done)) fun _ _ z => z
theorem ps_try_asX (hs : X.stack = X.env :: X.outer) (hf : X.env.frame = some X.env.locals) (hN : X.N.Nodup) (hi : X.N[i]? = some n) (hln : X.env.kindOf n = some .local) (hc : Names X x c) (tk : L2.Takes X Wout)
  (hb : ∀ (W : WX) (pn : List (Addr × Obj)) (xe : Value → Shared → Prop), L2N.Takes (X.tr pn xe) W → PassesOwn (model X.prog X.w) X.A X.env xe → PSs (X.tr pn xe) body (tb W))
  (hsu : ∀ (a : Addr) (oe : Obj) (cls : Value) (d : Option Addr) (pn : List (Addr × Obj)) (xe : Value → Shared → Prop), L2N.Zn cls d oe → (∃ vs, oe.data = .fields vs) → L2.Takes (suiteE X a ((a, oe) :: pn) xe) (fun cls d σ H => Wout cls d (σ.set i none) H) →
   HotC (suiteE X a ((a, oe) :: pn) xe) → PSs (suiteE X a ((a, oe) :: pn) xe) (b₀ :: suite) (ts a cls d)) :
  PS X (.Try body [.ExceptHandler (some (.Name x np)) (some n) (b₀ :: suite) pos'] [] [] pos) (fun D σ H => tb (wAs X.K c i ts Wout D) D σ H) where
 run pins s σ H D I h := by
  have ok := I.ok
  refine wpAny_Try_except (wpAny_mono ((hb (wAs X.K c i ts Wout D) (X.pn ++ pins) _ (fun u s' xx => caught hs hf hN hi hln hc tk ok hsu xx) PassesOwn.looking).run [] s σ H D (I.toTry _) h) (fun f s1 done => ?_) fun _ _ he => he)
  have left : SP X pins D f s1 := sp_map (fun _ _ _ J => J.ofTry ok) done
  cases f
  case next => exact wpAny_execs_nil left
  all_goals exact left
end
end SL
set_option Elab.async false
set_option linter.all false
set_option maxRecDepth 100000
set_option maxHeartbeats 2000000
namespace SL
open PySem PySem.Spec PyProof.Rows L2
theorem mk_endN {X : Cx} {pins : List (Addr × Obj)} {σ : L2.St} {H1 H2 : Hp} {Q : XK} {hp hp2 h2 : Heap} {g1 g2 : Array GenState} {d1 d2 : Drawn} {t1 t2 : Nat} {os1 os2 : OsState} {a C d : Addr} {fs : List (Str × V)} (T : Raises X (.ref C)) (I1 : Inv X pins σ H1 ⟨hp, g1, d1, t1, os1⟩)
  (ha : hp.objs.size ≤ a) (k : ∀ b o, hp.get? b = some o → hp2.get? b = some o) (un : Un (frs X.stack) [] (upd H1 a (exo a C none)) H2 hp2 h2) (hok : HOk X.prog X.w H2 h2) (ho : os2 = os1) (hb : AllBare g2)
  (ea : H2 a = some (exo a C (some d))) (ed : H2 d = some (exd d fs)) (hd1 : H1 d = none) (q : Q (.ref C) (some d) (upd (del H2 a) d (.xd fs))) : L2N.MkP X pins σ Q (.ref a) ⟨h2, g2, d2, t2, os2⟩ := by
 obtain ⟨t0, G, J, kG, ge, hoe, na⟩ := mk_end0 (d2 := d2) (t2 := t2) I1 ha k un hok ho hb ea ed hd1
 exact ⟨a, _, _, ⟨G, g2, d2, t2, os2⟩, _, .ref C, some d, rfl, J, kG, ge, hoe, ⟨rfl, rfl, fun vs hv => by cases hv; rfl⟩, rfl, rfl, na, rfl, hb, T, q⟩
section
variable {X : Cx} {k j : Nat} {x : Str} {C : Addr} {sp : Sp} {p p1 p2 pos : Pos} {e : Expr} {es : List Expr} {t ta : TA}
theorem mkX_okN (c : ClG X.prog X.w X.K X.mg X.base k x C sp) (hr : RoomG j X.A) (hk : k + 1 ≤ j) {pins : List (Addr × Obj)} {σ : L2.St} {H1 : Hp} {s1 : Shared} {Q : XK} {vs : List V} {us : List Value} (I1 : Inv X pins σ H1 s1) (r1 : Vals vs us)
  (q : vs.length ≤ 1000 ∧ ∀ a, H1 a = none → sp (.ref a :: vs) (upd H1 a (exo a C none)) (fun v H2 => v = .non ∧ ∃ (d : Addr) (fs : List (Str × V)), H2 a = some (exo a C (some d)) ∧ H2 d = some (exd d fs) ∧ H1 d = none ∧ Q (.ref C) (some d) (upd (del H2 a) d (.xd fs))) E0) :
  wpAny (model X.prog X.w) X.A (call (.ref C) us) (L2N.MkP X pins σ Q) X.xe s1 :=
 exn_runs c hr hk I1 r1 q.1 (q.2 _ (I1.hok.fresh (Nat.le_succ _))) fun u z hz => by
  obtain ⟨v, H2, same_os, bare, un, hok, rv, rfl, d, fs, at_a, at_d, free, q2⟩ := hz
  exact ⟨rv, mk_endN (raises_own c.ec.oe.exC c.ec.oe.tyC) I1 (Nat.le_succ _) laidE_keeps un hok same_os bare at_a at_d free q2⟩
theorem pmk_mkXN (c : ClG X.prog X.w X.K X.mg X.base k x C sp) (hr : RoomG j X.A) (hg : Gl X x) (ha : PA X (e :: es) ta) (hk : k + 1 ≤ j := by first | decide | omega)
  (hdb : (x == ("__debug__" : Str)) = false := by decide) (hst : starEach (e :: es) X.env = (false, eval e X.env) :: starEach es X.env := by rfl) (hnp : (backTo pos (starEach es X.env)).any (·.1) = false := by rfl) :
  L2N.PMk X (.Call (.Name x p) (e :: es) [] pos) (tMkX C sp ta) := by
 intro pins s σ H Q I h
 refine wpAny_Call_Name_kw (ld_glob I hg c.m ?_ hdb)
 refine PySem.W.callWith_K (h₀ := X.base) I.ok.mod.kin c.ec.oe.kC (thn (ha.run pos pins s σ H _ I h) fun us s1 ⟨vs, H1, I1, r1, q1⟩ => ⟨I1.kIn, ?_⟩) hst hnp
 exact mkX_okN c hr hk I1 r1 q1
end
structure CalXN (P : Program) (w : World) (K : PySem.W.Frag) (mg : Str → Option Value) (base : Heap) (k : Nat) (x : Str) (sp : Sp) : Prop where
 ex : ∃ (f : Addr) (fd : FuncData) (ps : List Str), FnG P w K mg base (L2N.CX P w) k f fd ps sp ∧ mg x = some (.ref f) ∧ PySem.W.keepIn K (.ref f) = true ∧ Binds K fd ps []
theorem calX_ofN {P : Program} {w : World} {K : PySem.W.Frag} {mg : Str → Option Value} {base : Heap} {k : Nat} {x : Str} {sp : Sp} {f : Addr} {fd : FuncData} {ps : List Str} (F : FnG P w K mg base (L2N.CX P w) k f fd ps sp) (m : mg x = some (.ref f)) (kp : PySem.W.keepIn K (.ref f) = true) (b : Binds K fd ps []) : CalXN P w K mg base k x sp := ⟨f, fd, ps, F, m, kp, b⟩
section
variable {X : Cx} {k j : Nat} {x : Str} {sp : Sp} {p pos : Pos} {e : Expr} {es : List Expr} {t : TA} {W : WX}
theorem pe_calXN (c : CalXN X.prog X.w X.K X.mg X.base k x sp) (tk : L2N.Takes X W) (hr : RoomG j X.A) (hg : Gl X x) (ha : PA X (e :: es) t) (hk : k ≤ j := by first | decide | omega)
  (hdb : (x == ("__debug__" : Str)) = false := by decide) (hst : starEach (e :: es) X.env = (false, eval e X.env) :: starEach es X.env := by rfl) (hnp : (backTo pos (starEach es X.env)).any (·.1) = false := by rfl) :
  PE X (.Call (.Name x p) (e :: es) [] pos) (tCallS sp (WE W) t) := by
 obtain ⟨f, fd, ps, F, hm, kp, b⟩ := c.ex
 constructor
 intro pins s σ H Q I h
 refine wpAny_Call_Name_kw (ld_glob I hg hm (PySem.W.callWith_K (h₀ := X.base) I.ok.mod.kin kp (thn (ha.run pos pins s σ H _ I h) fun us s1 z => ?_) hst hnp) hdb)
 obtain ⟨vs, H1, I1, r, q⟩ := z
 refine ⟨I1.kIn, ?_⟩
 have ln : us.length = ps.length := r.length.symm.trans (F.len _ _ _ _ q)
 have b2 := b s1 us I1.kIn (by rw [List.append_nil]; exact ln)
 rw [List.append_nil] at b2
 refine wpAny_call (codeAny_mono (F.go X.A X.stack s1 H1 ⟨us, []⟩ us vs Q (WE W σ) (hr.mono hk) I1.env0 b2 r q) fun res s2 hq => ?_)
 cases res with
 | ok fl =>
  cases fl with
  | ret u => exact I1.after hq
  | _ => exact hq.elim
 | error z => exact L2N.passAt tk σ pins H1 s1 z s2 I1 hq
end
theorem ps_rsN {X : Cx} {W : WX} {e : Expr} {t : L2.St → Hp → XK → Prop} {pos : Pos} (hc : X.calm = true) (tk : L2N.Takes X W) (he : L2N.PMk X e t) : PS X (.Raise (some e) none pos) (tRs t W) := L2N.ps_raise hc tk he
theorem okXN {P : Program} {w : World} {K : PySem.W.Frag} {mg : Str → Option Value} {base : Heap} {x qual : Str} {pr : Arguments} {bd : List Stmt} {sc : Scope} {dvs : List V} {kws : List (Str × V)} {f : Addr} {fd : FuncData} {N ps : List Str} {k : Nat} {sp : Sp} (F : FunD K x qual pr bd sc dvs kws f fd) (S : FnScope N ps sc) (hlen : ∀ vs H Q E, sp vs H Q E → vs.length = ps.length)
  (hb : ∀ (cdv : Value) (A : Around) (outer : List Env) (s : Shared) (H : Hp) (vs : List V) (Q : VK) (E : XK), RoomG k (A.deeper (envOfC qual sc s.heap.objs.size f cdv)) → sp vs H Q E →
   L2N.Takes (cxOf (L2N.CX P w) P w K mg base N qual sc f cdv A outer s H E) (fun cls d _ H => E cls d H) →
   ∃ t, PSs (cxOf (L2N.CX P w) P w K mg base N qual sc f cdv A outer s H E) bd t ∧ t { nx := fun _ H' => Q .non H', rt := Q } (start N vs) H) : FnG P w K mg base (L2N.CX P w) (k + 1) f fd ps sp :=
 okG F S hlen fun cdv A outer s H vs Q E hr hsp => hb cdv A outer s H vs Q E hr hsp (L2N.takes_of rfl rfl rfl rfl)
section
variable {X : Cx} {k j : Nat} {C : Addr} {sp : Sp} {m : Str} {pos apos : Pos} {e o : Expr} {es : List Expr} {ta : TE} {t : TA} {W : WX} {dvs : List V}
theorem run_fnxN {f : Addr} {fd : FuncData} {ps : List Str} {ds : List Value} {pins : List (Addr × Obj)} {σ : L2.St} {H : Hp} {s : Shared} {Q : VK} {us : List Value} {vs : List V} (F : FnG X.prog X.w X.K X.mg X.base (L2N.CX X.prog X.w) k f fd ps sp) (tk : L2N.Takes X W) (hr : RoomG k X.A)
  (hb : Binds X.K fd ps ds) (hd : Vals dvs ds) (I : Inv X pins σ H s) (r : Vals vs us) (h : sp (vs ++ dvs) H Q (WE W σ)) : wpAny (model X.prog X.w) X.A (call (.ref f) us) (EP X pins σ Q) X.xe s := by
 have rel : Vals (vs ++ dvs) (us ++ ds) := r.append hd
 have ln : (us ++ ds).length = ps.length := rel.length.symm.trans (F.len _ _ _ _ h)
 refine wpAny_call (codeAny_mono (F.go X.A X.stack s H ⟨us, []⟩ (us ++ ds) (vs ++ dvs) Q (WE W σ) hr I.env0 (hb s us I.kIn ln) rel h) fun res s2 hq => ?_)
 cases res with
 | ok fl =>
  cases fl with
  | ret u => exact I.after hq
  | _ => exact hq.elim
 | error z => exact L2N.passAt tk σ pins H s z s2 I hq
theorem pe_metXN {pl : Sem Bool} (M : MetG X.prog X.w X.K X.mg X.base (L2N.CX X.prog X.w) k C m dvs sp) (tk : L2N.Takes X W) (hr : RoomG j X.A) (he : PE X o ta) (ha : PA X (e :: es) t) (hk : k ≤ j := by first | decide | omega)
  (hst : starEach (e :: es) X.env = (false, eval e X.env) :: starEach es X.env := by rfl) (hpl : (backTo pos (starEach es X.env)).any (·.1) = false := by rfl)
  (ht : eval (.Call (.Attribute o m apos) (e :: es) [] pos) X.env = metEval o m apos pos pl (backTo pos (starEach (e :: es) X.env)) (backToKw pos (keywordEach [] X.env)) X.env := by rfl) :
  PE X (.Call (.Attribute o m apos) (e :: es) [] pos) (tMetX C m sp dvs (WE W) ta t) := ⟨fun pins s σ H Q I h => by
 obtain ⟨f, fd, ps, ds, meth, Fn, binds, rel⟩ := M.ex
 exact met_call M.cls meth he ht I h fun a H1 z J q => PySem.W.callWith_K (first := [.ref a]) (h₀ := X.base) J.ok.mod.kin meth.kp (thn (ha.run pos pins z σ H1 _ J q) fun us y hy => by
  obtain ⟨vs, H2, J2, r, q2⟩ := hy
  exact ⟨J2.kIn, run_fnxN (us := .ref a :: us) (vs := .ref a :: vs) Fn tk (hr.mono hk) binds rel J2 (.cons rfl r) q2⟩) hst hpl⟩
theorem pe_metX0N {pl : Sem Bool} (M : MetG X.prog X.w X.K X.mg X.base (L2N.CX X.prog X.w) k C m dvs sp) (tk : L2N.Takes X W) (hr : RoomG j X.A) (he : PE X o ta) (hk : k ≤ j := by first | decide | omega)
  (ht : eval (.Call (.Attribute o m apos) [] [] pos) X.env = metEval o m apos pos pl (backTo pos (starEach [] X.env)) (backToKw pos (keywordEach [] X.env)) X.env := by rfl) :
  PE X (.Call (.Attribute o m apos) [] [] pos) (tMetX C m sp dvs (WE W) ta tNil) := ⟨fun pins s σ H Q I h => by
 obtain ⟨f, fd, ps, ds, meth, Fn, binds, rel⟩ := M.ex
 exact met_call M.cls meth he ht I h fun a H1 z J q => PySem.W.callWith_K0 (first := [.ref a]) J.kIn meth.kp (run_fnxN (us := [.ref a]) (vs := [.ref a]) Fn tk (hr.mono hk) binds rel J (.cons rfl .nil) q)⟩
end
section
variable {X : Cx} {k j n : Nat} {f C : Addr} {fd : FuncData} {ps ks : List Str} {sp : Sp} {x : Str} {p pos : Pos} {e : Expr} {es : List Expr} {kws : List Keyword} {t tk : TA} {g : List Value → List Value → List Value} {gV : List V → List V → List V} {W : WX}
structure MkXN (P : Program) (w : World) (K : PySem.W.Frag) (mg : Str → Option Value) (base : Heap) (k : Nat) (x : Str) (C : Addr) (n : Nat) (ks : List Str) (gV : List V → List V → List V) (sp : Sp) : Prop where
 m : mg x = some (.ref C)
 ex : ∃ (f : Addr) (fd : FuncData) (ps : List Str) (g : List Value → List Value → List Value), Mk K C f ∧ FnG P w K mg base (L2N.CX P w) k f fd ps sp ∧ KBn K fd ps (n + 1) ks g gV
theorem pe_makeXN (M : MkXN X.prog X.w X.K X.mg X.base k x C n ks gV sp) (hx : L2N.Takes X W) (hr : RoomG j X.A) (hg : Gl X x) (ha : PA X (e :: es) t) (hkw : PK X kws tk) (hk : k + 1 ≤ j := by first | decide | omega)
  (hall : (backToKw pos (keywordEach kws X.env)).all (·.1.isSome) = true := by rfl) (hks : (backToKw pos (keywordEach kws X.env)).filterMap (·.1) = ks := by rfl) (hdb : (x == ("__debug__" : Str)) = false := by decide)
  (he : starEach (e :: es) X.env = (false, eval e X.env) :: starEach es X.env := by rfl) (hpl : ((backTo pos (starEach (e :: es) X.env)).any (·.1) || (backToKw pos (keywordEach kws X.env)).any (·.1.isNone)) = false := by rfl) :
  PE X (.Call (.Name x p) (e :: es) kws pos) (tMakeX C n ks.length sp gV (WE W) t tk) := by
 have ⟨_, _, _, _, made, Fn, kb⟩ := M.ex
 exact pe_mk M.m made Fn kb (L2N.passAt hx) (hr.mono hk) hg ha hkw hall hks hdb he hpl
end
section
variable {P : Program} {w : World} {K : PySem.W.Frag} {mg : Str → Option Value} {base : Heap} {CX : CXT}
theorem okH {x qual : Str} {pr : Arguments} {bd : List Stmt} {sc : Scope} {dvs : List V} {kws : List (Str × V)} {f : Addr} {fd : FuncData} {N ps : List Str} {k : Nat} {sp : Sp} (F : FunD K x qual pr bd sc dvs kws f fd) (S : FnScope N ps sc) (hlen : ∀ vs H Q E, sp vs H Q E → vs.length = ps.length)
  (hb : ∀ (cdv : Value) (A : Around) (outer : List Env) (s : Shared) (H : Hp) (vs : List V) (Q : VK) (E : XK) (p : Addr × Obj), L2H.HotC (L2H.cxH CX P w K mg base N qual sc f cdv A outer s H E p) → L2H.RoomH k (A.deeper (envOfC qual sc s.heap.objs.size f cdv)) → sp vs H Q E →
   ∃ t, PSs (L2H.cxH CX P w K mg base N qual sc f cdv A outer s H E p) bd t ∧ t { nx := fun _ H' => Q .non H', rt := Q } (start N vs) H) : L2H.FnH P w K mg base CX (k + 1) f fd ps sp := by
 obtain ⟨oc, od, dV, kV, doc, pm, an, cdv, ct, osl, rfl, lk, hcd, _, _⟩ := F.ex
 exact L2H.fn_ofH lk hcd S hlen fun A outer s H vs Q E p hot hr hsp => hb cdv A outer s H vs Q E p ⟨p, hot, List.mem_cons_self⟩ hr hsp
structure ClH (P : Program) (w : World) (K : PySem.W.Frag) (mg : Str → Option Value) (base : Heap) (k : Nat) (x : Str) (C : Addr) (sp : Sp) : Prop where
 m : mg x = some (.ref C)
 ec : EcC K C
 ex : ∃ (fI : Addr) (fd : FuncData) (ps : List Str), L2H.FnH P w K mg base CX0 k fI fd ps sp ∧ EcI K C fI ∧ Binds K fd ps []
end
section
variable {X : Cx} {k j : Nat} {x : Str} {C : Addr} {sp : Sp} {p p1 p2 pos : Pos} {e : Expr} {es : List Expr} {t ta : TA}
theorem pe_finiH {pl : Sem Bool} (c : ClH X.prog X.w X.K X.mg X.base k x C sp) (hc : L2H.HotC X) (hr : L2H.RoomH j X.A) (hg : Gl X x) (ha : PA X (e :: es) t) (hk : k ≤ j := by first | decide | omega)
  (hdb : (x == ("__debug__" : Str)) = false := by decide)
  (hcl : eval (.Call (.Attribute (.Name x p1) "__init__" p2) (e :: es) [] pos) X.env = (do
   let ov ← eval (.Name x p1) X.env
   standAt p2.atName
   let (f, first) ← holding [ov] (getMethod ov "__init__" pl)
   callWith pos f first (backTo pos (starEach (e :: es) X.env)) (backToKw pos (keywordEach [] X.env))) := by rfl)
  (hst : starEach (e :: es) X.env = (false, eval e X.env) :: starEach es X.env := by rfl) (hnp : (backTo pos (starEach es X.env)).any (·.1) = false := by rfl) :
  PE X (.Call (.Attribute (.Name x p1) "__init__" p2) (e :: es) [] pos) (tCall sp [] E0 t) := by
 obtain ⟨fI, fd, ps, F, ci, b⟩ := c.ex
 refine ⟨fun pins s σ H Q I h => ?_⟩
 refine PySem.W.methodCall_KW (ld_glob I hg c.m ?_ hdb) hcl
 refine PySem.W.method_cls I.kIn ci.ga (PySem.W.cls_value I.kIn ci.rd ci.fd rfl ?_)
 have I2 := I.tok (s.toks + 1)
 refine PySem.W.callWith_K (h₀ := X.base) I2.ok.mod.kin ci.kp (thn (ha.run pos pins _ σ H _ I2 h) fun us s1 z => ?_) hst hnp
 obtain ⟨vs, H1, I1, r, q⟩ := z
 rw [List.append_nil] at q
 exact ⟨I1.kIn, L2H.run_fnH (E := fun _ => E0) F (hr.mono hk) hc b (fun _ _ _ _ _ _ h => h.elim) I1 r q⟩
theorem pmk_mkH (c : ClH X.prog X.w X.K X.mg X.base k x C sp) (hc : L2H.HotC X) (hr : L2H.RoomH j X.A) (hg : Gl X x) (ha : PA X (e :: es) ta) (hk : k + 1 ≤ j := by first | decide | omega)
  (hdb : (x == ("__debug__" : Str)) = false := by decide) (hst : starEach (e :: es) X.env = (false, eval e X.env) :: starEach es X.env := by rfl) (hnp : (backTo pos (starEach es X.env)).any (·.1) = false := by rfl) :
  L2H.PMk5 X (.Call (.Name x p) (e :: es) [] pos) (L2.tMkO C sp [] ta) := by
 obtain ⟨fI, fd, ps, F, ci, b⟩ := c.ex
 exact L2H.pmk5_oexH c.ec.oe ci.ini ci.ty F (hr.mono hk) hc b (fun _ _ _ _ _ _ _ h => h.elim) hg c.m ha hdb hst hnp
theorem pe_xsE {a : Addr} {oe : Obj} {cls : Value} {d : Option Addr} {pn : List (Addr × Obj)} {xe : Value → Shared → Prop} {te : TE} (n : Str)
  (hz : L2N.Zn cls d oe) (hf : ∃ vs, oe.data = .fields vs) (he : PE (suiteE X a ((a, oe) :: pn) xe) e te) (hb : attributeBase e n X.env (eval e X.env) = eval e X.env := by rfl) :
  PE (suiteE X a ((a, oe) :: pn) xe) (.Attribute e n pos) (tXs X.K a cls d n te) := by
 refine ⟨fun pins s σ H Q I h => ?_⟩
 refine attr_of hb (thn (he.run pins s σ H _ I h) fun u s1 hh => ?_)
 obtain ⟨x, H1, I1, rx, ex, C, dd, fs, v, ec, ed, T, hno, ea, l, q⟩ := hh
 subst ex
 obtain rfl : u = Value.ref a := rx
 subst ec
 subst ed
 obtain ⟨ha, _⟩ := I1.pin (a, oe) (List.mem_append_left _ List.mem_cons_self)
 obtain ⟨vs, hd⟩ := hf
 have hx : ObjOk X.prog X.w H1 s1.heap dd (.xd fs) := I1.hok dd _ ea
 obtain ⟨mA, hns, hr⟩ := hx
 obtain ⟨od, ho, hl⟩ := lookIn_ns hns
 obtain ⟨u, hu, ru⟩ := RelO.some_of (v := v) (o := mA n) (by rw [← l]; exact hr n)
 have J : PySem.W.InstAt s1.heap a oe C (some od) := ⟨ha, hz.1, by unfold PySem.W.notCls; rw [hd] <;> rfl, by rw [hz.2.1]; exact ho⟩
 exact HandSPX.exc_get I1.kIn J T.xf.ga T.xf.gg T.xf.exC (PySem.W.findObj_own T.xf.hdC hno rfl (by rw [hl, hu])) (handed_of ru) ⟨v, H1, I1.tok _, ru, q⟩
theorem ps_tryX {K : PySem.W.Frag} {n : Str} {c : Value} {i : Nat} {body suite : List Stmt} {b₀ : Stmt} {np pos' : Pos} {tb : WX → TS} {ts : Addr → Value → Option Addr → TS} {Wout : WX} (eK : X.K = K)
  (hs : X.stack = X.env :: X.outer) (hf : X.env.frame = some X.env.locals) (hN : X.N.Nodup) (hi : X.N[i]? = some n) (hln : X.env.kindOf n = some .local) (hc : Names X x c) (tk : L2.Takes X Wout)
  (hb : ∀ (W : WX) (pn : List (Addr × Obj)) (xe : Value → Shared → Prop), L2N.Takes (X.tr pn xe) W → PassesOwn (model X.prog X.w) X.A X.env xe → PSs (X.tr pn xe) body (tb W))
  (hsu : ∀ (a : Addr) (oe : Obj) (cls : Value) (d : Option Addr) (pn : List (Addr × Obj)) (xe : Value → Shared → Prop), L2N.Zn cls d oe → (∃ vs, oe.data = .fields vs) → L2.Takes (suiteE X a ((a, oe) :: pn) xe) (fun cls d σ H => Wout cls d (σ.set i none) H) →
   L2H.HotC (suiteE X a ((a, oe) :: pn) xe) → PSs (suiteE X a ((a, oe) :: pn) xe) (b₀ :: suite) (ts a cls d)) :
  PS X (.Try body [.ExceptHandler (some (.Name x np)) (some n) (b₀ :: suite) pos'] [] [] pos) (tTry K c i tb ts Wout) := by
 subst eK
 exact ps_try_asX hs hf hN hi hln hc tk hb hsu
def tRsN (t : L2.St → Hp → XK → Prop) (W : WX) : TS := fun _ σ H => t σ H fun cls d H' => W cls d σ H'
theorem ps_rsHN {W : WX} {t : L2.St → Hp → XK → Prop} {jn : Nat} {cpos : Pos} (hc : L2H.HotC X) (tk : L2.Takes X W) (he : L2H.PMk5 X e t) : PS X (.Raise (some e) (some (.Constant .none jn cpos)) pos) (tRsN t W) := L2H.ps_raiseHN hc tk he
end
section
variable {D : Ends} {σ : L2.St} {H : Hp} {ta : TA}
theorem g_rsN {t : L2.St → Hp → XK → Prop} {W : WX} (q : t σ H fun cls d H' => W cls d σ H') : tRsN t W D σ H := q
end
end SL
set_option Elab.async false
set_option linter.all false
set_option maxRecDepth 100000
set_option maxHeartbeats 4000000
namespace LW
open PySem PySem.Spec PyProof.Rows L2 SL
abbrev FnP (K : PySem.W.Frag) (x : Str) (st : Stmt) (f : Addr) (fd : FuncData) : Prop := FunD K x x (defArgs st) (defBody st) (defScope st) [] [] f fd
def topS (i : Nat) : Stmt := PySem.Challenge.pw_sightlore_k06_papers_read.main.body.getD i (.Pass ⟨0, 0, 0, 0⟩)
abbrev FnM (K : PySem.W.Frag) (q : Str) (st : Stmt) (f : Addr) (fd : FuncData) : Prop := FunD K "__init__" q (defArgs st) (defBody st) (defScope st) [] [] f fd
abbrev FnMd (K : PySem.W.Frag) (x q : Str) (st : Stmt) (dvs : List V) (kws : List (Str × V)) (f : Addr) (fd : FuncData) : Prop := FunD K x q (defArgs st) (defBody st) (defScope st) dvs kws f fd
def methS (i j : Nat) : Stmt := match topS i with
 | .ClassDef _ _ _ body _ _ _ _ _ _ _ => body.getD j (.Pass ⟨0, 0, 0, 0⟩)
 | s => s
noncomputable section
open PySem.W HandSHeadRun PySem.Calls
abbrev RR : PySem.W.OpenRow := PySem.W.OpenLaw.row PySem.Challenge.rw_sightlore_k06_papers_read
abbrev PP : Program := RR.prog
def kE (P : Params) (x : PySem.Str) (k v : Value) : DictEntry := ⟨PyData.keyHash P x, k, v⟩
def topB : List Stmt := behindTheImports PP
def envL : Env := { scope := PP.main.scope, locals := mainNs, globals := mainNs, cells := [], code := .ref 13, frame := some 14 }
def cL : Code := .body topB envL
def mkT (l : List Obj) : BT := match putAll l .nil 0 with | some (t, _) => t | none => .nil
def addT (t : BT) (n : Nat) (l : List Obj) : BT := match putAll l t n with | some (t, _) => t | none => .nil
def kS (P : Params) (x : PySem.Str) (t : Nat) (v : Value) : DictEntry := kE P x (.str x t) v
def kR (P : Params) (x : PySem.Str) (t : Nat) (a : Nat) : DictEntry := kE P x (.str x t) (.ref a)
def q0 (P : Params)  : Obj := ⟨.type "tuple", none, .seq #[] 0, #[]⟩
def q1 (P : Params)  : Obj := ⟨.none, none, .fields #[], #[]⟩
def q2 (P : Params) (v0 : PySem.Str) (v1 : Nat) : Obj := ⟨.none, none, .func ⟨v0, v0, defArgs (topS v1), .stmts (defBody (topS v1)), defScope (topS v1), 0, [], .none, .none, .none, .none, none, .none, .none, 0⟩, #[]⟩
def q3 (P : Params) (v0 : PySem.Str) (v1 : Nat) (v3 : PySem.Str) (v4 : Nat) (v5 : Nat) : Obj := ⟨.type "function", none, .func ⟨v0, v0, defArgs (topS v1), .stmts (defBody (topS v1)), defScope (topS v1), 3, [], .none, .none, .none, .str v3 v4, none, .ref v5, .none, 0⟩, #[]⟩
def q4 (P : Params) (v0 : PySem.Str) (v1 : Nat) (v2 : Nat) (v4 : Nat) (v5 : Int) (v7 : Int) (v10 : Nat) (v12 : Nat) (v13 : Nat) (v14 : Nat) (v15 : Nat) (v16 : Int) (v17 : Nat) : Obj := ⟨.type "code", none, .fields #[.str v0 v1, .str v0 v2, .str "/claim/cut.py" v4, .int v5 0, .int v7 0, .int 0 0, .int 0 0, .int 3 0, .ref v10, .bool true, .int 181 0, .ref v12, .none, .ref v13, .ref v14, .ref v15, .int v16 0, .int v5 0, .str "/claim/cut.py" v17], #[]⟩
def q5 (P : Params) (v0 : PySem.Str) (v1 : Nat) (v2 : Nat) (v4 : Nat) (v5 : Int) (v7 : Int) (v10 : Nat) (v12 : Nat) (v13 : Nat) (v14 : Int) (v15 : Nat) : Obj := ⟨.type "code", none, .fields #[.str v0 v1, .str v0 v2, .str "/claim/cut.py" v4, .int v5 0, .int v7 0, .int 0 0, .int 0 0, .int 3 0, .ref v10, .bool true, .int 181 0, .ref v12, .none, .none, .none, .ref v13, .int v14 0, .int v5 0, .str "/claim/cut.py" v15], #[]⟩
def q6 (P : Params) (v0 : PySem.Str) (v1 : Nat) (v2 : PySem.Str) (v3 : Nat) (v4 : PySem.Str) (v5 : Nat) : Obj := ⟨.type "tuple", none, .seq #[.str v0 v1, .str v2 v3, .str v4 v5] 0, #[]⟩
def q7 (P : Params) (v0 : PySem.Str) (v1 : Nat) (v2 : PySem.Str) (v3 : Nat) (v4 : PySem.Str) (v5 : Nat) (v6 : PySem.Str) (v7 : Nat) : Obj := ⟨.type "tuple", none, .seq #[.str v0 v1, .str v2 v3, .str v4 v5, .str v6 v7] 0, #[]⟩
def q8 (P : Params) (v0 : PySem.Str) (v1 : Nat) (v2 : PySem.Str) (v3 : Nat) : Obj := ⟨.type "tuple", none, .seq #[.str v0 v1, .str v2 v3] 0, #[]⟩
def q9 (P : Params) (v0 : PySem.Str) (v1 : Nat) (v2 : PySem.Str) (v3 : Nat) (v5 : Nat) (v6 : Int) (v8 : Int) (v11 : Nat) (v13 : Nat) (v14 : Nat) (v15 : Nat) (v16 : Nat) (v17 : Int) (v18 : Nat) : Obj := ⟨.type "code", none, .fields #[.str v0 v1, .str v2 v3, .str "/claim/cut.py" v5, .int v6 0, .int v8 0, .int 0 0, .int 0 0, .int 3 0, .ref v11, .bool true, .int 181 0, .ref v13, .none, .ref v14, .ref v15, .ref v16, .int v17 0, .int v6 0, .str "/claim/cut.py" v18], #[]⟩
def q10 (P : Params) (v0 : PySem.Str) (v1 : Nat) : Obj := ⟨.type "tuple", none, .seq #[.str v0 v1] 0, #[]⟩
def q11 (P : Params) (v0 : PySem.Str) (v1 : PySem.Str) (v3 : Nat) : Obj := ⟨.none, none, .func ⟨v0, v1, defArgs (methS 29 v3), .stmts (defBody (methS 29 v3)), defScope (methS 29 v3), 0, [], .none, .none, .none, .none, none, .none, .none, 0⟩, #[]⟩
def q12 (P : Params) (v0 : PySem.Str) (v1 : Nat) (v2 : Nat) (v4 : Nat) (v5 : Int) (v8 : Nat) (v9 : Int) (v10 : Nat) (v11 : Int) (v12 : Nat) : Obj := ⟨.type "code", none, .fields #[.str v0 v1, .str v0 v2, .str "/claim/cut.py" v4, .int v5 0, .int 0 0, .int 0 0, .int 0 0, .int 0 0, .ref v8, .bool false, .int v9 0, .ref v10, .none, .none, .none, .none, .int v11 0, .int v5 0, .str "/claim/cut.py" v12], #[]⟩
def q13 (P : Params) (v0 : PySem.Str) (v1 : Nat) (v2 : Nat) (v4 : Nat) (v5 : Int) (v9 : Nat) (v11 : Nat) (v12 : Nat) (v13 : Nat) (v14 : Nat) (v15 : Int) (v16 : Nat) : Obj := ⟨.type "code", none, .fields #[.str v0 v1, .str v0 v2, .str "/claim/cut.py" v4, .int v5 0, .int 3 0, .int 0 0, .int 0 0, .int 3 0, .ref v9, .bool true, .int 181 0, .ref v11, .none, .ref v12, .ref v13, .ref v14, .int v15 0, .int v5 0, .str "/claim/cut.py" v16], #[]⟩
def q14 (P : Params) (v0 : PySem.Str) (v1 : Nat) (v2 : PySem.Str) (v3 : Nat) (v4 : PySem.Str) (v5 : Nat) (v6 : PySem.Str) (v7 : Nat) (v8 : PySem.Str) (v9 : Nat) (v10 : PySem.Str) (v11 : Nat) : Obj := ⟨.type "tuple", none, .seq #[.str v0 v1, .str v2 v3, .str v4 v5, .str v6 v7, .str v8 v9, .str v10 v11] 0, #[]⟩
def q15 (P : Params) (v0 : PySem.Str) (v1 : PySem.Str) (v3 : Nat) (v7 : Nat) : Obj := ⟨.type "function", none, .func ⟨v0, v1, defArgs (methS 29 v3), .stmts (defBody (methS 29 v3)), defScope (methS 29 v3), 3, [], .none, .none, .none, .str "sightlore.reader" 365, none, .ref v7, .none, 0⟩, #[]⟩
def q16 (P : Params) (v0 : PySem.Str) (v1 : Nat) (v2 : PySem.Str) (v3 : Nat) (v4 : PySem.Str) (v5 : Nat) (v6 : PySem.Str) (v7 : Nat) (v8 : PySem.Str) (v9 : Nat) : Obj := ⟨.type "tuple", none, .seq #[.str v0 v1, .str v2 v3, .str v4 v5, .str v6 v7, .str v8 v9] 0, #[]⟩
def q17 (P : Params)  : Obj := ⟨.type "builtin_function_or_method", none, .fields #[.builtin "type.__prepare__", .type "type"], #[]⟩
def q18 (P : Params) (v0 : Nat) (v2 : Nat) (v3 : PySem.Str) (v4 : Nat) : Obj := ⟨.type "frame", none, .plain, #[some (.ref v0), some (.ref 3), some (.ref v2), none, some (.str v3 v4), none, some (.ref 0)]⟩
def q19 (P : Params) (v0 : Nat) : Obj := ⟨.type "super", none, .fields #[.ref v0, .ref v0, .ref v0], #[]⟩
def q20 (P : Params) (v0 : Nat) : Obj := ⟨.type "builtin_function_or_method", none, .fields #[.builtin "object.__init_subclass__", .ref v0], #[]⟩
def q21 (P : Params) (v1 : Nat) : Obj := ⟨.type "tuple", none, .seq #[.int 0 v1] 0, #[]⟩
def q22 (P : Params) (v1 : PySem.Str) (v2 : Nat) : Obj := ⟨.none, none, .func ⟨"__init__", v1, defArgs (methS v2 0), .stmts (defBody (methS v2 0)), defScope (methS v2 0), 0, [], .none, .none, .none, .none, none, .none, .none, 0⟩, #[]⟩
def q23 (P : Params) (v0 : PySem.Str) (v1 : PySem.Str) (v3 : Nat) (v5 : Nat) (v8 : Nat) : Obj := ⟨.type "function", none, .func ⟨v0, v1, defArgs (methS 29 v3), .stmts (defBody (methS 29 v3)), defScope (methS 29 v3), 3, [], .ref v5, .none, .none, .str "sightlore.reader" 365, none, .ref v8, .none, 0⟩, #[]⟩
def q24 (P : Params) (v0 : Nat) : Obj := ⟨.type "frame", none, .plain, #[some (.ref v0), some (.ref 3), some (.ref 3), none, some (.str "__main__" 164), none, some (.ref 0)]⟩
def q25 (P : Params) (v1 : Nat) (v2 : Nat) : Obj := ⟨.type "getset_descriptor", none, .fields #[.str "__weakref__" v1, .ref v2, .builtin "ExceptionGroup.__weakref__", .none], #[]⟩
def oA0 (P : Params) : List Obj := [
 ⟨.type "dict", none, .dict #[kS P "__name__" 1 (.str "builtins" 160), kS P "__doc__" 2 (.builtin "builtins.__doc__:str#opaque"), kS P "__package__" 3 (.builtin "builtins.__package__:str#opaque"), kS P "__loader__" 4 (.builtin "builtins.__loader__:shared#opaque"), kS P "__spec__" 5 (.builtin "builtins.__spec__#opaque"), kS P "__build_class__" 6 (.builtin "__build_class__"), kS P "__import__" 7 (.builtin "__import__"), kS P "abs" 8 (.builtin "abs"), kS P "all" 9 (.builtin "all"), kS P "any" 10 (.builtin "any"), kS P "ascii" 11 (.builtin "ascii"), kS P "bin" 12 (.builtin "bin"), kS P "breakpoint" 13 (.builtin "breakpoint"), kS P "callable" 14 (.builtin "callable"), kS P "chr" 15 (.builtin "chr"), kS P "compile" 16 (.builtin "compile"), kS P "delattr" 17 (.builtin "delattr"), kS P "dir" 18 (.builtin "dir"), kS P "divmod" 19 (.builtin "divmod"), kS P "eval" 20 (.builtin "eval"), kS P "exec" 21 (.builtin "exec"), kS P "format" 22 (.builtin "format"), kS P "getattr" 23 (.builtin "getattr"), kS P "globals" 24 (.builtin "globals"), kS P "hasattr" 25 (.builtin "hasattr"), kS P "hash" 26 (.builtin "hash"), kS P "hex" 27 (.builtin "hex"), kS P "id" 28 (.builtin "id"), kS P "input" 29 (.builtin "input"), kS P "isinstance" 30 (.builtin "isinstance"), kS P "issubclass" 31 (.builtin "issubclass"), kS P "iter" 32 (.builtin "iter"), kS P "aiter" 33 (.builtin "aiter"), kS P "len" 34 (.builtin "len"), kS P "locals" 35 (.builtin "locals"), kS P "max" 36 (.builtin "max"), kS P "min" 37 (.builtin "min"), kS P "next" 38 (.builtin "next"), kS P "anext" 39 (.builtin "anext"), kS P "oct" 40 (.builtin "oct"), kS P "ord" 41 (.builtin "ord"), kS P "pow" 42 (.builtin "pow"), kS P "print" 43 (.builtin "print"), kS P "repr" 44 (.builtin "repr"), kS P "round" 45 (.builtin "round"), kS P "setattr" 46 (.builtin "setattr"), kS P "sorted" 47 (.builtin "sorted"), kS P "sum" 48 (.builtin "sum"), kS P "vars" 49 (.builtin "vars"), kS P "None" 50 (.none), kS P "Ellipsis" 51 (.ellipsis), kS P "NotImplemented" 52 (.notImplemented), kS P "False" 53 (.bool false), kS P "True" 54 (.bool true), kS P "bool" 55 (.type "bool"), kS P "memoryview" 56 (.type "memoryview"), kS P "bytearray" 57 (.type "bytearray"), kS P "bytes" 58 (.type "bytes"), kS P "classmethod" 59 (.type "classmethod"), kS P "complex" 60 (.type "complex"), kS P "dict" 61 (.type "dict"), kS P "enumerate" 62 (.type "enumerate"), kS P "filter" 63 (.type "filter"), kS P "float" 64 (.type "float"), kS P "frozenset" 65 (.type "frozenset"), kS P "property" 66 (.type "property"), kS P "int" 67 (.type "int"), kS P "list" 68 (.type "list"), kS P "map" 69 (.type "map"), kS P "object" 70 (.type "object"), kS P "range" 71 (.type "range"), kS P "reversed" 72 (.type "reversed"), kS P "set" 73 (.type "set"), kS P "slice" 74 (.type "slice"), kS P "staticmethod" 75 (.type "staticmethod"), kS P "str" 76 (.type "str"), kS P "super" 77 (.type "super"), kS P "tuple" 78 (.type "tuple"), kS P "type" 79 (.type "type"), kS P "zip" 80 (.type "zip"), kS P "__debug__" 81 (.bool true), kS P "BaseException" 82 (.type "BaseException"), kS P "BaseExceptionGroup" 83 (.type "BaseExceptionGroup"), kS P "Exception" 84 (.type "Exception"), kS P "GeneratorExit" 85 (.type "GeneratorExit"), kS P "KeyboardInterrupt" 86 (.type "KeyboardInterrupt"), kS P "SystemExit" 87 (.type "SystemExit"), kS P "ArithmeticError" 88 (.type "ArithmeticError"), kS P "AssertionError" 89 (.type "AssertionError"), kS P "AttributeError" 90 (.type "AttributeError"), kS P "BufferError" 91 (.type "BufferError"), kS P "EOFError" 92 (.type "EOFError"), kS P "ImportError" 93 (.type "ImportError"), kS P "LookupError" 94 (.type "LookupError"), kS P "MemoryError" 95 (.type "MemoryError"), kS P "NameError" 96 (.type "NameError"), kS P "OSError" 97 (.type "OSError"), kS P "ReferenceError" 98 (.type "ReferenceError"), kS P "RuntimeError" 99 (.type "RuntimeError"), kS P "StopAsyncIteration" 100 (.type "StopAsyncIteration"), kS P "StopIteration" 101 (.type "StopIteration"), kS P "SyntaxError" 102 (.type "SyntaxError"), kS P "SystemError" 103 (.type "SystemError"), kS P "TypeError" 104 (.type "TypeError"), kS P "ValueError" 105 (.type "ValueError"), kS P "Warning" 106 (.type "Warning"), kS P "FloatingPointError" 107 (.type "FloatingPointError"), kS P "OverflowError" 108 (.type "OverflowError"), kS P "ZeroDivisionError" 109 (.type "ZeroDivisionError"), kS P "BytesWarning" 110 (.type "BytesWarning"), kS P "DeprecationWarning" 111 (.type "DeprecationWarning"), kS P "EncodingWarning" 112 (.type "EncodingWarning"), kS P "FutureWarning" 113 (.type "FutureWarning"), kS P "ImportWarning" 114 (.type "ImportWarning"), kS P "PendingDeprecationWarning" 115 (.type "PendingDeprecationWarning"), kS P "ResourceWarning" 116 (.type "ResourceWarning"), kS P "RuntimeWarning" 117 (.type "RuntimeWarning"), kS P "SyntaxWarning" 118 (.type "SyntaxWarning"), kS P "UnicodeWarning" 119 (.type "UnicodeWarning"), kS P "UserWarning" 120 (.type "UserWarning"), kS P "BlockingIOError" 121 (.type "BlockingIOError"), kS P "ChildProcessError" 122 (.type "ChildProcessError"), kS P "ConnectionError" 123 (.type "ConnectionError"), kS P "FileExistsError" 124 (.type "FileExistsError"), kS P "FileNotFoundError" 125 (.type "FileNotFoundError"), kS P "InterruptedError" 126 (.type "InterruptedError"), kS P "IsADirectoryError" 127 (.type "IsADirectoryError"), kS P "NotADirectoryError" 128 (.type "NotADirectoryError"), kS P "PermissionError" 129 (.type "PermissionError"), kS P "ProcessLookupError" 130 (.type "ProcessLookupError"), kS P "TimeoutError" 131 (.type "TimeoutError"), kS P "IndentationError" 132 (.type "IndentationError"), kS P "_IncompleteInputError" 133 (.type "_IncompleteInputError"), kS P "IndexError" 134 (.type "IndexError"), kS P "KeyError" 135 (.type "KeyError"), kS P "ModuleNotFoundError" 136 (.type "ModuleNotFoundError"), kS P "NotImplementedError" 137 (.type "NotImplementedError"), kS P "PythonFinalizationError" 138 (.type "PythonFinalizationError"), kS P "RecursionError" 139 (.type "RecursionError"), kS P "UnboundLocalError" 140 (.type "UnboundLocalError"), kS P "UnicodeError" 141 (.type "UnicodeError"), kS P "BrokenPipeError" 142 (.type "BrokenPipeError"), kS P "ConnectionAbortedError" 143 (.type "ConnectionAbortedError"), kS P "ConnectionRefusedError" 144 (.type "ConnectionRefusedError"), kS P "ConnectionResetError" 145 (.type "ConnectionResetError"), kS P "TabError" 146 (.type "TabError"), kS P "UnicodeDecodeError" 147 (.type "UnicodeDecodeError"), kS P "UnicodeEncodeError" 148 (.type "UnicodeEncodeError"), kS P "UnicodeTranslateError" 149 (.type "UnicodeTranslateError"), kS P "ExceptionGroup" 150 (.type "ExceptionGroup"), kS P "EnvironmentError" 151 (.type "OSError"), kS P "IOError" 152 (.type "OSError"), kS P "open" 153 (.builtin "open"), kS P "quit" 154 (.builtin "builtins.quit#opaque"), kS P "exit" 155 (.builtin "builtins.exit#opaque"), kS P "copyright" 156 (.builtin "builtins.copyright#opaque"), kS P "credits" 157 (.builtin "builtins.credits#opaque"), kS P "license" 158 (.builtin "builtins.license#opaque"), kS P "help" 159 (.builtin "builtins.help#opaque")] 159, #[]⟩,
 ⟨.type "dict", none, .dict #[kR P "builtins" 162 4, kR P "__main__" 163 5] 2, #[]⟩,
 ⟨.none, none, .dict #[] 0, #[]⟩,
 ⟨.type "dict", none, .dict #[kS P "__name__" 165 (.str "__main__" 164), kS P "__doc__" 166 (.none), kS P "__package__" 167 (.none), kS P "__loader__" 168 (.builtin "__main__.__loader__#opaque"), kS P "__spec__" 169 (.none), kR P "__annotations__" 170 6, kR P "__builtins__" 171 4, kS P "__file__" 173 (.str "/claim/cut.py" 172), kS P "__cached__" 174 (.none)] 9, #[]⟩,
 ⟨.type "module", some (0), .plain, #[]⟩,
 ⟨.type "module", some (3), .plain, #[]⟩,
 ⟨.type "dict", none, .dict #[] 0, #[]⟩,
 q0 P,
 q1 P,
 q12 P "<module>" 176 177 178 1 7 175 8 179 180,
 q24 P 9,
 q0 P,
 q1 P,
 q12 P "<module>" 182 183 184 1 11 181 12 185 186,
 q24 P 13]
def oA (P : Params) : List Obj := oA0 P
def trA (P : Params) : BT := mkT (oA P)
def sA (w : World) (os : OsState) : SharedT := ⟨trA w.params, 15, (boot_heap w.params).life, #[], boot_drawn, 187, os⟩
def trZ (P : Params) : BT := (trA P)
def sZ (w : World) (os : OsState) : SharedT := ⟨trZ w.params, 15, (boot_heap w.params).life, #[], boot_drawn, 187, os⟩
def cB3 (P : Params) : Obj := ⟨.type "dict", none, .dict #[kS P "__name__" 165 (.str "law_sightlore_k06_papers_read" 603), kS P "__doc__" 166 (.none), kS P "__package__" 167 (.none), kS P "__loader__" 168 (.builtin "__main__.__loader__#opaque"), kS P "__spec__" 169 (.none), kR P "__annotations__" 170 6, kR P "__builtins__" 171 4, kS P "__file__" 173 (.str "/claim/cut.py" 172), kS P "__cached__" 174 (.none), kR P "LoreError" 215 31, kR P "TextError" 231 44, kR P "BadText" 256 63, kS P "LETTERS" 260 (.str "abcdefghijklmnopqrstuvwxyz" 259), kS P "FIGURES" 262 (.str "0123456789" 261), kR P "KEPT" 273 66, kS P "MOST_SIGNS" 275 (.int 12 274), kS P "MOST_FIGURES" 277 (.int 30 276), kR P "is_word" 283 71, kR P "is_name" 290 78, kR P "is_number" 296 83, kS P "SIGNS" 300 (.str "(),_+-*=<>" 299), kS P "RUN" 304 (.str "abcdefghijklmnopqrstuvwxyz0123456789." 303), kR P "run_end" 312 90, kR P "is_full" 318 95, kR P "run_thing" 326 102, kR P "word_thing" 335 109, kR P "begins_number" 344 116, kR P "next_thing" 354 123, kR P "things_of" 364 130, kS P "MOST_TERMS" 368 (.int 4 367), kS P "MOST_PARTS" 370 (.int 6 369), kS P "MOST_DEEP" 372 (.int 12 371), kR P "TESTS" 379 131, kR P "FOLDS" 383 132, kR P "Row" 494 217, kR P "read_leaf" 503 228, kR P "read_product" 512 235, kR P "read_sum" 522 242, kR P "read_test" 531 249, kR P "read_term" 538 256, kR P "read_atom" 548 263, kR P "read_part" 556 270, kR P "read_parts" 565 277, kR P "read_arg" 574 284, kR P "read_args" 580 289, kR P "read_rule" 591 296, kR P "read_paper" 602 303, kR P "_law_bag" 614 310, kR P "_law_pull" 626 317, kR P "_law_one" 634 324, kR P "_law_same" 640 329, kR P "_law_barred" 647 336, kR P "_law_word" 657 343, kR P "_law_run" 666 350, kR P "_law_is_word" 672 355, kR P "_law_is_name" 679 362, kR P "_law_figures" 685 367, kR P "_law_run_thing" 691 372, kR P "_law_thing" 705 379, kR P "_law_things" 716 386, kR P "_law_leaf_read" 730 393, kR P "_law_sum_read" 745 400, kR P "_law_test_read" 757 407, kR P "_law_term_read" 768 414, kR P "_law_atom_read" 784 421, kR P "_law_part_read" 797 428, kR P "_law_parts_read" 810 435, kR P "_law_arg_read" 822 442, kR P "_law_args_read" 828 447, kR P "_law_rule_read" 838 454, kR P "_law_question_read" 848 461, kR P "_law_tests_read" 859 468, kR P "_law_read_due" 871 475, kR P "_law_plain_text" 877 480, kR P "_law_bent" 891 487, kR P "_law_told" 901 494, kR P "law" 907 499] 77, #[]⟩
def cB12 (P : Params) : Obj := ⟨.none, none, .fields #[.int 2 0, .int 0 0, .ref 20, .int 7 0, .int 0 0, .ref 40, .int 9 0, .int 0 0, .ref 52, .int 20 0, .int 0 0, .ref 70, .int 24 0, .int 0 0, .ref 77, .int 26 0, .int 0 0, .ref 82, .int 34 0, .int 0 0, .ref 89, .int 38 0, .int 0 0, .ref 94, .int 41 0, .int 0 0, .ref 101, .int 53 0, .int 0 0, .ref 108, .int 58 0, .int 0 0, .ref 115, .int 64 0, .int 0 0, .ref 122, .int 75 0, .int 0 0, .ref 129, .int 92 0, .int 0 0, .ref 138, .int 133 0, .int 0 0, .ref 227, .int 144 0, .int 0 0, .ref 234, .int 150 0, .int 0 0, .ref 241, .int 156 0, .int 0 0, .ref 248, .int 162 0, .int 0 0, .ref 255, .int 169 0, .int 0 0, .ref 262, .int 182 0, .int 0 0, .ref 269, .int 193 0, .int 0 0, .ref 276, .int 201 0, .int 0 0, .ref 283, .int 210 0, .int 0 0, .ref 288, .int 218 0, .int 0 0, .ref 295, .int 230 0, .int 0 0, .ref 302, .int 241 0, .int 0 0, .ref 309, .int 247 0, .int 0 0, .ref 316, .int 261 0, .int 0 0, .ref 323, .int 263 0, .int 0 0, .ref 328, .int 270 0, .int 0 0, .ref 335, .int 272 0, .int 0 0, .ref 342, .int 278 0, .int 0 0, .ref 349, .int 283 0, .int 0 0, .ref 354, .int 287 0, .int 0 0, .ref 361, .int 289 0, .int 0 0, .ref 366, .int 293 0, .int 0 0, .ref 371, .int 307 0, .int 0 0, .ref 378, .int 321 0, .int 0 0, .ref 385, .int 334 0, .int 0 0, .ref 392, .int 346 0, .int 0 0, .ref 399, .int 356 0, .int 0 0, .ref 406, .int 363 0, .int 0 0, .ref 413, .int 370 0, .int 0 0, .ref 420, .int 389 0, .int 0 0, .ref 427, .int 399 0, .int 0 0, .ref 434, .int 410 0, .int 0 0, .ref 441, .int 421 0, .int 0 0, .ref 446, .int 433 0, .int 0 0, .ref 453, .int 448 0, .int 0 0, .ref 460, .int 456 0, .int 0 0, .ref 467, .int 468 0, .int 0 0, .ref 474, .int 482 0, .int 0 0, .ref 479, .int 495 0, .int 0 0, .ref 486, .int 512 0, .int 0 0, .ref 493, .int 520 0, .int 0 0, .ref 498], #[]⟩
def oB0 (P : Params) : List Obj := [
 ⟨.type "tuple", none, .seq #[.type "ValueError"] 0, #[]⟩,
 q17 P,
 ⟨.type "dict", none, .dict #[kS P "__module__" 196 (.str "sightlore.errors" 187), kS P "__qualname__" 198 (.str "LoreError" 197), kS P "__firstlineno__" 200 (.int 2 199), kR P "__init__" 208 28, kR P "__static_attributes__" 210 29] 5, #[]⟩,
 q0 P,
 ⟨.none, none, .fields #[.int 4 0, .int 4 0, .ref 27], #[]⟩,
 q12 P "LoreError" 191 192 193 2 18 181 19 194 195,
 q18 P 20 17 "sightlore.errors" 187,
 q0 P,
 q1 P,
 q8 P "self" 204 "word" 205,
 q0 P,
 q22 P "LoreError.__init__" 1,
 q9 P "__init__" 201 "LoreError.__init__" 202 203 4 2 22 23 24 25 26 206 207,
 ⟨.type "function", none, .func ⟨"__init__", "LoreError.__init__", defArgs (methS 1 0), .stmts (defBody (methS 1 0)), defScope (methS 1 0), 3, [], .none, .none, .none, .str "sightlore.errors" 187, none, .ref 27, .none, 0⟩, #[]⟩,
 q10 P "word" 209,
 ⟨.type "dict", none, .dict #[kS P "__module__" 196 (.str "sightlore.errors" 187), kS P "__firstlineno__" 200 (.int 2 199), kR P "__init__" 208 28, kR P "__static_attributes__" 210 29, kR P "__weakref__" 212 32, kS P "__doc__" 213 (.none)] 3, #[]⟩,
 ⟨.type "type", none, .cls ⟨"LoreError", [.type "ValueError"], [.ref 31, .type "ValueError", .type "Exception", .type "BaseException", .type "object"], 30, "LoreError", true, [], [.ref 44], false, none, false⟩, #[some (.ref 15), none, some (.str "LoreError" 189), some (.str "LoreError" 197), some (.builtin "ValueError.__new__"), some (.bool true)]⟩,
 q25 P 211 31,
 q19 P 31,
 q20 P 31,
 ⟨.type "tuple", none, .seq #[.ref 31] 0, #[]⟩,
 q17 P,
 ⟨.type "dict", none, .dict #[kS P "__module__" 223 (.str "sightlore.errors" 187), kS P "__qualname__" 225 (.str "TextError" 224), kS P "__firstlineno__" 227 (.int 7 226), kR P "__static_attributes__" 228 42] 4, #[]⟩,
 q0 P,
 q1 P,
 q12 P "TextError" 218 219 220 7 38 181 39 221 222,
 q18 P 40 37 "sightlore.errors" 187,
 q0 P,
 ⟨.type "dict", none, .dict #[kS P "__module__" 223 (.str "sightlore.errors" 187), kS P "__firstlineno__" 227 (.int 7 226), kR P "__static_attributes__" 228 42, kS P "__doc__" 229 (.none)] 2, #[]⟩,
 ⟨.type "type", none, .cls ⟨"TextError", [.ref 31], [.ref 44, .ref 31, .type "ValueError", .type "Exception", .type "BaseException", .type "object"], 43, "TextError", true, [], [.ref 63], false, none, false⟩, #[some (.ref 35), none, some (.str "TextError" 216), some (.str "TextError" 224), some (.builtin "ValueError.__new__"), some (.bool true)]⟩,
 q19 P 44,
 q20 P 44,
 ⟨.type "tuple", none, .seq #[.ref 44] 0, #[]⟩,
 q17 P,
 ⟨.type "dict", none, .dict #[kS P "__module__" 239 (.str "sightlore.errors" 187), kS P "__qualname__" 241 (.str "BadText" 240), kS P "__firstlineno__" 243 (.int 9 242), kR P "__init__" 251 60, kR P "__static_attributes__" 253 61] 5, #[]⟩,
 q0 P,
 ⟨.none, none, .fields #[.int 11 0, .int 4 0, .ref 59], #[]⟩,
 q12 P "BadText" 234 235 236 9 50 181 51 237 238,
 q18 P 52 49 "sightlore.errors" 187,
 q0 P]
def oB1 (P : Params) : List Obj := [
 q1 P,
 q8 P "self" 247 "at" 248,
 q0 P,
 q22 P "BadText.__init__" 3,
 q9 P "__init__" 244 "BadText.__init__" 245 246 11 2 54 55 56 57 58 249 250,
 ⟨.type "function", none, .func ⟨"__init__", "BadText.__init__", defArgs (methS 3 0), .stmts (defBody (methS 3 0)), defScope (methS 3 0), 3, [], .none, .none, .none, .str "sightlore.errors" 187, none, .ref 59, .none, 0⟩, #[]⟩,
 q10 P "at" 252,
 ⟨.type "dict", none, .dict #[kS P "__module__" 239 (.str "sightlore.errors" 187), kS P "__firstlineno__" 243 (.int 9 242), kR P "__init__" 251 60, kR P "__static_attributes__" 253 61, kS P "__doc__" 254 (.none)] 2, #[]⟩,
 ⟨.type "type", none, .cls ⟨"BadText", [.ref 44], [.ref 63, .ref 44, .ref 31, .type "ValueError", .type "Exception", .type "BaseException", .type "object"], 62, "BadText", true, [], [], false, none, false⟩, #[some (.ref 47), none, some (.str "BadText" 232), some (.str "BadText" 240), some (.builtin "ValueError.__new__"), some (.bool true)]⟩,
 q19 P 63,
 q20 P 63,
 ⟨.type "tuple", none, .seq #[.str "if" 263, .str "not" 264, .str "is" 265, .str "count" 266, .str "sum" 267, .str "least" 268, .str "most" 269, .str "yes" 270, .str "no" 271, .str "me" 272] 0, #[]⟩,
 q0 P,
 q1 P,
 q2 P "is_word" 10,
 q5 P "is_word" 278 279 280 20 1 67 68 69 281 282,
 q3 P "is_word" 10 "sightlore.values" 257 70,
 q0 P,
 q1 P,
 q10 P "text" 287,
 q0 P,
 q2 P "is_name" 11,
 q4 P "is_name" 284 285 286 24 1 72 73 74 75 76 288 289,
 q3 P "is_name" 11 "sightlore.values" 257 77,
 q0 P,
 q1 P,
 q2 P "is_number" 12,
 q5 P "is_number" 291 292 293 26 1 79 80 81 294 295,
 q3 P "is_number" 12 "sightlore.values" 257 82,
 q0 P,
 q1 P,
 q8 P "text" 308 "at" 309,
 q0 P,
 q2 P "run_end" 16,
 q4 P "run_end" 305 306 307 34 2 84 85 86 87 88 310 311,
 q3 P "run_end" 16 "sightlore.things" 297 89,
 q0 P,
 q1 P,
 q2 P "is_full" 17,
 q5 P "is_full" 313 314 315 38 1 91 92 93 316 317]
def oB2 (P : Params) : List Obj := [
 q3 P "is_full" 17 "sightlore.things" 297 94,
 q0 P,
 q1 P,
 q8 P "run" 322 "at" 323,
 q0 P,
 q2 P "run_thing" 18,
 q4 P "run_thing" 319 320 321 41 2 96 97 98 99 100 324 325,
 q3 P "run_thing" 18 "sightlore.things" 297 101,
 q0 P,
 q1 P,
 q6 P "text" 330 "at" 331 "end" 332,
 q0 P,
 q2 P "word_thing" 19,
 q4 P "word_thing" 327 328 329 53 2 103 104 105 106 107 333 334,
 q3 P "word_thing" 19 "sightlore.things" 297 108,
 q0 P,
 q1 P,
 q6 P "text" 339 "at" 340 "things" 341,
 q0 P,
 q2 P "begins_number" 20,
 q13 P "begins_number" 336 337 338 58 110 111 112 113 114 342 343,
 q3 P "begins_number" 20 "sightlore.things" 297 115,
 q0 P,
 q1 P,
 q7 P "text" 348 "at" 349 "things" 350 "end" 351,
 q0 P,
 q2 P "next_thing" 21,
 q13 P "next_thing" 345 346 347 64 117 118 119 120 121 352 353,
 q3 P "next_thing" 21 "sightlore.things" 297 122,
 q0 P,
 q1 P,
 q7 P "text" 358 "found" 359 "at" 360 "thing" 361,
 q0 P,
 q2 P "things_of" 22,
 q4 P "things_of" 355 356 357 75 1 124 125 126 127 128 362 363,
 q3 P "things_of" 22 "sightlore.things" 297 129,
 q14 P "=" 373 "!=" 374 "<" 375 "<=" 376 ">" 377 ">=" 378,
 q6 P "sum" 380 "least" 381 "most" 382,
 q0 P,
 q17 P]
def oB3 (P : Params) : List Obj := [
 ⟨.type "dict", none, .dict #[kS P "__module__" 391 (.str "sightlore.reader" 365), kS P "__qualname__" 393 (.str "Row" 392), kS P "__firstlineno__" 395 (.int 92 394), kR P "__init__" 407 147, kR P "sort_here" 416 155, kR P "thing" 425 163, kR P "is_sign" 435 171, kR P "is_kept" 445 179, kR P "wrong" 452 186, kR P "step" 460 193, kR P "need_sign" 468 200, kR P "need_name" 475 207, kR P "need_end" 482 214, kR P "__static_attributes__" 487 215] 14, #[]⟩,
 q0 P,
 ⟨.none, none, .fields #[.int 94 0, .int 4 0, .ref 146, .int 100 0, .int 4 0, .ref 154, .int 103 0, .int 4 0, .ref 162, .int 106 0, .int 4 0, .ref 170, .int 109 0, .int 4 0, .ref 178, .int 112 0, .int 4 0, .ref 185, .int 115 0, .int 4 0, .ref 192, .int 120 0, .int 4 0, .ref 199, .int 125 0, .int 4 0, .ref 206, .int 130 0, .int 4 0, .ref 213], #[]⟩,
 q12 P "Row" 386 387 388 92 136 181 137 389 390,
 q18 P 138 135 "sightlore.reader" 365,
 ⟨.type "dict", none, .dict #[kS P "mine" 396 (.bool false), kS P "plain" 397 (.bool true)] 2, #[]⟩,
 q0 P,
 q1 P,
 q7 P "self" 401 "text" 402 "mine" 403 "plain" 404,
 q0 P,
 q22 P "Row.__init__" 29,
 ⟨.type "code", none, .fields #[.str "__init__" 398, .str "Row.__init__" 399, .str "/claim/cut.py" 400, .int 94 0, .int 2 0, .int 0 0, .int 2 0, .int 3 0, .ref 141, .bool true, .int 181 0, .ref 142, .none, .ref 143, .ref 144, .ref 145, .int 405 0, .int 94 0, .str "/claim/cut.py" 406], #[]⟩,
 ⟨.type "function", none, .func ⟨"__init__", "Row.__init__", defArgs (methS 29 0), .stmts (defBody (methS 29 0)), defScope (methS 29 0), 3, [], .none, .ref 140, .none, .str "sightlore.reader" 365, none, .ref 146, .none, 0⟩, #[]⟩,
 q21 P 408,
 q0 P,
 q1 P,
 q8 P "self" 412 "ahead" 413,
 q0 P,
 q11 P "sort_here" "Row.sort_here" 1,
 q9 P "sort_here" 409 "Row.sort_here" 410 411 100 2 149 150 151 152 153 414 415,
 q23 P "sort_here" "Row.sort_here" 1 148 154,
 q21 P 417,
 q0 P,
 q1 P,
 q8 P "self" 421 "ahead" 422,
 q0 P,
 q11 P "thing" "Row.thing" 2,
 q9 P "thing" 418 "Row.thing" 419 420 103 2 157 158 159 160 161 423 424,
 q23 P "thing" "Row.thing" 2 156 162,
 q21 P 426,
 q0 P,
 q1 P,
 q6 P "self" 430 "sign" 431 "ahead" 432,
 q0 P,
 q11 P "is_sign" "Row.is_sign" 3,
 ⟨.type "code", none, .fields #[.str "is_sign" 427, .str "Row.is_sign" 428, .str "/claim/cut.py" 429, .int 106 0, .int 3 0, .int 0 0, .int 0 0, .int 3 0, .ref 165, .bool true, .int 181 0, .ref 166, .none, .ref 167, .ref 168, .ref 169, .int 433 0, .int 106 0, .str "/claim/cut.py" 434], #[]⟩,
 ⟨.type "function", none, .func ⟨"is_sign", "Row.is_sign", defArgs (methS 29 3), .stmts (defBody (methS 29 3)), defScope (methS 29 3), 3, [], .ref 164, .none, .none, .str "sightlore.reader" 365, none, .ref 170, .none, 0⟩, #[]⟩,
 q21 P 436,
 q0 P,
 q1 P]
def oB4 (P : Params) : List Obj := [
 q6 P "self" 440 "word" 441 "ahead" 442,
 q0 P,
 q11 P "is_kept" "Row.is_kept" 4,
 ⟨.type "code", none, .fields #[.str "is_kept" 437, .str "Row.is_kept" 438, .str "/claim/cut.py" 439, .int 109 0, .int 3 0, .int 0 0, .int 0 0, .int 3 0, .ref 173, .bool true, .int 181 0, .ref 174, .none, .ref 175, .ref 176, .ref 177, .int 443 0, .int 109 0, .str "/claim/cut.py" 444], #[]⟩,
 q23 P "is_kept" "Row.is_kept" 4 172 178,
 q0 P,
 q1 P,
 q10 P "self" 449,
 q0 P,
 q11 P "wrong" "Row.wrong" 5,
 q9 P "wrong" 446 "Row.wrong" 447 448 112 1 180 181 182 183 184 450 451,
 q15 P "wrong" "Row.wrong" 5 185,
 q0 P,
 q1 P,
 q8 P "self" 456 "found" 457,
 q0 P,
 q11 P "step" "Row.step" 6,
 q9 P "step" 453 "Row.step" 454 455 115 1 187 188 189 190 191 458 459,
 q15 P "step" "Row.step" 6 192,
 q0 P,
 q1 P,
 q8 P "self" 464 "sign" 465,
 q0 P,
 q11 P "need_sign" "Row.need_sign" 7,
 q9 P "need_sign" 461 "Row.need_sign" 462 463 120 2 194 195 196 197 198 466 467,
 q15 P "need_sign" "Row.need_sign" 7 199,
 q0 P,
 q1 P,
 q10 P "self" 472,
 q0 P,
 q11 P "need_name" "Row.need_name" 8,
 q9 P "need_name" 469 "Row.need_name" 470 471 125 1 201 202 203 204 205 473 474,
 q15 P "need_name" "Row.need_name" 8 206,
 q0 P,
 q1 P,
 q10 P "self" 479,
 q0 P,
 q11 P "need_end" "Row.need_end" 9,
 q9 P "need_end" 476 "Row.need_end" 477 478 130 1 208 209 210 211 212 480 481,
 q15 P "need_end" "Row.need_end" 9 213]
def oB5 (P : Params) : List Obj := [
 q7 P "mine" 483 "plain" 484 "spot" 485 "things" 486,
 ⟨.type "dict", none, .dict #[kS P "__module__" 391 (.str "sightlore.reader" 365), kS P "__firstlineno__" 395 (.int 92 394), kR P "__init__" 407 147, kR P "sort_here" 416 155, kR P "thing" 425 163, kR P "is_sign" 435 171, kR P "is_kept" 445 179, kR P "wrong" 452 186, kR P "step" 460 193, kR P "need_sign" 468 200, kR P "need_name" 475 207, kR P "need_end" 482 214, kR P "__static_attributes__" 487 215, kR P "__dict__" 489 218, kR P "__weakref__" 491 219, kS P "__doc__" 492 (.none)] 4, #[]⟩,
 ⟨.type "type", none, .cls ⟨"Row", [.type "object"], [.ref 217, .type "object"], 216, "Row", true, [], [], false, none, false⟩, #[none, none, some (.str "Row" 384), some (.str "Row" 392), some (.builtin "object.__new__"), some (.bool true)]⟩,
 ⟨.type "getset_descriptor", none, .fields #[.str "__dict__" 488, .ref 217, .builtin "function.__dict__", .builtin "function.__dict__#set"], #[]⟩,
 q25 P 490 217,
 q19 P 217,
 q20 P 217,
 q0 P,
 q1 P,
 q6 P "row" 498 "deep" 499 "found" 500,
 q0 P,
 q2 P "read_leaf" 30,
 q4 P "read_leaf" 495 496 497 133 2 222 223 224 225 226 501 502,
 q3 P "read_leaf" 30 "sightlore.reader" 365 227,
 q0 P,
 q1 P,
 q6 P "row" 507 "deep" 508 "found" 509,
 q0 P,
 q2 P "read_product" 31,
 q4 P "read_product" 504 505 506 144 2 229 230 231 232 233 510 511,
 q3 P "read_product" 31 "sightlore.reader" 365 234,
 q0 P,
 q1 P,
 q7 P "row" 516 "deep" 517 "found" 518 "sign" 519,
 q0 P,
 q2 P "read_sum" 32,
 q4 P "read_sum" 513 514 515 150 2 236 237 238 239 240 520 521,
 q3 P "read_sum" 32 "sightlore.reader" 365 241,
 q0 P,
 q1 P,
 q6 P "row" 526 "one" 527 "sign" 528,
 q0 P,
 q2 P "read_test" 33,
 q4 P "read_test" 523 524 525 156 1 243 244 245 246 247 529 530,
 q3 P "read_test" 33 "sightlore.reader" 365 248,
 q0 P,
 q1 P,
 q10 P "row" 535,
 q0 P,
 q2 P "read_term" 34]
def oB6 (P : Params) : List Obj := [
 q4 P "read_term" 532 533 534 162 1 250 251 252 253 254 536 537,
 q3 P "read_term" 34 "sightlore.reader" 365 255,
 q0 P,
 q1 P,
 q7 P "row" 542 "word" 543 "name" 544 "terms" 545,
 q0 P,
 q2 P "read_atom" 35,
 q4 P "read_atom" 539 540 541 169 2 257 258 259 260 261 546 547,
 q3 P "read_atom" 35 "sightlore.reader" 365 262,
 q0 P,
 q1 P,
 q8 P "row" 552 "name" 553,
 q0 P,
 q2 P "read_part" 36,
 q4 P "read_part" 549 550 551 182 1 264 265 266 267 268 554 555,
 q3 P "read_part" 36 "sightlore.reader" 365 269,
 q0 P,
 q1 P,
 q6 P "row" 560 "most" 561 "found" 562,
 q0 P,
 q2 P "read_parts" 37,
 q4 P "read_parts" 557 558 559 193 2 271 272 273 274 275 563 564,
 q3 P "read_parts" 37 "sightlore.reader" 365 276,
 q0 P,
 q1 P,
 q6 P "row" 569 "folded" 570 "how" 571,
 q0 P,
 q2 P "read_arg" 38,
 q4 P "read_arg" 566 567 568 201 2 278 279 280 281 282 572 573,
 q3 P "read_arg" 38 "sightlore.reader" 365 283,
 q0 P,
 q1 P,
 q2 P "read_args" 39,
 q5 P "read_args" 575 576 577 210 1 285 286 287 578 579,
 q3 P "read_args" 39 "sightlore.reader" 365 288,
 q0 P,
 q1 P,
 q16 P "text" 584 "row" 585 "head" 586 "args" 587 "parts" 588,
 q0 P,
 q2 P "read_rule" 40]
def oB7 (P : Params) : List Obj := [
 q4 P "read_rule" 581 582 583 218 1 290 291 292 293 294 589 590,
 q3 P "read_rule" 40 "sightlore.reader" 365 295,
 q0 P,
 q1 P,
 q16 P "text" 595 "found" 596 "place" 597 "line" 598 "e" 599,
 q0 P,
 q2 P "read_paper" 41,
 q4 P "read_paper" 592 593 594 230 1 297 298 299 300 301 600 601,
 q3 P "read_paper" 41 "sightlore.reader" 365 302,
 q0 P,
 q1 P,
 q7 P "_law_script" 608 "_law_cells" 609 "_law_knot" 610 "_law_cell" 611,
 q0 P,
 q2 P "_law_bag" 43,
 q4 P "_law_bag" 605 606 607 241 1 304 305 306 307 308 612 613,
 q3 P "_law_bag" 43 "law_sightlore_k06_papers_read" 603 309,
 q0 P,
 q1 P,
 q14 P "_law_bag_here" 618 "_law_upto" 619 "_law_seed" 620 "_law_fold" 621 "_law_twist" 622 "_law_drawn" 623,
 q0 P,
 q2 P "_law_pull" 44,
 q4 P "_law_pull" 615 616 617 247 2 311 312 313 314 315 624 625,
 q3 P "_law_pull" 44 "law_sightlore_k06_papers_read" 603 316,
 q0 P,
 q1 P,
 q8 P "_law_bag_here" 630 "_law_row" 631,
 q0 P,
 q2 P "_law_one" 45,
 q4 P "_law_one" 627 628 629 261 2 318 319 320 321 322 632 633,
 q3 P "_law_one" 45 "law_sightlore_k06_papers_read" 603 323,
 q0 P,
 q1 P,
 q2 P "_law_same" 46,
 q5 P "_law_same" 635 636 637 263 2 325 326 327 638 639,
 q3 P "_law_same" 46 "law_sightlore_k06_papers_read" 603 328,
 q0 P,
 q1 P,
 q10 P "_law_word_here" 644,
 q0 P,
 q2 P "_law_barred" 47]
def oB8 (P : Params) : List Obj := [
 q4 P "_law_barred" 641 642 643 270 1 330 331 332 333 334 645 646,
 q3 P "_law_barred" 47 "law_sightlore_k06_papers_read" 603 335,
 q0 P,
 q1 P,
 q7 P "_law_bag_here" 651 "_law_signs" 652 "_law_word_here" 653 "_law_k" 654,
 q0 P,
 q2 P "_law_word" 48,
 q4 P "_law_word" 648 649 650 272 1 337 338 339 340 341 655 656,
 q3 P "_law_word" 48 "law_sightlore_k06_papers_read" 603 342,
 q0 P,
 q1 P,
 q6 P "_law_text" 661 "_law_spot" 662 "_law_end" 663,
 q0 P,
 q2 P "_law_run" 49,
 q4 P "_law_run" 658 659 660 278 2 344 345 346 347 348 664 665,
 q3 P "_law_run" 49 "law_sightlore_k06_papers_read" 603 349,
 q0 P,
 q1 P,
 q2 P "_law_is_word" 50,
 q5 P "_law_is_word" 667 668 669 283 1 351 352 353 670 671,
 q3 P "_law_is_word" 50 "law_sightlore_k06_papers_read" 603 354,
 q0 P,
 q1 P,
 q10 P "_law_text" 676,
 q0 P,
 q2 P "_law_is_name" 51,
 q4 P "_law_is_name" 673 674 675 287 1 356 357 358 359 360 677 678,
 q3 P "_law_is_name" 51 "law_sightlore_k06_papers_read" 603 361,
 q0 P,
 q1 P,
 q2 P "_law_figures" 52,
 q5 P "_law_figures" 680 681 682 289 1 363 364 365 683 684,
 q3 P "_law_figures" 52 "law_sightlore_k06_papers_read" 603 366,
 q0 P,
 q1 P,
 q2 P "_law_run_thing" 53,
 q5 P "_law_run_thing" 686 687 688 293 2 368 369 370 689 690,
 q3 P "_law_run_thing" 53 "law_sightlore_k06_papers_read" 603 371,
 q0 P,
 q1 P]
def oB9 (P : Params) : List Obj := [
 ⟨.type "tuple", none, .seq #[.str "_law_text" 695, .str "_law_spot" 696, .str "_law_things_here" 697, .str "_law_here" 698, .str "_law_end" 699, .str "_law_good" 700, .str "_law_free" 701, .str "_law_minus" 702] 0, #[]⟩,
 q0 P,
 q2 P "_law_thing" 54,
 q13 P "_law_thing" 692 693 694 307 373 374 375 376 377 703 704,
 q3 P "_law_thing" 54 "law_sightlore_k06_papers_read" 603 378,
 q0 P,
 q1 P,
 q16 P "_law_text" 709 "_law_things_here" 710 "_law_spot" 711 "_law_thing_here" 712 "_law_end" 713,
 q0 P,
 q2 P "_law_things" 55,
 q4 P "_law_things" 706 707 708 321 1 380 381 382 383 384 714 715,
 q3 P "_law_things" 55 "law_sightlore_k06_papers_read" 603 385,
 q0 P,
 q1 P,
 ⟨.type "tuple", none, .seq #[.str "_law_things_here" 720, .str "_law_spot" 721, .str "_law_deep" 722, .str "_law_mine_too" 723, .str "_law_sort" 724, .str "_law_thing_here" 725, .str "_law_place" 726, .str "_law_found" 727] 0, #[]⟩,
 q0 P,
 q2 P "_law_leaf_read" 56,
 q4 P "_law_leaf_read" 717 718 719 334 4 387 388 389 390 391 728 729,
 q3 P "_law_leaf_read" 56 "law_sightlore_k06_papers_read" 603 392,
 q0 P,
 q1 P,
 ⟨.type "tuple", none, .seq #[.str "_law_things_here" 734, .str "_law_spot" 735, .str "_law_deep" 736, .str "_law_mine_too" 737, .str "_law_level" 738, .str "_law_signs" 739, .str "_law_found" 740, .str "_law_sign" 741, .str "_law_other" 742] 0, #[]⟩,
 q0 P,
 q2 P "_law_sum_read" 57,
 q4 P "_law_sum_read" 731 732 733 346 5 394 395 396 397 398 743 744,
 q3 P "_law_sum_read" 57 "law_sightlore_k06_papers_read" 603 399,
 q0 P,
 q1 P,
 q14 P "_law_things_here" 749 "_law_spot" 750 "_law_mine_too" 751 "_law_one_here" 752 "_law_sign" 753 "_law_other" 754,
 q0 P,
 q2 P "_law_test_read" 58,
 q13 P "_law_test_read" 746 747 748 356 401 402 403 404 405 755 756,
 q3 P "_law_test_read" 58 "law_sightlore_k06_papers_read" 603 406,
 q0 P,
 q1 P,
 q16 P "_law_things_here" 761 "_law_spot" 762 "_law_sort" 763 "_law_thing_here" 764 "_law_place" 765,
 q0 P,
 q2 P "_law_term_read" 59,
 q4 P "_law_term_read" 758 759 760 363 2 408 409 410 411 412 766 767,
 q3 P "_law_term_read" 59 "law_sightlore_k06_papers_read" 603 413]
def oB10 (P : Params) : List Obj := [
 q0 P,
 q1 P,
 ⟨.type "tuple", none, .seq #[.str "_law_things_here" 772, .str "_law_spot" 773, .str "_law_word_here" 774, .str "_law_plain_too" 775, .str "_law_sort" 776, .str "_law_name" 777, .str "_law_place" 778, .str "_law_terms" 779, .str "_law_going" 780, .str "_law_term" 781] 0, #[]⟩,
 q0 P,
 q2 P "_law_atom_read" 60,
 q4 P "_law_atom_read" 769 770 771 370 4 415 416 417 418 419 782 783,
 q3 P "_law_atom_read" 60 "law_sightlore_k06_papers_read" 603 420,
 q0 P,
 q1 P,
 ⟨.type "tuple", none, .seq #[.str "_law_things_here" 788, .str "_law_spot" 789, .str "_law_plain_too" 790, .str "_law_sort" 791, .str "_law_thing_here" 792, .str "_law_place" 793, .str "_law_found" 794] 0, #[]⟩,
 q0 P,
 q2 P "_law_part_read" 61,
 q13 P "_law_part_read" 785 786 787 389 422 423 424 425 426 795 796,
 q3 P "_law_part_read" 61 "law_sightlore_k06_papers_read" 603 427,
 q0 P,
 q1 P,
 ⟨.type "tuple", none, .seq #[.str "_law_things_here" 801, .str "_law_spot" 802, .str "_law_plain_too" 803, .str "_law_most_parts" 804, .str "_law_parts" 805, .str "_law_going" 806, .str "_law_part" 807] 0, #[]⟩,
 q0 P,
 q2 P "_law_parts_read" 62,
 q4 P "_law_parts_read" 798 799 800 399 4 429 430 431 432 433 808 809,
 q3 P "_law_parts_read" 62 "law_sightlore_k06_papers_read" 603 434,
 q0 P,
 q1 P,
 q14 P "_law_things_here" 814 "_law_spot" 815 "_law_has_fold" 816 "_law_sort" 817 "_law_thing_here" 818 "_law_place" 819,
 q0 P,
 q2 P "_law_arg_read" 63,
 q13 P "_law_arg_read" 811 812 813 410 436 437 438 439 440 820 821,
 q3 P "_law_arg_read" 63 "law_sightlore_k06_papers_read" 603 441,
 q0 P,
 q1 P,
 q2 P "_law_args_read" 64,
 q5 P "_law_args_read" 823 824 825 421 2 443 444 445 826 827,
 q3 P "_law_args_read" 64 "law_sightlore_k06_papers_read" 603 446,
 q0 P,
 q1 P,
 q7 P "_law_things_here" 832 "_law_args" 833 "_law_spot" 834 "_law_parts" 835,
 q0 P,
 q2 P "_law_rule_read" 65,
 q4 P "_law_rule_read" 829 830 831 433 1 448 449 450 451 452 836 837,
 q3 P "_law_rule_read" 65 "law_sightlore_k06_papers_read" 603 453]
def oB11 (P : Params) : List Obj := [
 q0 P,
 q1 P,
 q7 P "_law_things_here" 842 "_law_args" 843 "_law_spot" 844 "_law_parts" 845,
 q0 P,
 q2 P "_law_question_read" 66,
 q4 P "_law_question_read" 839 840 841 448 1 455 456 457 458 459 846 847,
 q3 P "_law_question_read" 66 "law_sightlore_k06_papers_read" 603 460,
 q0 P,
 q1 P,
 q16 P "_law_things_here" 852 "_law_tests" 853 "_law_spot" 854 "_law_going" 855 "_law_test" 856,
 q0 P,
 q2 P "_law_tests_read" 67,
 q4 P "_law_tests_read" 849 850 851 456 1 462 463 464 465 466 857 858,
 q3 P "_law_tests_read" 67 "law_sightlore_k06_papers_read" 603 467,
 q0 P,
 q1 P,
 q14 P "_law_text" 863 "_law_which" 864 "_law_things_here" 865 "_law_wrong" 866 "_law_found" 867 "_law_spot" 868,
 q0 P,
 q2 P "_law_read_due" 68,
 q4 P "_law_read_due" 860 861 862 468 2 469 470 471 472 473 869 870,
 q3 P "_law_read_due" 68 "law_sightlore_k06_papers_read" 603 474,
 q0 P,
 q1 P,
 q2 P "_law_plain_text" 69,
 q5 P "_law_plain_text" 872 873 874 482 2 476 477 478 875 876,
 q3 P "_law_plain_text" 69 "law_sightlore_k06_papers_read" 603 479,
 q0 P,
 q1 P,
 ⟨.type "tuple", none, .seq #[.str "_law_bag_here" 881, .str "_law_text" 882, .str "_law_fork" 883, .str "_law_words" 884, .str "_law_spot" 885, .str "_law_some" 886, .str "_law_place" 887, .str "_law_sign" 888] 0, #[]⟩,
 q0 P,
 q2 P "_law_bent" 70,
 q4 P "_law_bent" 878 879 880 495 2 481 482 483 484 485 889 890,
 q3 P "_law_bent" 70 "law_sightlore_k06_papers_read" 603 486,
 q0 P,
 q1 P,
 q7 P "_law_text" 895 "_law_found" 896 "_law_place" 897 "e" 898,
 q0 P,
 q2 P "_law_told" 71,
 q4 P "_law_told" 892 893 894 512 1 488 489 490 491 492 899 900,
 q3 P "_law_told" 71 "law_sightlore_k06_papers_read" 603 493]
def oB12 (P : Params) : List Obj := [
 q0 P,
 q1 P,
 q2 P "law" 72,
 q5 P "law" 902 903 904 520 1 495 496 497 905 906,
 q3 P "law" 72 "law_sightlore_k06_papers_read" 603 498]
def oB (P : Params) : List Obj := oB0 P ++ (oB1 P ++ (oB2 P ++ (oB3 P ++ (oB4 P ++ (oB5 P ++ (oB6 P ++ (oB7 P ++ (oB8 P ++ (oB9 P ++ (oB10 P ++ (oB11 P ++ (oB12 P))))))))))))
def trB (P : Params) : BT := (addT (BT.set (BT.set (trZ P) 3 fun _ => cB3 P) 12 fun _ => cB12 P) 15 (oB P))
def sB (w : World) (os : OsState) : SharedT := ⟨trB w.params, 500, (boot_heap w.params).life, #[], boot_drawn, 908, os⟩
def frQ : Pos := ⟨0, 0, 0, 0⟩
theorem t_boot (w : World) : putAll (boot_heap w.params).objs.toList .nil 0 = some (mkT (boot_heap w.params).objs.toList, 11) := by kernel_rfl
theorem t_pre (w : World) (os : OsState) : topF (stQ PP w) 11 (bootAnn w) 12 (bootT w os (mkT (boot_heap w.params).objs.toList, 11)) (topStub PP) = some (sA w os, ⟨denQ tabQ cL, cL, (⟨0, 0, 0, 0⟩ : Pos), [topFrame frQ]⟩) := by kernel_rfl
theorem t_block (w : World) (os : OsState) : segF (stQ PP w) 11 (bootAnn w) 1 (sA w os) (blockOf topB envL cL (⟨0, 0, 0, 0⟩ : Pos) [topFrame frQ]) = some (.next, sZ w os, cL, (⟨0, 0, 0, 0⟩ : Pos)) := by kernel_rfl
def bB : List Stmt := (topB.drop 0).take 73
theorem t_B (w : World) : ∀ os : OsState, segF (stQ PP w) 11 (bootAnn w) 3443 (sZ w os) (piecesOf bB envL cL (⟨0, 0, 0, 0⟩ : Pos) [topFrame frQ]) = some (.next, sB w os, cL, (⟨520, 0, 541, 15⟩ : Pos)) := fun os => by kernel_rfl
theorem t_fin (w : World) (os : OsState) : HandSHeadRun.goF (stQ PP w) 11 (bootAnn w) 20 (sB w os) ⟨doneF .next, cL, (⟨520, 0, 541, 15⟩ : Pos), [topFrame frQ]⟩ = some (sB w os) := by kernel_rfl
theorem topB_cut : topB = bB ++ [] := by kernel_rfl
def stepsAll : Nat := 12 + (1 + (3443 + 20))
theorem runs (w : World) (os : OsState) : topRun treeTable PP w (boot_heap w.params).objs.size (bootAnn w) stepsAll ⟨boot_heap w.params, #[], boot_drawn, boot_toks, os⟩ (topStub PP) = some (sB w os).abs := by
 obtain ⟨h1, h2⟩ := boot_ok (t_boot w) (t_pre w os)
 rw [h1]
 refine go_top h2 ?_
 have e : denQ tabQ cL = denote treeTable (.body topB envL) := by rw [← denQ_eq, ← tabQ_eq]; rfl
 rw [e]
 refine piece_block (seg_ok (by rw [← stQ_eq]; exact t_block w os)) ?_
 have r : ∀ l : List Stmt, topB = l → topRun treeTable PP w 11 (bootAnn w) (3443 + 20) (sZ w os).abs (restOf l envL cL (⟨0, 0, 0, 0⟩ : Pos) [topFrame frQ]) = some (sB w os).abs → topRun treeTable PP w 11 (bootAnn w) (3443 + 20) (sZ w os).abs (restOf topB envL cL (⟨0, 0, 0, 0⟩ : Pos) [topFrame frQ]) = some (sB w os).abs := fun l e h => by rw [e]; exact h
 exact r _ topB_cut (PySem.W.piece_app (seg_ok (by rw [← stQ_eq]; exact t_B w os)) (PySem.W.piece_nil (goF_ok (by rw [← stQ_eq]; exact t_fin w os))))
def atO (l : Params → List Obj) (b : Nat) (P : Params) (i : Nat) : Addr × Obj := (i, ((l P)[i - b]?).getD default)
def kL0 (P : Params) : PySem.W.Frag := [(3, (cB3 P)), (12, (cB12 P))]
def kA0 : List Nat := [3, 12]
def kA1 : List Nat := [0, 1, 2, 4, 5, 6, 7, 8, 9, 10, 11, 13, 14]
def kA2 : List Nat := [31, 44, 15, 30, 35, 43, 47, 28, 29, 32, 42, 27, 22, 23, 24, 25, 26, 54]
def kA3 : List Nat := [63, 66, 71, 78, 83, 90, 62, 70, 77, 82, 89, 94, 60, 61, 67, 68, 69, 72, 73, 74, 75, 76, 79, 80, 81, 84, 85, 86, 87, 88, 91, 92, 93, 59, 55, 56, 57, 58]
def kA4 : List Nat := [95, 102, 109, 116, 123, 130, 131, 132, 101, 108, 115, 122, 129, 96, 97, 98, 99, 100, 103, 104, 105, 106, 107, 110, 111, 112, 113, 114, 117, 118, 119, 120, 121, 124, 125, 126, 127, 128]
def kA5 : List Nat := [217, 228, 235, 242, 249, 216, 227, 234, 241, 248, 215, 218, 219, 222, 223, 224, 225, 226, 229, 230, 231, 232, 233, 236, 237, 238, 239, 240, 243, 244, 245, 246, 247, 250, 251, 252, 253, 254]
def kA6 : List Nat := [256, 263, 270, 277, 284, 289, 255, 262, 269, 276, 283, 288, 257, 258, 259, 260, 261, 264, 265, 266, 267, 268, 271, 272, 273, 274, 275, 278, 279, 280, 281, 282, 285, 286, 287, 290, 291, 292, 293, 294]
def kA7 : List Nat := [296, 303, 310, 317, 324, 329, 295, 302, 309, 316, 323, 328, 297, 298, 299, 300, 301, 304, 305, 306, 307, 308, 311, 312, 313, 314, 315, 318, 319, 320, 321, 322, 325, 326, 327, 330, 331, 332, 333, 334]
def kA8 : List Nat := [336, 343, 350, 355, 362, 367, 372, 335, 342, 349, 354, 361, 366, 371, 337, 338, 339, 340, 341, 344, 345, 346, 347, 348, 351, 352, 353, 356, 357, 358, 359, 360, 363, 364, 365, 368, 369, 370, 373, 374]
def kA9 : List Nat := [379, 386, 393, 400, 407, 414, 378, 385, 392, 399, 406, 413, 375, 376, 377, 380, 381, 382, 383, 384, 387, 388, 389, 390, 391, 394, 395, 396, 397, 398, 401, 402, 403, 404, 405, 408, 409, 410, 411, 412]
def kA10 : List Nat := [421, 428, 435, 442, 447, 454, 420, 427, 434, 441, 446, 453, 415, 416, 417, 418, 419, 422, 423, 424, 425, 426, 429, 430, 431, 432, 433, 436, 437, 438, 439, 440, 443, 444, 445, 448, 449, 450, 451, 452]
def kA11 : List Nat := [461, 468, 475, 480, 487, 494, 460, 467, 474, 479, 486, 493, 455, 456, 457, 458, 459, 462, 463, 464, 465, 466, 469, 470, 471, 472, 473, 476, 477, 478, 481, 482, 483, 484, 485, 488, 489, 490, 491, 492]
def kA12 : List Nat := [499, 498, 495, 496, 497]
def kA13 : List Nat := [147, 155, 163, 171, 140, 146, 148, 154, 156, 162, 164, 170, 172, 141, 142, 143, 144, 145, 149, 150, 151, 152, 153, 157, 158, 159, 160, 161, 165, 166, 167, 168, 169, 173, 174]
def kA14 : List Nat := [179, 186, 193, 200, 207, 214, 178, 185, 192, 199, 206, 213, 175, 176, 177, 180, 181, 182, 183, 184, 187, 188, 189, 190, 191, 194, 195, 196, 197, 198, 201, 202, 203, 204, 205, 208, 209, 210, 211, 212]
def K0 (w : World) : PySem.W.Frag := kL0 w.params ++ (kA1.map (atO oA0 0 w.params) ++ (kA2.map (atO oB0 15 w.params) ++ (kA3.map (atO oB1 55 w.params) ++ (kA4.map (atO oB2 95 w.params) ++ (kA5.map (atO oB5 215 w.params) ++ (kA6.map (atO oB6 255 w.params) ++ (kA7.map (atO oB7 295 w.params) ++ (kA8.map (atO oB8 335 w.params) ++ (kA9.map (atO oB9 375 w.params) ++ (kA10.map (atO oB10 415 w.params) ++ (kA11.map (atO oB11 455 w.params) ++ (kA12.map (atO oB12 495 w.params) ++ (kA13.map (atO oB3 135 w.params) ++ (kA14.map (atO oB4 175 w.params)))))))))))))))
def asK : List Addr := kA0 ++ (kA1 ++ (kA2 ++ (kA3 ++ (kA4 ++ (kA5 ++ (kA6 ++ (kA7 ++ (kA8 ++ (kA9 ++ (kA10 ++ (kA11 ++ (kA12 ++ (kA13 ++ (kA14))))))))))))))
theorem asK_eq (w : World) : asK = (K0 w).map (·.1) := by kernel_rfl
end
def looseAll : List PySem.Str := (["LoreError", "TextError", "BadText", "is_word", "is_name", "is_number", "run_end", "is_full", "run_thing", "word_thing", "begins_number", "next_thing", "things_of", "Row", "read_leaf", "read_product", "read_sum", "read_test", "read_term", "read_atom"] : List PySem.Str) ++ (["read_part", "read_parts", "read_arg", "read_args", "read_rule", "read_paper", "_law_bag", "_law_pull", "_law_one", "_law_same", "_law_barred", "_law_word", "_law_run", "_law_is_word", "_law_is_name", "_law_figures", "_law_run_thing", "_law_thing", "_law_things", "_law_leaf_read"] : List PySem.Str) ++ (["_law_sum_read", "_law_test_read", "_law_term_read", "_law_atom_read", "_law_part_read", "_law_parts_read", "_law_arg_read", "_law_args_read", "_law_rule_read", "_law_question_read", "_law_tests_read", "_law_read_due", "_law_plain_text", "_law_bent", "_law_told", "LETTERS", "FIGURES", "KEPT", "MOST_SIGNS", "MOST_FIGURES"] : List PySem.Str) ++ (["SIGNS", "RUN", "MOST_TERMS", "MOST_PARTS", "MOST_DEEP", "TESTS", "FOLDS"] : List PySem.Str)
noncomputable section
open PySem.W HandSHeadRun PySem.Calls in
abbrev hk : PySem.W.Hook := SL.hookK asK K0 asK_eq
section
open PySem.W HandSHeadRun PySem.Calls
abbrev qq : Program := PySem.W.view PP [72]
theorem hd_look1 (w : World) (os : OsState) : HandSHeadRun.looksF PP (boot_heap w.params) (sB w os).abs = true := by kernel_rfl
theorem hd_look2 (w : World) (os : OsState) : HandSHeadRun.seenQ qq looseAll (importedModules PP.main.body) (fun s => PySem.W.xlAt qq [] s && PySem.W.recOk RR.toRowW.records s) (sB w os).abs = PySem.W.openGood qq looseAll := by kernel_rfl
theorem hd_look3 (w : World) (os : OsState) : asK.map (HandSHeadRun.getT (sB w os)) = (K0 w).map fun p => some p.2 := by kernel_rfl
theorem runAll (w : World) (os : OsState) : ∃ s : Shared, topRun treeTable PP w (boot_heap w.params).objs.size (HandSHeadRun.bootAnn w) stepsAll ⟨boot_heap w.params, #[], boot_drawn, boot_toks, os⟩ (topStub PP) = some s ∧ HandSHeadRun.looksF PP (boot_heap w.params) s = true ∧
  PySem.W.openSeen qq looseAll (importedModules PP.main.body) (fun s => PySem.W.xlAt qq [] s && PySem.W.recOk RR.toRowW.records s) true s = PySem.W.openGood qq looseAll ∧ hk.obs s = hk.val w :=
 ⟨(sB w os).abs, runs w os, hd_look1 w os, (HandSHeadRun.seenQ_eq _ _ _ _ _).trans (hd_look2 w os), SL.hookK_obs (hd_look3 w os)⟩
set_option maxHeartbeats 0 in
theorem early_holds (call : WalkO qq looseAll (XL qq []) hk.says (OpenLaw.row PySem.Challenge.rw_sightlore_k06_papers_read).toRowW (HandSHeadRun.topDef (OpenLaw.row PySem.Challenge.rw_sightlore_k06_papers_read).prog 72) [] fun f vs => PySem.call f vs) : PySem.Challenge.rw_sightlore_k06_papers_read.Holds := by
 w_on; o_law
 refine SL.head_cut (r := OpenLaw.row PySem.Challenge.rw_sightlore_k06_papers_read) (q := view (OpenLaw.row PySem.Challenge.rw_sightlore_k06_papers_read).prog [72]) (H := hk) (M := stepsAll) (loose := looseAll) (d := HandSHeadRun.topDef (OpenLaw.row PySem.Challenge.rw_sightlore_k06_papers_read).prog 72) (kwd := [])
  (by kernel_rfl) (fun s => by kernel_rfl) runAll (by kernel_rfl) (by kernel_rfl) (by kernel_rfl) (by rfl) (by first | assumption | decide +kernel) (by decide +kernel) ⟨rfl, rfl, rfl, rfl, rfl, by decide +kernel⟩ ?hw ?hc
 case hw => w_witness2
 case hc => exact call
end
end
local macro_rules | `(tactic| walk_at "q") => `(tactic| repeat walk_at "st")
local macro_rules | `(tactic| walk_at "st") => `(tactic| first
 | with_reducible refine g_seq ?_
 | ((with_reducible show tVar _ _ _ _); refine g_var rfl ?_)
 | with_reducible refine g_c ?_
 | with_reducible refine g_op ?_
 | with_reducible refine g_asg ?_
 | with_reducible refine g_name ?_
 | with_reducible refine g_if ?_
 | with_reducible refine g_test ?_
 | with_reducible refine g_k ?_
 | with_reducible refine g_ret ?_
 | with_reducible refine g_next ?_
 | with_reducible refine g_cons ?_
 | with_reducible refine g_nil ?_
 | with_reducible refine g_call ?_
 | with_reducible refine g_cb ?_
 | with_reducible refine g_ckw ?_
 | with_reducible refine g_fld ?_
 | with_reducible refine g_met ?_
 | with_reducible refine g_sfld ?_
 | with_reducible refine g_fldaug ?_
 | with_reducible refine g_addI ?_
 | with_reducible refine g_subI ?_
 | with_reducible refine g_ltI ?_
 | with_reducible refine g_leI ?_
 | with_reducible refine g_gtI ?_
 | with_reducible refine g_geI ?_
 | with_reducible refine g_eqI ?_
 | with_reducible refine g_eqS ?_
 | with_reducible refine g_eqB ?_
 | with_reducible refine g_neI ?_
 | with_reducible refine g_neS ?_
 | with_reducible refine g_neB ?_
 | ((with_reducible refine g_mulI ?h0 ?_); (case h0 => first | exact mulR (by decide) (by decide) | exact mulL (by decide) (by decide) | exact mulR (by omega) (by omega) | exact mulL (by omega) (by omega)))
 | ((with_reducible refine g_modI ?h0 ?_); (case h0 => first | decide | omega))
 | ((with_reducible refine g_divI ?h0 ?_); (case h0 => first | exact divS (by decide) (by decide) | exact divS (by omega) (by omega)))
 | ((with_reducible refine g_powI ?h0 ?_); (case h0 => exact ⟨by decide +kernel, by decide +kernel, by decide +kernel⟩))
 | ((with_reducible show rIx _ (V.ref _) (V.int _) _ _); refine g_ixL (by first | assumption | exact SqL.of (by assumption)) (by exact rfl) ?_)
 | ((with_reducible show rIx _ (V.ref _) (V.int _) _ _); refine g_ixT (by first | assumption | exact SqT.of (by assumption)) (by exact rfl) ?_)
 | ((with_reducible show uLen _ [V.ref _] _ _); first | refine g_len (.inl (SqL.of (by assumption))) ?_ | refine g_len (.inl (by assumption)) ?_ | refine g_len (.inr (by assumption)) ?_ | refine g_len (.inr (SqT.of (by assumption))) ?_)
 | with_reducible refine g_dget ?_
 | with_reducible refine g_dput ?_
 | with_reducible refine g_bm ?_
 | with_reducible refine g_bm0 ?_
 | with_reducible refine g_tyS ?_
 | ((with_reducible show tyV _ "list" (V.ref _) _ ∧ _); refine g_tyL (by first | assumption | exact SqL.of (by assumption)) ?_)
 | with_reducible refine g_pairs ?_
 | with_reducible refine g_pairs0 ?_
 | with_reducible refine g_for ?_
 | with_reducible refine g_iR1 ?_
 | with_reducible refine g_iR2 ?_
 | with_reducible refine g_iL ?_
 | with_reducible refine g_iT ?_
 | with_reducible refine g_lc ?_
 | with_reducible refine g_lc2 ?_
 | with_reducible refine g_dc ?_
 | with_reducible refine g_din ?_
 | with_reducible refine g_listRg ?_
 | with_reducible refine g_rg1 ?_
 | with_reducible refine g_izA ?_
 | with_reducible refine g_iz ?_
 | ((with_reducible show gTup _ _ _ (V.ref _) _ _ _); first | refine g_gtup (SqT.of upd_same) rfl ?_ | refine g_gtup (by first | assumption | exact SqT.of (by assumption)) rfl ?_)
 | with_reducible refine g_gcons ?_
 | with_reducible refine g_gnil ?_
 | with_reducible refine g_yes ?_
 | with_reducible refine g_andT ?_
 | with_reducible refine g_orT ?_
 | with_reducible refine g_notT ?_
 | with_reducible refine g_truB ?_
 | with_reducible refine g_and ?_
 | with_reducible refine g_or ?_
 | with_reducible refine g_not ?_
 | with_reducible refine g_ifE ?_
 | with_reducible refine g_B ?_
 | with_reducible refine g_un ?_
 | with_reducible refine g_sub ?_
 | with_reducible refine g_drop ?_
 | with_reducible refine g_sl ?_
 | with_reducible refine g_noPart ?_
 | with_reducible refine g_part ?_
 | with_reducible refine g_ki ?_
 | with_reducible refine g_fs ?_
 | with_reducible refine g_js0 ?_
 | with_reducible refine g_js ?_
 | with_reducible refine g_fmt ?_
 | with_reducible refine g_is ?_
 | with_reducible refine g_isNot ?_
 | with_reducible refine g_chain ?_
 | with_reducible refine g_istr ?_
 | with_reducible refine g_rU ?_
 | with_reducible refine g_leS ?_
 | with_reducible refine g_vei ?_
 | with_reducible refine g_dc2 ?_
 | with_reducible refine g_ienT ?_
 | with_reducible refine g_ost ?_
 | with_reducible refine g_xat ?_
 | with_reducible refine g_xs ?_
 | with_reducible refine g_mkE ?_
 | with_reducible refine g_rs ?_
 | with_reducible refine g_mkX ?_
 | with_reducible refine g_try ?_
 | with_reducible refine g_callS ?_
 | (with_reducible refine g_tup ?_)
 | (with_reducible refine g_lst ?_)
 | ((with_reducible refine g_tt ?h0 ?_); (case h0 => decide +kernel))
 | ((with_reducible refine g_ff ?h0 ?_); (case h0 => decide +kernel)))
local macro_rules | `(tactic| walk_at "sz") => `(tactic| (refine le_of ?_; (try simp only [app_len, lit_q, lit_lp, lit_rp, lit_sp, lit_cs, lit_not, lit_is, lit_if, lit_e, lit_dot]); omega))
local macro_rules | `(tactic| walk_at "fs") => `(tactic| first
 | walk_at "st"
 | (refine g_fmtS ?hz ?_; (case hz => walk_at "sz"))
 | (refine g_jsS ?hz ?_; (case hz => walk_at "sz"))
 | (refine g_addS ?hz ?_; (case hz => walk_at "sz")))
local macro_rules | `(tactic| walk_at "if") => `(tactic| ((fail_if_success (with_reducible refine g_seqIf _ _ _ _ _ _ _ ?_)); walk_at "st"))
inductive SumE where
 | val (v : V) | var (x : Str) | op (s : Str) (a b : SumE)
def SumAt (K : PySem.W.Frag) (H : Hp) : SumE → V → Prop
 | .val u, v => ∃ p, v = .ref p ∧ SqT K H p [.str "value", u]
 | .var x, v => ∃ p, v = .ref p ∧ SqT K H p [.str "var", .str x]
 | .op s a b, v => ∃ p y z, v = .ref p ∧ SqT K H p [.str s, y, z] ∧ SumAt K H a y ∧ SumAt K H b z
theorem SumAt.fr {K : PySem.W.Frag} {H H' : Hp} {M : List Addr} (e : Fr M H H') : ∀ {t : SumE} {v : V}, SumAt K H t v → SumAt K H' t v
 | .val _, _, ⟨p, h1, h2⟩ => ⟨p, h1, e.tup h2⟩
 | .var _, _, ⟨p, h1, h2⟩ => ⟨p, h1, e.tup h2⟩
 | .op _ _ _, _, ⟨p, y, z, h1, h2, h3, h4⟩ => ⟨p, y, z, h1, e.tup h2, SumAt.fr e h3, SumAt.fr e h4⟩
def SumE.deep : SumE → Nat
 | .op _ a b => max a.deep b.deep + 1
 | _ => 0
def isSg (s : Str) : Prop := s = "+" ∨ s = "-" ∨ s = "*"
inductive TermE where
 | any | s (e : SumE)
inductive PartE where
 | atom (no : Bool) (x : Str) (ts : List TermE) | lt (x : Str) (e : SumE) | test (s : Str) (a b : SumE)
inductive ArgE where
 | s (e : SumE) | fold (w : Str) (x : Option Str)
def SumE.d : SumE → PyData
 | .val u => .tuple [.str "value", scD u]
 | .var x => .tuple [.str "var", .str x]
 | .op s a b => .tuple [.str s, a.d, b.d]
def TermE.d : TermE → PyData
 | .any => .tuple [.str "any"]
 | .s e => e.d
def PartE.d : PartE → PyData
 | .atom no x ts => .tuple [.str (if no then "not" else "atom"), .str x, .tuple (ts.map TermE.d)]
 | .lt x e => .tuple [.str "let", .str x, e.d]
 | .test s a b => .tuple [.str "test", .str s, a.d, b.d]
def ArgE.d : ArgE → PyData
 | .s e => e.d
 | .fold w none => .tuple [.str "fold", .str w, .none]
 | .fold w (some x) => .tuple [.str "fold", .str w, .str x]
structure Tx (n : Nat) (t : Str) : Prop where
 len : t.length ≤ n
 ok : ∀ c ∈ t.cps.toList, c < 0x110000
theorem Tx.mono {m n : Nat} {t : Str} (h : Tx m t) (l : m ≤ n) : Tx n t := ⟨Nat.le_trans h.len l, h.ok⟩
theorem tl_app (a b : Str) : (a ++ b).cps.toList = a.cps.toList ++ b.cps.toList := Array.toList_append
theorem Tx.app {m n : Nat} {a b : Str} (h : Tx m a) (k : Tx n b) : Tx (m + n) (a ++ b) := ⟨by rw [app_len]; exact Nat.add_le_add h.len k.len, fun c hc => by
 rw [tl_app, List.mem_append] at hc
 exact hc.elim (h.ok c) (k.ok c)⟩
def txB (n : Nat) (t : Str) : Bool := decide (t.length ≤ n) && t.cps.toList.all (fun c => decide (c < 0x110000))
theorem Tx.lit {n : Nat} {t : Str} (h : txB n t = true) : Tx n t := by
 unfold txB at h
 simp only [Bool.and_eq_true, decide_eq_true_eq, List.all_eq_true] at h
 exact ⟨h.1, h.2⟩
theorem Tx.short {n : Nat} {t : Str} (h : Tx n t) (l : n ≤ 9000) : (reprText t).length ≤ sizeLine :=
 le_of (Nat.le_trans (StrLaws.reprText_len t fun c hc => Nat.lt_of_lt_of_le (h.ok c hc) (by decide)) (by have := h.len; omega))
theorem join_cons (y a b : Str) (r : List Str) : Txt.join y (a :: b :: r) = a ++ y ++ Txt.join y (b :: r) := by
 rw [TL.join_eq, TL.join_eq]
 rfl
theorem Tx.join {k m : Nat} {y : Str} (hy : Tx k y) : ∀ {ts : List Str}, (∀ t ∈ ts, Tx m t) → Tx (ts.length * (m + k)) (Txt.join y ts)
 | [], _ => by
  rw [TL.join_eq]
  exact ⟨Nat.zero_le _, fun c hc => nomatch hc⟩
 | [a], h => by
  rw [TL.join_eq]
  exact (h a List.mem_cons_self).mono (by simp)
 | a :: b :: r, h => by
  rw [join_cons]
  refine (((h a List.mem_cons_self).app hy).app (Tx.join hy fun t ht => h t (List.mem_cons_of_mem _ ht))).mono ?_
  simp only [List.length_cons, Nat.succ_mul]
  omega
def valT : V → Str
 | .bl b => if b then "yes" else "no"
 | .int i => toString i
 | .str x => "'" ++ x ++ "'"
 | _ => ""
def tightE : SumE → Nat
 | .op s _ _ => if s = "*" then 2 else 1
 | _ => 3
def wrapS (k : Nat) (e : SumE) (t : Str) : Str := if tightE e < k then "(" ++ t ++ ")" else t
def sumT : SumE → Str
 | .val u => valT u
 | .var x => x
 | .op s a b => wrapS (if s = "*" then 2 else 1) a (sumT a) ++ " " ++ s ++ " " ++ wrapS ((if s = "*" then 2 else 1) + 1) b (sumT b)
def termT : TermE → Str
 | .any => "_"
 | .s e => sumT e
def listT (ts : List Str) : Str := Txt.join ", " ts
def atomT (x : Str) (ts : List TermE) : Str := x ++ "(" ++ listT (ts.map termT) ++ ")"
def partT : PartE → Str
 | .atom no x ts => if no then "not " ++ atomT x ts else atomT x ts
 | .lt x e => x ++ " is " ++ sumT e
 | .test s a b => sumT a ++ " " ++ s ++ " " ++ sumT b
def argT : ArgE → Str
 | .s e => sumT e
 | .fold w none => w
 | .fold w (some x) => w ++ " " ++ x
def argsT (as : List ArgE) : Str := listT (as.map argT)
def partsT (ps : List PartE) : Str := listT (ps.map partT)
def ValG (u : V) : Prop := (∃ i : Int, u = .int i ∧ i.natAbs < 10 ^ 30) ∨ (∃ b, u = .bl b) ∨ ∃ x, u = .str x ∧ Tx 12 x
inductive SumG : Nat → SumE → Prop
 | val {n : Nat} {u : V} : ValG u → SumG n (.val u)
 | var {n : Nat} {x : Str} : Tx 12 x → SumG n (.var x)
 | op {n : Nat} {s : Str} {a b : SumE} : isSg s → SumG n a → SumG n b → SumG (n + 1) (.op s a b)
theorem SumG.up {m n : Nat} {e : SumE} (h : SumG m e) (l : m ≤ n) : SumG n e := by
 induction h generalizing n with
 | val h => exact .val h
 | var h => exact .var h
 | op hs _ _ iha ihb =>
  obtain ⟨k, rfl⟩ : ∃ k, n = k + 1 := ⟨n - 1, by omega⟩
  exact .op hs (iha (by omega)) (ihb (by omega))
inductive TermG : TermE → Prop
 | any : TermG .any
 | s {e : SumE} : SumG 0 e → TermG (.s e)
inductive PartG : PartE → Prop
 | atom {no : Bool} {x : Str} {ts : List TermE} : Tx 44 x → ts.length ≤ 4 → (∀ t ∈ ts, TermG t) → PartG (.atom no x ts)
 | lt {x : Str} {e : SumE} : Tx 12 x → SumG 1 e → PartG (.lt x e)
 | test {s : Str} {a b : SumE} : Tx 2 s → SumG 1 a → SumG 1 b → PartG (.test s a b)
inductive ArgG : ArgE → Prop
 | s {e : SumE} : SumG 0 e → ArgG (.s e)
 | fold0 {w : Str} : Tx 5 w → ArgG (.fold w none)
 | fold {w x : Str} : Tx 5 w → Tx 12 x → ArgG (.fold w (some x))
theorem tx_int {i : Int} (h : i.natAbs < 10 ^ 30) : Tx 31 (toString i : Str) := by
 refine ⟨?_, fun c hc => ?_⟩
 ·have e := int_text_length_le10 (k := 30) (by decide) h
  show (Str.ofString (toString i)).length ≤ 31
  rw [PySem.ofString_length]
  exact e
 ·have hc2 : c ∈ (Str.ofString (toString i)).cps.toList := hc
  rw [PyProof.Rows.signs_ofString, List.mem_map] at hc2
  obtain ⟨ch, _, rfl⟩ := hc2
  rcases ch.valid with h | h
  ·exact Nat.lt_trans h (by decide)
  ·exact h.2
theorem ValG.tx {u : V} (h : ValG u) : Tx 31 (valT u) := by
 rcases h with ⟨i, rfl, h⟩ | ⟨b, rfl⟩ | ⟨x, rfl, h⟩
 ·exact tx_int h
 ·cases b
  ·exact Tx.lit (by decide +kernel)
  ·exact Tx.lit (by decide +kernel)
 ·exact (((Tx.lit (n := 1) (by decide +kernel)).app h).app (Tx.lit (n := 1) (by decide +kernel))).mono (by decide)
theorem Tx.wrap {n k : Nat} {e : SumE} {t : Str} (h : Tx n t) : Tx (n + 2) (wrapS k e t) := by
 unfold wrapS
 split
 ·exact (((Tx.lit (n := 1) (by decide +kernel)).app h).app (Tx.lit (n := 1) (by decide +kernel))).mono (by omega)
 ·exact h.mono (by omega)
theorem isSg.tx {s : Str} (h : isSg s) : Tx 1 s := by
 rcases h with rfl | rfl | rfl <;> exact Tx.lit (by decide +kernel)
theorem SumG.tx {m : Nat} {e : SumE} (h : SumG m e) : Tx (48 * 2 ^ m - 7) (sumT e) := by
 induction h with
 | @val n u h => exact h.tx.mono (by have := Nat.one_le_two_pow (n := n); omega)
 | @var n x h => exact h.mono (by have := Nat.one_le_two_pow (n := n); omega)
 | @op n s a b hs _ _ iha ihb =>
  have l1 : Tx 1 (" " : Str) := Tx.lit (by decide +kernel)
  have p := Nat.one_le_two_pow (n := n)
  refine (((((iha.wrap).app l1).app hs.tx).app l1).app ihb.wrap).mono ?_
  rw [Nat.pow_succ]
  omega
theorem TermG.tx {t : TermE} (h : TermG t) : Tx 41 (termT t) := by
 cases h with
 | any => exact Tx.lit (by decide +kernel)
 | s h => exact h.tx.mono (by decide)
theorem txs_map {α : Type} {f : α → Str} {xs : List α} {n : Nat} (h : ∀ x ∈ xs, Tx n (f x)) : ∀ t ∈ xs.map f, Tx n t := fun t ht => by
 obtain ⟨x, hx, rfl⟩ := List.mem_map.mp ht
 exact h x hx
theorem Tx.list {α : Type} {f : α → Str} {xs : List α} {n k : Nat} (h : ∀ x ∈ xs, Tx n (f x)) (l : xs.length ≤ k) : Tx (k * (n + 2)) (listT (xs.map f)) := by
 refine (Tx.join (k := 2) (y := ", ") (Tx.lit (by decide +kernel)) (txs_map h)).mono ?_
 rw [List.length_map]
 exact Nat.mul_le_mul_right _ l
theorem Tx.atom {x : Str} {ts : List TermE} (hx : Tx 44 x) (hl : ts.length ≤ 4) (h : ∀ t ∈ ts, TermG t) : Tx 218 (atomT x ts) :=
 (((hx.app (Tx.lit (n := 1) (by decide +kernel))).app (Tx.list (fun t ht => (h t ht).tx) hl)).app (Tx.lit (n := 1) (by decide +kernel))).mono (by decide)
theorem PartG.tx {p : PartE} (h : PartG p) : Tx 240 (partT p) := by
 cases h with
 | @atom no x ts hx hl h =>
  cases no
  ·exact (Tx.atom hx hl h).mono (by decide)
  ·exact ((Tx.lit (n := 4) (t := "not ") (by decide +kernel)).app (Tx.atom hx hl h)).mono (by decide)
 | lt hx he => exact ((hx.app (Tx.lit (n := 4) (by decide +kernel))).app he.tx).mono (by decide)
 | test hs ha hb => exact ((((ha.tx.app (Tx.lit (n := 1) (by decide +kernel))).app hs).app (Tx.lit (n := 1) (by decide +kernel))).app hb.tx).mono (by decide)
theorem ArgG.tx {a : ArgE} (h : ArgG a) : Tx 41 (argT a) := by
 cases h with
 | s h => exact h.tx.mono (by decide)
 | fold0 h => exact h.mono (by decide)
 | fold h hx => exact ((h.app (Tx.lit (n := 1) (by decide +kernel))).app hx).mono (by decide)
def argsG (as : List ArgE) : Prop := as.length ≤ 8 ∧ ∀ a ∈ as, ArgG a
def partsG (ps : List PartE) : Prop := ps.length ≤ 8 ∧ ∀ p ∈ ps, PartG p
theorem argsG.tx {as : List ArgE} (h : argsG as) : Tx 344 (argsT as) := Tx.list (fun a ha => (h.2 a ha).tx) h.1
theorem partsG.tx {ps : List PartE} (h : partsG ps) : Tx 1936 (partsT ps) := Tx.list (fun a ha => (h.2 a ha).tx) h.1
structure BiT (mg : Str → Option Value) : Prop where
 b_isinstance : mg "isinstance" = none
 b_bool : mg "bool" = none
 b_int : mg "int" = none
 b_str : mg "str" = none
structure Bi (mg : Str → Option Value) : Prop where
 b_len : mg "len" = none
 b_list : mg "list" = none
 b_range : mg "range" = none
def bagO (cs : Addr) (i r k : Int) : HO := .lst [.ref cs, .int i, .int r, .int k]
structure BagAt (H : Hp) (b cs : Addr) : Prop where
 ex : ∃ (cells : List Int) (i r k : Int), H b = some (bagO cs i r k) ∧ H cs = some (.lst (cells.map V.int)) ∧ 0 ≤ i
theorem BagAt.ne {H : Hp} {b cs : Addr} (h : BagAt H b cs) : cs ≠ b := by
 obtain ⟨cells, i, r, k, h1, h2, _⟩ := h.ex
 intro e
 rw [e, h1] at h2
 have h3 : [V.ref cs, .int i, .int r, .int k] = cells.map V.int := HO.lst.inj (Option.some.inj h2)
 cases cells with
 | nil => cases h3
 | cons c r => cases (List.cons.inj h3).1
theorem BagAt.fr {H H' : Hp} {b cs : Addr} {M : List Addr} (h : BagAt H b cs) (e : Fr M H H') (n1 : b ∉ M) (n2 : cs ∉ M) : BagAt H' b cs := by
 obtain ⟨cells, i, r, k, h1, h2, h3⟩ := h.ex
 exact ⟨cells, i, r, k, e.at h1 n1, e.at h2 n2, h3⟩
theorem BagAt.fr0 {H H' : Hp} {b cs : Addr} (h : BagAt H b cs) (e : Fr [] H H') : BagAt H' b cs := h.fr e (fun z => nomatch z) (fun z => nomatch z)
theorem BagAt.put {H : Hp} {b cs : Addr} (h : BagAt H b cs) {i r k : Int} (hi : 0 ≤ i) : BagAt (upd H b (bagO cs i r k)) b cs := by
 obtain ⟨cells, _, _, _, h1, h2, h3⟩ := h.ex
 exact ⟨cells, i, r, k, upd_same, by rw [upd_ne h.ne]; exact h2, hi⟩
theorem BagAt.frp {H : Hp} {b cs : Addr} (h : BagAt H b cs) {o : HO} : Fr [b] H (upd H b o) := by
 obtain ⟨cells, i, r, k, h1, h2, h3⟩ := h.ex
 exact Fr.mut (List.mem_singleton.mpr rfl) h1 nofix_lst
theorem BagAt.some {H : Hp} {b cs : Addr} (h : BagAt H b cs) {p : Addr} (hp : H p = none) : p ≠ b ∧ p ≠ cs := by
 obtain ⟨cells, i, r, k, h1, h2, h3⟩ := h.ex
 exact ⟨fun e => (by rw [e, h1] at hp; cases hp), fun e => (by rw [e, h2] at hp; cases hp)⟩
def spBag (K : PySem.W.Frag) : Sp := fun vs H Q _ => ∃ (a : Addr) (ns : List Int), vs = [.ref a] ∧ SqL K H a (ns.map V.int) ∧ ns.length ≤ 63 ∧
 ∀ b cs H', Fr [] H H' → H b = none → BagAt H' b cs → Q (.ref b) H'
def spPull : Sp := fun vs H Q _ => ∃ (b cs : Addr) (u : Int), vs = [.ref b, .int u] ∧ BagAt H b cs ∧ 0 < u ∧ u < 2 ^ 200 ∧
 ∀ d H', 0 ≤ d → d < u → BagAt H' b cs → Fr [b] H H' → Q (.int d) H'
abbrev s__law_bag : Stmt := topS 43
theorem sc__law_bag : FnScope ["_law_script", "_law_cells", "_law_knot", "_law_cell"] ["_law_script"] (defScope s__law_bag) := ⟨rfl, rfl, rfl, by decide +kernel, rfl, by decide +kernel, by decide +kernel⟩
abbrev s__law_pull : Stmt := topS 44
theorem sc__law_pull : FnScope ["_law_bag_here", "_law_upto", "_law_seed", "_law_fold", "_law_twist", "_law_drawn"] ["_law_bag_here", "_law_upto"] (defScope s__law_pull) := ⟨rfl, rfl, rfl, by decide +kernel, rfl, by decide +kernel, by decide +kernel⟩
section
variable {P : Program} {w : World} {K : PySem.W.Frag} {mg : Str → Option Value} {base : Heap}
theorem ok__law_bag {f : Addr} {fd : FuncData} (F : FnP K "_law_bag" s__law_bag f fd) (B : Bi mg) : FnG P w K mg base CX0 10 f fd ["_law_script"] (spBag K) := by
 refine okG F sc__law_bag (fun vs H Q E h => ?_) (fun cdv A outer s H vs Q E hr h => ?_)
 ·obtain ⟨a, ns, rfl, _⟩ := h
  rfl
 obtain ⟨a, ns, rfl, hS, hl, q⟩ := h
 refine ⟨_, PSs.nox (pss_cons (ps_set (i := 1) sc__law_bag.nd rfl (.inl rfl) (pe_callTy (kCall (K := K) (r := uList) rfl callu_list) (by rfl) B.b_list (by decide +kernel) (pa_cons (pe_slice (kSl (K := K) (r := rSlL) rfl sl_list) (pv 0) po_none (po_some pe_int)) pa_nil)))
 (pss_cons (ps_set (i := 2) sc__law_bag.nd rfl (.inl rfl) (pe_op (kOp (K := K) (r := uAdd) rfl opu_add) pe_int (pe_callB (kCall (K := K) (r := uLen) rfl callu_len) (by rfl) B.b_len (by decide +kernel) (pa_cons (pv 1) pa_nil))))
 (pss_cons (ps_for PassesOwn.never rfl (pi_listK (K := K) rfl (pv 1)) (pg_name (i := 3) sc__law_bag.nd rfl (by first | exact Or.inl rfl | exact Or.inr rfl)) (pss_one (ps_set (i := 2) sc__law_bag.nd rfl (.inl rfl) (pe_op opu_mod (pe_op (kOp (K := K) (r := uAdd) rfl opu_add) (pe_op opu_mul (pv 2) pe_int) (pv 3)) pe_int))))
 (pss_one (ps_ret (pe_lst (pa_cons (pv 1) (pa_cons pe_int (pa_cons pe_int (pa_cons (pv 2) pa_nil)))))))))), rd_start (σ0 := [some (.ref a), none, none, none]) rfl ?_⟩
 walk_at "q"
 refine g_slL hS fun p1 hp1 => ?_
 walk_at "q"
 refine g_list (.inl (SqL.of upd_same)) fun p2 hp2 => ?_
 have ec : cutV (ns.map V.int) none (some 63) = ns.map V.int := by
  have z := cut0 (ns.map V.int) 63
  rw [List.take_of_length_le (by rw [List.length_map]; omega)] at z
  exact z
 rw [ec] at hp2 ⊢
 have e2 : Fr [] H (upd (upd H p1 (.lst (ns.map V.int))) p2 (.lst (ns.map V.int))) := (Fr.new hp1).trans (Fr.new hp2)
 have h2 : (upd (upd H p1 (.lst (ns.map V.int))) p2 (.lst (ns.map V.int))) p2 = some (.lst (ns.map V.int)) := upd_same
 generalize upd (upd H p1 (.lst (ns.map V.int))) p2 (.lst (ns.map V.int)) = H2 at *
 walk_at "q"
 refine ⟨_, rfl, ⟨_, SqL.of h2⟩, for_list (K := K) (a := p2) (xs := ns.map V.int) (fun i σ H' => ∃ (k : Int) (c : Option V), σ = [some (.ref a), some (.ref p2), some (.int k), c] ∧ H' = H2) ⟨_, _, rfl, rfl⟩ (fun i σ H' _ h => ?_) (fun i x σ H' hi h => ?_) (fun σ H' h => ?_)⟩
 ·obtain ⟨k, c, rfl, rfl⟩ := h
  exact SqL.of h2
 ·obtain ⟨k, c, rfl, rfl⟩ := h
  obtain ⟨n, _, rfl⟩ := List.mem_map.mp (List.mem_of_getElem? hi)
  walk_at "q"
  exact ⟨_, _, rfl, rfl⟩
 ·obtain ⟨k, c, rfl, rfl⟩ := h
  walk_at "q"
  refine ⟨le_of (by simp), fun p3 hp3 => ?_⟩
  refine q p3 p2 _ (e2.trans (Fr.new hp3)) (e2.back (fun z => nomatch z) hp3) ⟨ns, 0, 0, k, upd_same, by rw [upd_ne (ne_of_none h2 hp3)]; exact h2, Int.le_refl 0⟩
theorem ok__law_pull {f : Addr} {fd : FuncData} (F : FnP K "_law_pull" s__law_pull f fd) (B : Bi mg) : FnG P w K mg base CX0 10 f fd ["_law_bag_here", "_law_upto"] spPull := by
 refine okG F sc__law_pull (fun vs H Q E h => ?_) (fun cdv A outer s H vs Q E hr h => ?_)
 ·obtain ⟨b, cs, u, rfl, _⟩ := h
  rfl
 obtain ⟨b, cs, u, rfl, hB, hu0, hu1, q⟩ := h
 obtain ⟨cells, i, r, k, hb, hc, hi⟩ := id hB.ex
 refine ⟨_, PSs.nox (pss_cons (ps_if (pt_cmpR (kOp (K := K) (r := uLt) rfl opu_lt) (pe_ix (kIx (K := K) (r := rIx) rfl ix_seq) (pv 0) pe_int (fun _ _ => rfl)) pe_int (nomark _)) (pss_cons (ps_asg (pe_op (kOp (K := K) (r := uAdd) rfl opu_add) (pe_ix (kIx (K := K) (r := rIx) rfl ix_seq) (pv 0) pe_int (fun _ _ => rfl)) pe_int) (pg_sub (pv 0) pe_int set_list))
 (pss_cons (ps_set (i := 2) sc__law_pull.nd rfl (.inl rfl) (pe_op (kOp (K := K) (r := uAdd) rfl opu_add) (pe_ix (kIx (K := K) (r := rIx) rfl ix_seq) (pv 0) pe_int (fun _ _ => rfl)) (pe_op opu_mul (pe_ix (kIx (K := K) (r := rIx) rfl ix_seq) (pv 0) pe_int (fun _ _ => rfl)) pe_int)))
 (pss_cons (ps_if (pt_cmpR opu_le (pe_ix (kIx (K := K) (r := rIx) rfl ix_seq) (pv 0) pe_int (fun _ _ => rfl)) (pe_callB (kCall (K := K) (r := uLen) rfl callu_len) (by rfl) B.b_len (by decide +kernel) (pa_cons (pe_ix (kIx (K := K) (r := rIx) rfl ix_seq) (pv 0) pe_int (fun _ _ => rfl)) pa_nil)) (nomark _)) (pss_one (ps_set (i := 2) sc__law_pull.nd rfl (.inl rfl) (pe_ix (kIx (K := K) (r := rIx) rfl ix_seq) (pe_ix (kIx (K := K) (r := rIx) rfl ix_seq) (pv 0) pe_int (fun _ _ => rfl)) (pe_op opu_sub (pe_ix (kIx (K := K) (r := rIx) rfl ix_seq) (pv 0) pe_int (fun _ _ => rfl)) pe_int) (fun _ _ => rfl)))) pss_nil)
 (pss_cons (ps_if (PW.pt (pw_or (pt_cmpR opu_gt (pe_ix (kIx (K := K) (r := rIx) rfl ix_seq) (pv 0) pe_int (fun _ _ => rfl)) (pe_callB (kCall (K := K) (r := uLen) rfl callu_len) (by rfl) B.b_len (by decide +kernel) (pa_cons (pe_ix (kIx (K := K) (r := rIx) rfl ix_seq) (pv 0) pe_int (fun _ _ => rfl)) pa_nil)) (nomark _)) (pw_or1 (pt_cmpR (kOp (K := K) (r := uLt) rfl opu_lt) (pv 2) (pe_op opu_pow pe_int pe_int) (nomark _))))) (pss_cons (ps_set (i := 3) sc__law_pull.nd rfl (.inl rfl) (pe_op opu_mod (pe_op (kOp (K := K) (r := uAdd) rfl opu_add) (pe_op (kOp (K := K) (r := uAdd) rfl opu_add) (pe_op opu_mul (pv 2) pe_int) (pe_op opu_mul (pe_ix (kIx (K := K) (r := rIx) rfl ix_seq) (pv 0) pe_int (fun _ _ => rfl)) pe_int)) (pe_ix (kIx (K := K) (r := rIx) rfl ix_seq) (pv 0) pe_int (fun _ _ => rfl))) pe_int))
 (pss_cons (ps_set (i := 4) sc__law_pull.nd rfl (.inl rfl) (pe_op opu_mod (pe_op (kOp (K := K) (r := uAdd) rfl opu_add) (pe_op opu_mul (pv 3) (pv 3)) (pe_ix (kIx (K := K) (r := rIx) rfl ix_seq) (pv 0) pe_int (fun _ _ => rfl))) pe_int))
 (pss_one (ps_ret (pe_op opu_mod (pe_op opu_div (pe_op opu_mod (pe_op (kOp (K := K) (r := uAdd) rfl opu_add) (pe_op opu_mul (pv 4) pe_int) (pv 3)) pe_int) pe_int) (pv 1)))))) pss_nil)
 (pss_one (ps_asg (pv 2) (pg_sub (pv 0) pe_int set_list))))))) pss_nil)
 (pss_cons (ps_set (i := 5) sc__law_pull.nd rfl (.inl rfl) (pe_op opu_mod (pe_ix (kIx (K := K) (r := rIx) rfl ix_seq) (pv 0) pe_int (fun _ _ => rfl)) (pv 1)))
 (pss_cons (ps_asg (pe_op opu_div (pe_ix (kIx (K := K) (r := rIx) rfl ix_seq) (pv 0) pe_int (fun _ _ => rfl)) (pv 1)) (pg_sub (pv 0) pe_int set_list))
 (pss_one (ps_ret (pv 5)))))), rd_start (σ0 := [some (.ref b), some (.int u), none, none, none, none]) rfl ?_⟩
 unfold bagO at hb
 have hcb := hB.ne
 walk_at "q"
 refine g_by (fun c1 => ?_) (fun c1 => ?_)
 ·walk_at "q"
  refine g_setL (j := 1) hb rfl ?_
  have hb1 : (upd H b (.lst ([V.ref cs, .int i, .int r, .int k].set 1 (.int (i + 1))))) b = some (.lst [V.ref cs, .int (i + 1), .int r, .int k]) := upd_same
  have hc1 : (upd H b (.lst ([V.ref cs, .int i, .int r, .int k].set 1 (.int (i + 1))))) cs = some (.lst (cells.map V.int)) := by rw [upd_ne hcb]; exact hc
  have hf1 : Fr [b] H (upd H b (.lst ([V.ref cs, .int i, .int r, .int k].set 1 (.int (i + 1))))) := hB.frp
  generalize upd H b (.lst ([V.ref cs, .int i, .int r, .int k].set 1 (.int (i + 1)))) = H1 at *
  walk_at "q"
  refine g_by (fun c2 => ?_) (fun c2 => ?_)
  ·walk_at "q"
   have hl : i + 1 ≤ (cells.length : Int) := by rw [List.length_map] at c2; exact c2
   obtain ⟨j, rfl⟩ : ∃ j : Nat, i = (j : Int) := ⟨i.toNat, by omega⟩
   have hj : j < cells.length := by omega
   have hat : atI (cells.map V.int) ((j : Int) + 1 - 1) = some (.int cells[j]) := by
    rw [show (j : Int) + 1 - 1 = (j : Int) by omega]
    exact atI_nat (by rw [List.getElem?_map, List.getElem?_eq_getElem hj]; rfl)
   refine g_ixL (SqL.of hc1) hat ?_
   generalize cells[j] = seed
   walk_at "q"
   have hB1 : BagAt H1 b cs := ⟨cells, _, r, k, hb1, hc1, by omega⟩
   refine g_by (fun c3 => ?_) (fun c3 => ?_)
   ·have key : ∀ z : Int, Q (.int (z % u)) H1 := fun z => q _ _ (Int.emod_nonneg _ (by omega)) (Int.emod_lt_of_pos _ hu0) hB1 hf1
    walk_at "q"
    exact key _
   ·walk_at "q"
    refine g_by (fun c4 => ?_) (fun c4 => ?_)
    ·have key : ∀ z : Int, Q (.int (z % u)) H1 := fun z => q _ _ (Int.emod_nonneg _ (by omega)) (Int.emod_lt_of_pos _ hu0) hB1 hf1
     walk_at "q"
     exact key _
    ·walk_at "q"
     refine g_setL (j := 2) hb1 rfl ?_
     have hb2 : (upd H1 b (.lst ([V.ref cs, .int ((j : Int) + 1), .int r, .int k].set 2 (.int seed)))) b = some (.lst [V.ref cs, .int ((j : Int) + 1), .int seed, .int k]) := upd_same
     have hB2 : BagAt (upd H1 b (.lst ([V.ref cs, .int ((j : Int) + 1), .int r, .int k].set 2 (.int seed)))) b cs := hB1.put (by omega)
     have hf2 : Fr [b] H (upd H1 b (.lst ([V.ref cs, .int ((j : Int) + 1), .int r, .int k].set 2 (.int seed)))) := hf1.trans hB1.frp
     generalize upd H1 b (.lst ([V.ref cs, .int ((j : Int) + 1), .int r, .int k].set 2 (.int seed))) = H2 at *
     walk_at "q"
     refine g_setL (j := 2) hb2 rfl ?_
     walk_at "q"
     exact q _ _ (Int.emod_nonneg _ (by omega)) (Int.emod_lt_of_pos _ hu0) (hB2.put (by omega)) (hf2.trans hB2.frp)
  ·walk_at "q"
   generalize k + (i + 1) * 7919 = seed
   walk_at "q"
   have hB1 : BagAt H1 b cs := ⟨cells, _, r, k, hb1, hc1, by omega⟩
   refine g_by (fun c3 => ?_) (fun c3 => ?_)
   ·have key : ∀ z : Int, Q (.int (z % u)) H1 := fun z => q _ _ (Int.emod_nonneg _ (by omega)) (Int.emod_lt_of_pos _ hu0) hB1 hf1
    walk_at "q"
    exact key _
   ·walk_at "q"
    refine g_by (fun c4 => ?_) (fun c4 => ?_)
    ·have key : ∀ z : Int, Q (.int (z % u)) H1 := fun z => q _ _ (Int.emod_nonneg _ (by omega)) (Int.emod_lt_of_pos _ hu0) hB1 hf1
     walk_at "q"
     exact key _
    ·walk_at "q"
     refine g_setL (j := 2) hb1 rfl ?_
     have hb2 : (upd H1 b (.lst ([V.ref cs, .int (i + 1), .int r, .int k].set 2 (.int seed)))) b = some (.lst [V.ref cs, .int (i + 1), .int seed, .int k]) := upd_same
     have hB2 : BagAt (upd H1 b (.lst ([V.ref cs, .int (i + 1), .int r, .int k].set 2 (.int seed)))) b cs := hB1.put (by omega)
     have hf2 : Fr [b] H (upd H1 b (.lst ([V.ref cs, .int (i + 1), .int r, .int k].set 2 (.int seed)))) := hf1.trans hB1.frp
     generalize upd H1 b (.lst ([V.ref cs, .int (i + 1), .int r, .int k].set 2 (.int seed))) = H2 at *
     walk_at "q"
     refine g_setL (j := 2) hb2 rfl ?_
     walk_at "q"
     exact q _ _ (Int.emod_nonneg _ (by omega)) (Int.emod_lt_of_pos _ hu0) (hB2.put (by omega)) (hf2.trans hB2.frp)
 ·walk_at "q"
  refine g_setL (j := 2) hb rfl ?_
  walk_at "q"
  exact q _ _ (Int.emod_nonneg _ (by omega)) (Int.emod_lt_of_pos _ hu0) (hB.put hi) hB.frp
end
theorem atI_in {α : Type} {xs : List α} {d : Int} (h0 : 0 ≤ d) (h1 : d < (xs.length : Int)) : ∃ v, v ∈ xs ∧ atI xs d = some v := by
 obtain ⟨j, rfl⟩ : ∃ j : Nat, d = (j : Int) := ⟨d.toNat, by omega⟩
 have hj : j < xs.length := by omega
 exact ⟨xs[j], List.getElem_mem hj, atI_nat (List.getElem?_eq_getElem hj)⟩
def spOne (K : PySem.W.Frag) : Sp := fun vs H Q _ => ∃ (b cs r : Addr) (xs : List V), vs = [.ref b, .ref r] ∧ BagAt H b cs ∧ ((SqL K H r xs ∧ r ≠ b) ∨ SqT K H r xs) ∧ 0 < xs.length ∧ xs.length ≤ 1000 ∧
 ∀ v H', v ∈ xs → BagAt H' b cs → Fr [b] H H' → Q v H'
abbrev s__law_one : Stmt := topS 45
theorem sc__law_one : FnScope ["_law_bag_here", "_law_row"] ["_law_bag_here", "_law_row"] (defScope s__law_one) := ⟨rfl, rfl, rfl, by decide +kernel, rfl, by decide +kernel, by decide +kernel⟩
section
variable {P : Program} {w : World} {K : PySem.W.Frag} {mg : Str → Option Value} {base : Heap}
theorem ok__law_one {f : Addr} {fd : FuncData} (F : FnP K "_law_one" s__law_one f fd) (B : Bi mg) (C__law_pull : CalG P w K mg base 10 "_law_pull" spPull) : FnG P w K mg base CX0 20 f fd ["_law_bag_here", "_law_row"] (spOne K) := by
 refine okG F sc__law_one (fun vs H Q E h => ?_) (fun cdv A outer s H vs Q E hr h => ?_)
 ·obtain ⟨b, cs, r, xs, rfl, _⟩ := h
  rfl
 obtain ⟨b, cs, r, xs, rfl, hB, hx, h0, h1, q⟩ := h
 refine ⟨_, PSs.nox (pss_one (ps_ret (pe_ix (kIx (K := K) (r := rIx) rfl ix_seq) (pv 1) (pe_calG C__law_pull hr rfl (pa_cons (pv 0) (pa_cons (pe_callB (kCall (K := K) (r := uLen) rfl callu_len) (by rfl) B.b_len (by decide +kernel) (pa_cons (pv 1) pa_nil)) pa_nil))) (fun _ _ => rfl)))), rd_start (σ0 := [some (.ref b), some (.ref r)]) rfl ?_⟩
 walk_at "q"
 refine g_len (hx.imp (fun z => z.1) id) ?_
 walk_at "q"
 refine ⟨b, cs, _, rfl, hB, by omega, Int.lt_of_le_of_lt (b := 1000) (by omega) (by decide), fun d H' d0 d1 hB' hF => ?_⟩
 obtain ⟨v, hv, ha⟩ := atI_in d0 d1
 rcases hx with ⟨hx, hn⟩ | hx
 ·exact g_ixL (hF.seq (fun z => hn (List.mem_singleton.mp z)) hx) ha (q v H' hv hB' hF)
 ·exact g_ixT (hF.tup hx) ha (q v H' hv hB' hF)
end
def isLet (c : Nat) : Bool := decide (97 ≤ c ∧ c ≤ 122)
def isFig (c : Nat) : Bool := decide (48 ≤ c ∧ c ≤ 57)
def WordP (x : Str) : Prop := ∃ c r, x.cps.toList = c :: r ∧ isLet c = true ∧ (∀ d ∈ r, (isLet d || isFig d) = true) ∧ r.length ≤ 11
def signs36 : Str := "abcdefghijklmnopqrstuvwxyz0123456789"
theorem signs36_list : signs36.cps.toList = [97, 98, 99, 100, 101, 102, 103, 104, 105, 106, 107, 108, 109, 110, 111, 112, 113, 114, 115, 116, 117, 118, 119, 120, 121, 122, 48, 49, 50, 51, 52, 53, 54, 55, 56, 57] := by decide +kernel
theorem signs36_at {d : Int} (h0 : 0 ≤ d) (h1 : d < 36) : ∃ c, atI signs36.cps.toList d = some c ∧ (isLet c || isFig c) = true := by
 obtain ⟨c, hc, ha⟩ := atI_in (xs := signs36.cps.toList) h0 (by rw [signs36_list]; exact h1)
 refine ⟨c, ha, ?_⟩
 rw [signs36_list] at hc
 have z : ∀ x ∈ ([97, 98, 99, 100, 101, 102, 103, 104, 105, 106, 107, 108, 109, 110, 111, 112, 113, 114, 115, 116, 117, 118, 119, 120, 121, 122, 48, 49, 50, 51, 52, 53, 54, 55, 56, 57] : List Nat), (isLet x || isFig x) = true := by decide
 exact z c hc
theorem signs26_at {d : Int} (h0 : 0 ≤ d) (h1 : d < 26) : ∃ c, atI signs36.cps.toList d = some c ∧ isLet c = true := by
 obtain ⟨j, rfl⟩ : ∃ j : Nat, d = (j : Int) := ⟨d.toNat, by omega⟩
 have hj : j < 26 := by omega
 have z : ∀ j : Nat, j < 26 → ∃ c, signs36.cps.toList[j]? = some c ∧ isLet c = true := by
  rw [signs36_list]
  intro j hj
  have y : ∀ i : Fin 26, isLet (([97, 98, 99, 100, 101, 102, 103, 104, 105, 106, 107, 108, 109, 110, 111, 112, 113, 114, 115, 116, 117, 118, 119, 120, 121, 122, 48, 49, 50, 51, 52, 53, 54, 55, 56, 57] : List Nat).getD i.val 0) = true := by decide
  have y2 := y ⟨j, hj⟩
  have hl : j < ([97, 98, 99, 100, 101, 102, 103, 104, 105, 106, 107, 108, 109, 110, 111, 112, 113, 114, 115, 116, 117, 118, 119, 120, 121, 122, 48, 49, 50, 51, 52, 53, 54, 55, 56, 57] : List Nat).length := by
   show j < 36
   omega
  refine ⟨_, List.getElem?_eq_getElem hl, ?_⟩
  rw [List.getD_eq_getElem?_getD, List.getElem?_eq_getElem hl] at y2
  exact y2
 obtain ⟨c, h1, h2⟩ := z j hj
 exact ⟨c, atI_nat h1, h2⟩
def spWord : Sp := fun vs H Q _ => ∃ (b cs : Addr), vs = [.ref b] ∧ BagAt H b cs ∧ ∀ x H', WordP x → BagAt H' b cs → Fr [b] H H' → Q (.str x) H'
abbrev s__law_word : Stmt := topS 48
theorem sc__law_word : FnScope ["_law_bag_here", "_law_signs", "_law_word_here", "_law_k"] ["_law_bag_here"] (defScope s__law_word) := ⟨rfl, rfl, rfl, by decide +kernel, rfl, by decide +kernel, by decide +kernel⟩
section
variable {P : Program} {w : World} {K : PySem.W.Frag} {mg : Str → Option Value} {base : Heap}
theorem ok__law_word {f : Addr} {fd : FuncData} (F : FnP K "_law_word" s__law_word f fd) (B : Bi mg) (C__law_pull : CalG P w K mg base 10 "_law_pull" spPull) (C__law_one : CalG P w K mg base 20 "_law_one" (spOne K)) : FnG P w K mg base CX0 30 f fd ["_law_bag_here"] spWord := by
 refine okG F sc__law_word (fun vs H Q E h => ?_) (fun cdv A outer s H vs Q E hr h => ?_)
 ·obtain ⟨b, cs, rfl, _⟩ := h
  rfl
 obtain ⟨b, cs, rfl, hB, q⟩ := h
 refine ⟨_, PSs.nox (pss_cons (ps_set (i := 1) sc__law_word.nd rfl (.inl rfl) pe_str)
 (pss_cons (ps_set (i := 2) sc__law_word.nd rfl (.inl rfl) (pe_ix (kIx (K := K) (r := rIx) rfl ix_seq) (pv 1) (pe_calG C__law_pull hr rfl (pa_cons (pv 0) (pa_cons pe_int pa_nil))) (fun _ _ => rfl)))
 (pss_cons (ps_for PassesOwn.never rfl (pi_range1 rfl B.b_range (pa_cons (pe_calG C__law_pull hr rfl (pa_cons (pv 0) (pa_cons (pe_calG C__law_one hr rfl (pa_cons (pv 0) (pa_cons (pe_lst (pa_cons pe_int (pa_cons pe_int pa_nil))) pa_nil))) pa_nil))) pa_nil)) (pg_name (i := 3) sc__law_word.nd rfl (by first | exact Or.inl rfl | exact Or.inr rfl)) (pss_one (ps_set (i := 2) sc__law_word.nd rfl (.inl rfl) (pe_op (kOp (K := K) (r := uAdd) rfl opu_add) (pv 2) (pe_ix (kIx (K := K) (r := rIx) rfl ix_seq) (pv 1) (pe_calG C__law_pull hr rfl (pa_cons (pv 0) (pa_cons pe_int pa_nil))) (fun _ _ => rfl))))))
 (pss_one (ps_ret (pv 2)))))), rd_start (σ0 := [some (.ref b), none, none, none]) rfl ?_⟩
 walk_at "q"
 refine ⟨b, cs, _, rfl, hB, by decide, by decide, fun d H1 d0 d1 hB1 hF1 => ?_⟩
 obtain ⟨c0, ha, hc0⟩ := signs26_at d0 d1
 refine g_ixS (le_of (by decide)) ha ?_
 walk_at "q"
 refine ⟨le_of (by decide), fun p hp => ?_⟩
 have hF2 : Fr [b] H1 (upd H1 p (.lst [V.int 3, .int 12])) := Fr.new hp
 have hB2 := hB1.fr0 (Fr.new (M := []) (o := .lst [V.int 3, .int 12]) hp)
 have hpl : (upd H1 p (.lst [V.int 3, .int 12])) p = some (.lst [V.int 3, .int 12]) := upd_same
 generalize upd H1 p (.lst [V.int 3, .int 12]) = H2 at *
 walk_at "q"
 refine ⟨b, cs, p, [V.int 3, .int 12], rfl, hB2, .inl ⟨SqL.of hpl, (hB1.some hp).1⟩, by decide, by decide, fun v H3 hv hB3 hF3 => ?_⟩
 obtain ⟨n, rfl, n0, n1⟩ : ∃ n : Int, v = .int n ∧ 0 < n ∧ n ≤ 12 := by
  rcases List.mem_cons.mp hv with e | hv
  ·exact ⟨3, e, by decide, by decide⟩
  ·exact ⟨12, List.mem_singleton.mp hv, by decide, by decide⟩
 walk_at "q"
 refine ⟨b, cs, n, rfl, hB3, n0, Int.lt_of_le_of_lt n1 (by decide), fun m H4 m0 m1 hB4 hF4 => ?_⟩
 walk_at "q"
 refine ⟨m, rfl, by omega, by omega, for_range (lo := 0) (n := m.toNat) (fun i σ H' => ∃ (x : Str) (z : Option V), σ = [some (.ref b), some (.str signs36), some (.str x), z] ∧ Fr [b] H H' ∧ BagAt H' b cs ∧
  ∃ r, x.cps.toList = c0 :: r ∧ (∀ d ∈ r, (isLet d || isFig d) = true) ∧ r.length = i) ⟨_, _, rfl, ((hF1.trans hF2).trans hF3).trans hF4, hB4, [], rfl, (fun _ z => nomatch z), rfl⟩ (fun i σ H' hi h => ?_) (fun σ H' h => ?_)⟩
 ·obtain ⟨x, z, rfl, hF, hB', r, hx, hr1, hr2⟩ := h
  walk_at "q"
  refine ⟨b, cs, _, rfl, hB', by decide, by decide, fun d H5 d0 d1 hB5 hF5 => ?_⟩
  obtain ⟨c1, ha1, hc1⟩ := signs36_at d0 d1
  refine g_ixS (le_of (by decide)) ha1 ?_
  have hxl : x.length = r.length + 1 := by rw [TL.len_tl]; show x.cps.toList.length = _; rw [hx]; rfl
  refine g_addS (le_of (by rw [hxl]; show r.length + 1 + 1 ≤ _; omega)) ?_
  walk_at "q"
  refine ⟨_, _, rfl, hF.trans hF5, hB5, r ++ [c1], ?_, ?_, by rw [List.length_append, hr2]; rfl⟩
  ·show TL.tl (x ++ ⟨#[c1]⟩) = _
   rw [TL.tl_append]
   show x.cps.toList ++ [c1] = _
   rw [hx]
   rfl
  ·intro d hd
   rcases List.mem_append.mp hd with hd | hd
   ·exact hr1 d hd
   ·rw [List.mem_singleton.mp hd]; exact hc1
 ·obtain ⟨x, z, rfl, hF, hB', r, hx, hr1, hr2⟩ := h
  walk_at "q"
  exact q x H' ⟨c0, r, hx, hc0, hr1, by omega⟩ hB' hF
end
structure BiS (mg : Str → Option Value) : Prop where
 b_isinstance : mg "isinstance" = none
 b_list : mg "list" = none
 b_tuple : mg "tuple" = none
 b_repr : mg "repr" = none
 b_zip : mg "zip" = none
 b_all : mg "all" = none
 b_len : mg "len" = none
def spSame (K : PySem.W.Frag) (n : Nat) : Sp := fun vs H Q _ => ∃ (x y : V) (d : PyData), vs = [x, y] ∧ Dp K H x d ∧ Dp K H y d ∧ Sm n d ∧ ∀ H', Fr [] H H' → Q (.bl true) H'
theorem sm_zero {d : PyData} (h : Sm 0 d) : False := by
 cases d <;> simp only [Sm] at h
abbrev s__law_same : Stmt := topS 46
theorem sc__law_same : FnScope ["_law_found", "_law_due", "_law_same_here", "_law_one_here", "_law_other"] ["_law_found", "_law_due"] (defScope s__law_same) := ⟨rfl, rfl, rfl, by decide +kernel, rfl, by decide +kernel, by decide +kernel⟩
section
variable {P : Program} {w : World} {K : PySem.W.Frag} {mg : Str → Option Value} {base : Heap}
theorem same_leaf {H : Hp} {x y : V} {d : PyData} {n : Nat} (hx : Dp K H x d) (hy : Dp K H y d) (hs : Sm (n + 1) d) (h : ∀ ds, d ≠ .list ds ∧ d ≠ .tuple ds) : x = y ∧ shortV x ∧ ∃ T, TyX K H x (.type T) ∧ kitB T "list" = some false ∧ kitB T "tuple" = some false := by
 cases hx with
 | non => cases hy; exact ⟨rfl, trivial, "NoneType", .base .non, by decide +kernel, by decide +kernel⟩
 | bl b => cases hy; exact ⟨rfl, trivial, "bool", .base (.bl b), by decide +kernel, by decide +kernel⟩
 | int b => cases hy; exact ⟨rfl, hs, "int", .base (.int b), by decide +kernel, by decide +kernel⟩
 | str b => cases hy; exact ⟨rfl, hs, "str", .base (.str b), by decide +kernel, by decide +kernel⟩
 | lst h1 h2 => exact absurd rfl (h _).1
 | tup h1 h2 => exact absurd rfl (h _).2
theorem ok__law_same {n : Nat} {f : Addr} {fd : FuncData} (F : FnP K "_law_same" s__law_same f fd) (B : BiS mg) (C__law_same : CalG P w K mg base n "_law_same" (spSame K n)) : FnG P w K mg base CX0 (n + 1) f fd ["_law_found", "_law_due"] (spSame K (n + 1)) := by
 refine okG F sc__law_same (fun vs H Q E h => ?_) (fun cdv A outer s H vs Q E hr h => ?_)
 ·obtain ⟨x, y, d, rfl, _⟩ := h
  rfl
 obtain ⟨x, y, d, rfl, hx, hy, hs, q⟩ := h
 refine ⟨_, PSs.nox (pss_cons (ps_if (pt_not (pt_val (pe_callB (kCall (K := K) (r := uIsi) rfl callu_isi) (by rfl) B.b_isinstance (by decide +kernel) (pa_cons (pv 1) (pa_cons (pe_tup (pa_cons (pe_bltn (v := .ty "list") (by rfl) B.b_list (by decide +kernel) rfl) (pa_cons (pe_bltn (v := .ty "tuple") (by rfl) B.b_tuple (by decide +kernel) rfl) pa_nil))) pa_nil))))) (pss_one (ps_ret (pe_cmpR (kOp (K := K) (r := uEq) rfl (opu_eq hr.units)) (pe_callB (kCall (K := K) (r := uReprG) rfl (callu_reprG hr)) (by rfl) B.b_repr (by decide +kernel) (pa_cons (pv 0) pa_nil)) (pe_callB (kCall (K := K) (r := uReprG) rfl (callu_reprG hr)) (by rfl) B.b_repr (by decide +kernel) (pa_cons (pv 1) pa_nil)) (nomark _)))) pss_nil)
 (pss_cons (ps_if (PW.pt (pw_or (pt_cmpR (kOp (K := K) (r := uNe) rfl (opu_ne hr.units)) (pe_callB (kCall (K := K) (r := uIsi) rfl callu_isi) (by rfl) B.b_isinstance (by decide +kernel) (pa_cons (pv 1) (pa_cons (pe_bltn (v := .ty "list") (by rfl) B.b_list (by decide +kernel) rfl) pa_nil))) (pe_callB (kCall (K := K) (r := uIsi) rfl callu_isi) (by rfl) B.b_isinstance (by decide +kernel) (pa_cons (pv 0) (pa_cons (pe_bltn (v := .ty "list") (by rfl) B.b_list (by decide +kernel) rfl) pa_nil))) (nomark _)) (pw_or1 (pt_cmpR (kOp (K := K) (r := uNe) rfl (opu_ne hr.units)) (pe_callB (kCall (K := K) (r := uIsi) rfl callu_isi) (by rfl) B.b_isinstance (by decide +kernel) (pa_cons (pv 1) (pa_cons (pe_bltn (v := .ty "tuple") (by rfl) B.b_tuple (by decide +kernel) rfl) pa_nil))) (pe_callB (kCall (K := K) (r := uIsi) rfl callu_isi) (by rfl) B.b_isinstance (by decide +kernel) (pa_cons (pv 0) (pa_cons (pe_bltn (v := .ty "tuple") (by rfl) B.b_tuple (by decide +kernel) rfl) pa_nil))) (nomark _))))) (pss_one (ps_ret pe_bl)) pss_nil)
 (pss_cons (ps_setLc (i := 2) (own := [("_law_one_here", 3), ("_law_other", 4)]) (g := gTup K 2 (gCons (gName 3) (gCons (gName 4) gNil))) (tt := tYes) rfl sc__law_same.nd rfl rfl (sw_true rfl rfl rfl (by decide +kernel)) (RZ.pi_zipA (by rfl) B.b_zip (pa_cons (pv 0) (pa_cons (pv 1) pa_nil))) (blkOk_by (own := [("_law_one_here", 3), ("_law_other", 4)]) (N := ["_law_found", "_law_due", "_law_same_here", "_law_one_here", "_law_other"]) (sc := defScope s__law_same) (by decide +kernel)) (fun _ _ _ _ _ => (by exact (pg_tupK (K := K) rfl rfl (pgs_cons (pg_name (i := 3) sc__law_same.nd rfl (by first | exact Or.inl rfl | exact Or.inr rfl)) (pgs_cons (pg_name (i := 4) sc__law_same.nd rfl (by first | exact Or.inl rfl | exact Or.inr rfl)) pgs_nil))))) (fun _ _ _ _ _ => pts_nil) (fun _ _ _ _ _ => (by exact (pe_calG C__law_same hr rfl (pa_cons (pv 3) (pa_cons (pv 4) pa_nil))))))
 (pss_one (ps_ret (pe_andTK (K := K) rfl (pe_cmpR (kOp (K := K) (r := uEq) rfl (opu_eq hr.units)) (pe_callB (kCall (K := K) (r := uLen) rfl callu_len) (by rfl) B.b_len (by decide +kernel) (pa_cons (pv 0) pa_nil)) (pe_callB (kCall (K := K) (r := uLen) rfl callu_len) (by rfl) B.b_len (by decide +kernel) (pa_cons (pv 1) pa_nil)) (nomark _)) (pe_one (pe_callB (kCall (K := K) (r := rAll) rfl (cr_all rfl)) (by rfl) B.b_all (by decide +kernel) (pa_cons (pv 2) pa_nil))))))))), rd_start (σ0 := [some x, some y, none, none, none]) rfl ?_⟩
 walk_at "q"
 refine ⟨le_of (by decide), fun p hp => ?_⟩
 have e1 : Fr [] H (upd H p (.tup [.ty "list", .ty "tuple"])) := Fr.new hp
 have hpt : (upd H p (.tup [.ty "list", .ty "tuple"])) p = some (.tup [.ty "list", .ty "tuple"]) := upd_same
 generalize upd H p (.tup [.ty "list", .ty "tuple"]) = H1 at *
 replace hx := dp_same e1.same hx
 replace hy := dp_same e1.same hy
 walk_at "q"
 by_cases hd : ∀ ds, d ≠ .list ds ∧ d ≠ .tuple ds
 ·obtain ⟨rfl, hsh, T, ty, k1, k2⟩ := same_leaf hx hy hs hd
  refine g_isi2 hpt ty k1 k2 ?_
  walk_at "q"
  refine g_reprS hsh ?_
  walk_at "q"
  refine g_reprS hsh ?_
  walk_at "q"
  rw [decide_eq_true rfl]
  exact q _ e1
 ·have hcase : (∃ ds, d = .list ds) ∨ (∃ ds, d = .tuple ds) := by
   cases d with
   | list ds => exact .inl ⟨ds, rfl⟩
   | tuple ds => exact .inr ⟨ds, rfl⟩
   | _ => exact absurd (fun ds => ⟨(fun z => nomatch z), (fun z => nomatch z)⟩) hd
  rcases hcase with ⟨ds, rfl⟩ | ⟨ds, rfl⟩
  ·obtain ⟨hs1, hs2⟩ := hs
   cases hx with
   | @lst a xs _ ha hxs =>
   cases hy with
   | @lst b ys _ hb hys =>
   refine g_isi2 hpt (tyx_l hb) (b1 := true) (b2 := false) (by decide +kernel) (by decide +kernel) ?_
   walk_at "q"
   refine g_isi (tyx_l hb) (b := true) (by decide +kernel) ?_
   walk_at "q"
   refine g_isi (tyx_l ha) (b := true) (by decide +kernel) ?_
   walk_at "q"
   refine g_isi (tyx_l hb) (b := false) (by decide +kernel) ?_
   walk_at "q"
   refine g_isi (tyx_l ha) (b := false) (by decide +kernel) ?_
   walk_at "q"
   have hl1 := dpa_len hxs
   have hl2 := dpa_len hys
   refine ⟨a, b, xs, ys, rfl, .inl ⟨ha, hb, fun D hD => lc_it (walk_zip (xs := xs) (ys := ys) (n := ds.length) (by omega)) (fun i H' => Fr [] H1 H' ∧ H' D = some (.lst (List.replicate i (.bl true)))) ⟨Fr.new hD, upd_same⟩ (fun i H' _ h => ⟨h.1.seq (fun z => nomatch z) ha, h.1.seq (fun z => nomatch z) hb⟩) (fun i z H' H'' hi h y => ?_) (fun H' h => ?_)⟩⟩
   ·obtain ⟨T, u, v, rfl, hT, rfl, hu, hv⟩ := y
    obtain ⟨h1, h2⟩ := h
    walk_at "q"
    refine ⟨rfl, ?_⟩
    walk_at "q"
    have eT : Fr [] H' (upd H' T (.tup [u, v])) := Fr.new hT
    obtain ⟨d1, hd1, q1⟩ := dpa_get hxs hu
    obtain ⟨d2, hd2, q2⟩ := dpa_get hys hv
    have ed : d1 = d2 := Option.some.inj (hd1.symm.trans hd2)
    subst ed
    refine ⟨u, v, d1, rfl, dp_same ((h1.trans eT).same) q1, dp_same ((h1.trans eT).same) q2, hs2 d1 (List.mem_of_getElem? hd1), fun H3 e3 => ?_⟩
    refine ⟨_, e3.at (eT.at h2 (fun z => nomatch z)) (fun z => nomatch z), lt_of (by rw [List.length_replicate]; omega), ((h1.trans eT).trans e3).over hD, ?_⟩
    rw [upd_same, List.replicate_succ']
   ·obtain ⟨h1, h2⟩ := h
    walk_at "q"
    refine g_len (.inl (h1.seq (fun z => nomatch z) ha)) ?_
    walk_at "q"
    refine g_len (.inl (h1.seq (fun z => nomatch z) hb)) ?_
    walk_at "q"
    rw [decide_eq_true (show (xs.length : Int) = ys.length by omega)]
    walk_at "q"
    refine ⟨D, List.replicate ds.length true, rfl, SqL.of (by rw [h2, List.map_replicate]), ?_⟩
    rw [show (List.replicate ds.length true).all id = true by simp]
    exact q _ (e1.trans h1)
  ·obtain ⟨hs1, hs2⟩ := hs
   cases hx with
   | @tup a xs _ ha hxs =>
   cases hy with
   | @tup b ys _ hb hys =>
   refine g_isi2 hpt (tyx_t hb) (b1 := false) (b2 := true) (by decide +kernel) (by decide +kernel) ?_
   walk_at "q"
   refine g_isi (tyx_t hb) (b := false) (by decide +kernel) ?_
   walk_at "q"
   refine g_isi (tyx_t ha) (b := false) (by decide +kernel) ?_
   walk_at "q"
   refine g_isi (tyx_t hb) (b := true) (by decide +kernel) ?_
   walk_at "q"
   refine g_isi (tyx_t ha) (b := true) (by decide +kernel) ?_
   walk_at "q"
   have hl1 := dpa_len hxs
   have hl2 := dpa_len hys
   refine ⟨a, b, xs, ys, rfl, .inr ⟨ha, hb, fun D hD => lc_it (walk_zipT (xs := xs) (ys := ys) (n := ds.length) (by omega)) (fun i H' => Fr [] H1 H' ∧ H' D = some (.lst (List.replicate i (.bl true)))) ⟨Fr.new hD, upd_same⟩ (fun i H' _ h => ⟨h.1.tup ha, h.1.tup hb⟩) (fun i z H' H'' hi h y => ?_) (fun H' h => ?_)⟩⟩
   ·obtain ⟨T, u, v, rfl, hT, rfl, hu, hv⟩ := y
    obtain ⟨h1, h2⟩ := h
    walk_at "q"
    refine ⟨rfl, ?_⟩
    walk_at "q"
    have eT : Fr [] H' (upd H' T (.tup [u, v])) := Fr.new hT
    obtain ⟨d1, hd1, q1⟩ := dpa_get hxs hu
    obtain ⟨d2, hd2, q2⟩ := dpa_get hys hv
    have ed : d1 = d2 := Option.some.inj (hd1.symm.trans hd2)
    subst ed
    refine ⟨u, v, d1, rfl, dp_same ((h1.trans eT).same) q1, dp_same ((h1.trans eT).same) q2, hs2 d1 (List.mem_of_getElem? hd1), fun H3 e3 => ?_⟩
    refine ⟨_, e3.at (eT.at h2 (fun z => nomatch z)) (fun z => nomatch z), lt_of (by rw [List.length_replicate]; omega), ((h1.trans eT).trans e3).over hD, ?_⟩
    rw [upd_same, List.replicate_succ']
   ·obtain ⟨h1, h2⟩ := h
    walk_at "q"
    refine g_len (.inr (h1.tup ha)) ?_
    walk_at "q"
    refine g_len (.inr (h1.tup hb)) ?_
    walk_at "q"
    rw [decide_eq_true (show (xs.length : Int) = ys.length by omega)]
    walk_at "q"
    refine ⟨D, List.replicate ds.length true, rfl, SqL.of (by rw [h2, List.map_replicate]), ?_⟩
    rw [show (List.replicate ds.length true).all id = true by simp]
    exact q _ (e1.trans h1)
end
structure BiX (mg : Str → Option Value) : Prop where
 b_ValueError : mg "ValueError" = none
abbrev s_LoreError_ini : Stmt := methS 1 0
theorem sc_LoreError_ini : FnScope ["self", "word"] ["self", "word"] (defScope s_LoreError_ini) := ⟨rfl, rfl, rfl, by decide +kernel, rfl, by decide +kernel, by decide +kernel⟩
theorem ok_LoreError_ini {P : Program} {w : World} {K : PySem.W.Frag} {mg : Str → Option Value} {base : Heap} {f : Addr} {fd : FuncData} (F : FnM K "LoreError.__init__" s_LoreError_ini f fd) (B : BiX mg) : FnG P w K mg base CX0 1 f fd ["self", "word"] (spL K) := by
 refine okG F sc_LoreError_ini (fun vs H Q E h => ?_) (fun cdv A outer s H vs Q E hr h => ?_)
 ·obtain ⟨a, C, y, rfl, _⟩ := h
  rfl
 obtain ⟨a, C, y, rfl, ⟨oe, hn, ha⟩, q⟩ := h
 refine ⟨_, PSs.nox (pss_cons (ps_expr (kVeI (K := K) rfl (pe_veinit (by rfl) B.b_ValueError (find_VE _) (pa_cons (pv 0) (pa_cons (pv 1) pa_nil)))))
 (pss_one (kOst (K := K) rfl (ps_ost (pv 0) (pv 1))))), rd_start (σ0 := [some (.ref a), some y]) rfl ?_⟩
 walk_at "q"
 refine ⟨a, C, [y], rfl, Nat.le_of_ble_eq_true rfl, oe, ha, ?_⟩
 walk_at "q"
 refine ⟨a, C, rfl, oe, hn, .inl ⟨ha, fun d hd hne => ?_⟩⟩
 exact q d _ hd hne (Fr.exd hd ha) upd_same (by rw [upd_ne hne]; exact upd_same)
abbrev s_BadText_ini : Stmt := methS 3 0
theorem sc_BadText_ini : FnScope ["self", "at"] ["self", "at"] (defScope s_BadText_ini) := ⟨rfl, rfl, rfl, by decide +kernel, rfl, by decide +kernel, by decide +kernel⟩
theorem ok_BadText_ini {P : Program} {w : World} {K : PySem.W.Frag} {mg : Str → Option Value} {base : Heap} {f a_TextError : Addr} {fd : FuncData} (F : FnM K "BadText.__init__" s_BadText_ini f fd) (G_TextError : ClG P w K mg base 1 "TextError" a_TextError (spL K)) : FnG P w K mg base CX0 2 f fd ["self", "at"] (spI1 K "badtext" "at") := by
 refine okG F sc_BadText_ini (fun vs H Q E h => ?_) (fun cdv A outer s H vs Q E hr h => ?_)
 ·obtain ⟨a, C, y, rfl, _⟩ := h
  rfl
 obtain ⟨a, C, y, rfl, ⟨oe, hn, ha⟩, hf, q⟩ := h
 refine ⟨_, PSs.nox (pss_cons (ps_expr (pe_fini G_TextError hr rfl (pa_cons (pv 0) (pa_cons pe_str pa_nil))))
 (pss_one (kOst (K := K) rfl (ps_ost (pv 0) (pv 1))))), rd_start (σ0 := [some (.ref a), some y]) rfl ?_⟩
 walk_at "q"
 refine ⟨a, C, _, rfl, ⟨oe, hn, ha⟩, fun d H1 hd hne fr e1 e2 => ?_⟩
 walk_at "q"
 refine ⟨a, C, rfl, oe, hf, .inr ⟨d, _, e1, e2, by decide, ?_⟩⟩
 exact q d _ hd hne (fr.over hd) (by rw [upd_ne (Ne.symm hne)]; exact e1) upd_same
theorem walk_sg {z : Str} : Walk (Its z) z.cps.toList.length (fun _ => True) (YAt (z.cps.toList.map fun c => V.str ⟨#[c]⟩)) := by
 have e : z.cps.toList.length = z.cps.size := Array.length_toList
 rw [e]
 refine ⟨walk_str.goes, walk_str.stops, fun i H v H' hi q y => ?_⟩
 obtain ⟨h1, c, h2, rfl⟩ := walk_str.yields i H v H' hi q y
 refine ⟨h1, ?_⟩
 rw [List.getElem?_map, Array.getElem?_toList, h2]
 rfl
theorem lc_sg {z : Str} {p : Nat → Bool} {g : TG} {te : TE} {vs : List Nat} {σ : L2.St} {H1 : Hp} {D : Addr} {Qd : Hp → Prop} (hz : z.length ≤ 10000) (hD : H1 D = none)
  (body : ∀ (c : Nat) (H' : Hp) (A : V → Hp → Prop), Fr [] H1 H' → (∀ H4, Fr [] H' H4 → A (.bl (p c)) H4) → g (.str ⟨#[c]⟩) (wipe σ vs) H' fun σ2 H2 => wipe σ2 vs = wipe σ vs ∧ te σ2 H2 A)
  (fin : ∀ H', Fr [] H1 H' → H' D = some (.lst ((z.cps.toList.map p).map V.bl)) → Qd H') :
  ∃ W : Nat → Nat → Hp → Prop, (∃ m, W 0 m (upd H1 D (.lst []))) ∧ ∀ i m H, W i m H →
   ((Its z).stop i H ∧ Qd H) ∨ ((Its z).go i H ∧ ∃ Nx : Hp → Prop, (∀ H', Nx H' → ∃ m', m' < m ∧ W (i + 1) m' H') ∧ ∀ x H', (Its z).yld i H x H' → g x (wipe σ vs) H' fun σ2 H2 => wipe σ2 vs = wipe σ vs ∧ tYes σ2 H2 fun b H3 =>
    if b = true then te σ2 H3 fun y H4 => ∃ acc, H4 D = some (.lst acc) ∧ acc.length < sizeLine ∧ Nx (upd H4 D (.lst (acc ++ [y]))) else Nx H3) := by
 have e : z.cps.toList.length = z.length := Array.length_toList
 refine lc_map walk_sg (ys := (z.cps.toList.map p).map V.bl) (fun _ _ => trivial) (by simp) (by simp) (by omega) hD (fun i x y H' A hx hy e k => ?_) fin
 rw [List.getElem?_map] at hx
 rw [List.getElem?_map, List.getElem?_map] at hy
 cases q : z.cps.toList[i]? with
 | none => rw [q] at hx; cases hx
 | some c =>
  rw [q] at hx hy
  cases hx
  cases hy
  exact body c H' A e k
theorem sg_lt (a b : Nat) : decide ((⟨#[a]⟩ : Str).cps.toList < (⟨#[b]⟩ : Str).cps.toList) = decide (a < b) := by
 show decide ([a] < [b]) = decide (a < b)
 by_cases h : a < b
 ·rw [decide_eq_true h]
  exact decide_eq_true (List.Lex.rel h)
 ·rw [decide_eq_false h]
  refine decide_eq_false fun z => ?_
  cases z with
  | rel z => exact h z
  | cons z => cases z
abbrev z_LETTERS : Str := "abcdefghijklmnopqrstuvwxyz"
abbrev z_FIGURES : Str := "0123456789"
abbrev z_MOST_SIGNS : Int := 12
abbrev z_MOST_FIGURES : Int := 30
theorem in_let (c : Nat) : (!(Builtin.Str.occurrences z_LETTERS ⟨#[c]⟩ 0 z_LETTERS.length 1).isEmpty) = isLet c := by
 rw [StrLaws.found_one]
 have e : z_LETTERS.cps.toList = [97, 98, 99, 100, 101, 102, 103, 104, 105, 106, 107, 108, 109, 110, 111, 112, 113, 114, 115, 116, 117, 118, 119, 120, 121, 122] := by decide +kernel
 rw [e]
 unfold isLet
 refine decide_eq_decide.mpr ?_
 simp only [List.mem_cons, List.not_mem_nil, or_false]
 omega
theorem in_fig (c : Nat) : (!(Builtin.Str.occurrences z_FIGURES ⟨#[c]⟩ 0 z_FIGURES.length 1).isEmpty) = isFig c := by
 rw [StrLaws.found_one]
 have e : z_FIGURES.cps.toList = [48, 49, 50, 51, 52, 53, 54, 55, 56, 57] := by decide +kernel
 rw [e]
 unfold isFig
 refine decide_eq_decide.mpr ?_
 simp only [List.mem_cons, List.not_mem_nil, or_false]
 omega
def goodL (l : List Nat) : Bool := match l with
 | [] => false
 | c :: r => decide (r.length ≤ 11) && (isLet c && (c :: r).all (fun d => isLet d || isFig d))
def goodW (z : Str) : Bool := goodL z.cps.toList
def keptW : List Str := ["if", "not", "is", "count", "sum", "least", "most", "yes", "no", "me"]
structure GlV (K : PySem.W.Frag) (mg : Str → Option Value) (a_KEPT : Addr) : Prop where
 l : ∃ t, mg "LETTERS" = some (.str z_LETTERS t)
 f : ∃ t, mg "FIGURES" = some (.str z_FIGURES t)
 s : ∃ t, mg "MOST_SIGNS" = some (.int z_MOST_SIGNS t)
 n : ∃ t, mg "MOST_FIGURES" = some (.int z_MOST_FIGURES t)
 k : mg "KEPT" = some (.ref a_KEPT)
 kt : ∀ H, SqT K H a_KEPT (keptW.map V.str)
structure BiV (mg : Str → Option Value) : Prop where
 b_all : mg "all" = none
 b_len : mg "len" = none
 b_isinstance : mg "isinstance" = none
 b_bool : mg "bool" = none
 b_int : mg "int" = none
 b_str : mg "str" = none
 b_ValueError : mg "ValueError" = none
 b_list : mg "list" = none
 b_range : mg "range" = none
def spB (p : Str → Bool) : Sp := fun vs H Q _ => ∃ z, vs = [.str z] ∧ Tx 9000 z ∧ ∀ H', Fr [] H H' → Q (.bl (p z)) H'
theorem at0 {z : Str} {c : Nat} {r : List Nat} (e : z.cps.toList = c :: r) : atI z.cps.toList 0 = some c := by rw [e]; exact atI_nat (j := 0) rfl
theorem len_l (z : Str) : z.length = z.cps.toList.length := Array.length_toList.symm
abbrev s_is_word : Stmt := topS 10
theorem sc_is_word : FnScope ["text", "sign"] ["text"] (defScope s_is_word) := ⟨rfl, rfl, rfl, by decide +kernel, rfl, by decide +kernel, by decide +kernel⟩
abbrev s_is_name : Stmt := topS 11
theorem sc_is_name : FnScope ["text"] ["text"] (defScope s_is_name) := ⟨rfl, rfl, rfl, by decide +kernel, rfl, by decide +kernel, by decide +kernel⟩
section
variable {P : Program} {w : World} {K : PySem.W.Frag} {mg : Str → Option Value} {base : Heap} {a_KEPT : Addr}
theorem ok_is_word {f : Addr} {fd : FuncData} (F : FnP K "is_word" s_is_word f fd) (B : BiV mg) (G : GlV K mg a_KEPT) : FnG P w K mg base CX0 20 f fd ["text"] (spB goodW) := by
 refine okG F sc_is_word (fun vs H Q E h => ?_) (fun cdv A outer s H vs Q E hr h => ?_)
 ·obtain ⟨z, rfl, _⟩ := h
  rfl
 obtain ⟨z, rfl, hz, q⟩ := h
 obtain ⟨tL, g_LETTERS⟩ := G.l
 obtain ⟨tF, g_FIGURES⟩ := G.f
 obtain ⟨tS, g_MOST_SIGNS⟩ := G.s
 have zl := hz.len
 have zs : z.length ≤ sizeLine := le_of (by omega)
 have ll := len_l z
 refine ⟨_, PSs.nox (pss_cons (ps_if (PW.pt (pw_or (pt_not (pt_chain opu_le opu_le pe_int (pe_callB (kCall (K := K) (r := uLen) rfl callu_len) (by rfl) B.b_len (by decide +kernel) (pa_cons (pv 0) pa_nil)) (pe_glob (v := .int z_MOST_SIGNS) rfl g_MOST_SIGNS ⟨_, rfl⟩))) (pw_or1 (pt_cmpR (kOp (K := K) (r := uNotIn) rfl opu_notIn) (pe_ix (kIx (K := K) (r := rIx) rfl ix_seq) (pv 0) pe_int (fun _ _ => rfl)) (pe_glob (v := .str z_LETTERS) rfl g_LETTERS ⟨_, rfl⟩) (by rfl))))) (pss_one (ps_ret pe_bl)) pss_nil)
 (pss_one (ps_ret (pe_callB (kCall (K := K) (r := rAll) rfl (cr_all rfl)) (by rfl) B.b_all (by decide +kernel) (pa_cons (pe_lc (own := [("sign", 1)]) (g := gName 1) (tt := tYes) rfl sc_is_word.nd (pi_str (pv 0)) (blkOk_by (own := [("sign", 1)]) (N := ["text", "sign"]) (sc := defScope s_is_word) (by decide +kernel)) (fun _ _ _ _ _ => (by exact (pg_name (i := 1) sc_is_word.nd rfl (by first | exact Or.inl rfl | exact Or.inr rfl)))) (fun _ _ _ _ _ => pts_nil) (fun _ _ _ _ _ => (by exact (pe_orTK (K := K) rfl (pe_cmpR (kOp (K := K) (r := uIn) rfl opu_in) (pv 1) (pe_glob (v := .str z_LETTERS) rfl g_LETTERS ⟨_, rfl⟩) (by rfl)) (pe_one (pe_cmpR (kOp (K := K) (r := uIn) rfl opu_in) (pv 1) (pe_glob (v := .str z_FIGURES) rfl g_FIGURES ⟨_, rfl⟩) (by rfl))))))) pa_nil))))), rd_start (σ0 := [some (.str z), none]) rfl ?_⟩
 walk_at "q"
 refine g_lenS zs ?_
 walk_at "q"
 have no : goodW z = false → Q (.bl false) H := fun e => by
  have z1 := q H Fr.refl
  rw [e] at z1
  exact z1
 refine g_by (fun c1 => ?_) (fun c1 => ?_)
 ·obtain ⟨c, r, ez⟩ : ∃ c r, z.cps.toList = c :: r := by
   cases e : z.cps.toList with
   | nil => rw [e] at ll; simp at ll; omega
   | cons c r => exact ⟨c, r, rfl⟩
  have lr : r.length + 1 = z.length := by rw [ll, ez]; rfl
  have eg : goodW z = (decide (r.length ≤ 11) && (isLet c && (c :: r).all (fun d => isLet d || isFig d))) := by
   unfold goodW
   rw [ez]
   rfl
  walk_at "q"
  refine g_byN (fun c2 => ?_) (fun c2 => ?_)
  ·walk_at "q"
   refine no ?_
   have h : ¬ r.length ≤ 11 := fun h => c2 (by show (z.length : Int) ≤ 12; omega)
   rw [eg, decide_eq_false h]
   rfl
  ·walk_at "q"
   refine g_ixS zs (at0 ez) ?_
   walk_at "q"
   refine g_notInS ?_
   rw [in_let]
   have h : r.length ≤ 11 := by
    have c3 : (z.length : Int) ≤ 12 := c2
    omega
   rw [decide_eq_true h, Bool.true_and] at eg
   walk_at "q"
   cases hc : isLet c with
   | false =>
    refine g_tt rfl ?_
    walk_at "q"
    refine no ?_
    rw [eg, hc]
    rfl
   | true =>
    refine g_ff rfl ?_
    walk_at "q"
    refine ⟨z, rfl, fun D hD => lc_sg (p := fun d => isLet d || isFig d) (by omega) hD (fun d H' A e k => ?_) (fun H' e hl => ?_)⟩
    ·walk_at "q"
     refine ⟨rfl, ?_⟩
     walk_at "q"
     refine g_inS ?_
     rw [in_let]
     walk_at "q"
     cases hd : isLet d with
     | true =>
      refine g_tt rfl ?_
      have z1 := k H' Fr.refl
      simp only [hd, Bool.true_or] at z1
      exact z1
     | false =>
      refine g_ff rfl ?_
      walk_at "q"
      refine g_inS ?_
      rw [in_fig]
      have z1 := k H' Fr.refl
      simp only [hd, Bool.false_or] at z1
      exact z1
    ·walk_at "q"
     refine ⟨D, _, rfl, SqL.of hl, ?_⟩
     have z1 := q H' e
     rw [eg, hc, Bool.true_and, ← ez] at z1
     rw [List.all_map]
     exact z1
 ·walk_at "q"
  refine no ?_
  unfold goodW
  have e : z.cps.toList = [] := by
   cases e : z.cps.toList with
   | nil => rfl
   | cons c r => rw [e] at ll; simp at ll; omega
  rw [e]
  rfl
theorem ok_is_name {f : Addr} {fd : FuncData} (F : FnP K "is_name" s_is_name f fd) (G : GlV K mg a_KEPT) (C_is_word : CalG P w K mg base 20 "is_word" (spB goodW)) : FnG P w K mg base CX0 21 f fd ["text"] (spB fun z => goodW z && !decide (z ∈ keptW)) := by
 refine okG F sc_is_name (fun vs H Q E h => ?_) (fun cdv A outer s H vs Q E hr h => ?_)
 ·obtain ⟨z, rfl, _⟩ := h
  rfl
 obtain ⟨z, rfl, hz, q⟩ := h
 have g_KEPT := G.k
 refine ⟨_, PSs.nox (pss_one (ps_ret (pe_andTK (K := K) rfl (pe_calG C_is_word hr rfl (pa_cons (pv 0) pa_nil)) (pe_one (pe_cmpR (kOp (K := K) (r := uNotIn) rfl opu_notIn) (pv 0) (pe_glob (v := .ref a_KEPT) rfl g_KEPT rfl) (by rfl)))))), rd_start (σ0 := [some (.str z)]) rfl ?_⟩
 walk_at "q"
 refine ⟨z, rfl, hz, fun H1 f1 => ?_⟩
 walk_at "q"
 have z1 := q H1 f1
 refine g_byB (fun c => ?_) (fun c => ?_)
 ·walk_at "q"
  refine g_notInT (.inr (G.kt _)) (flat_strs _) ?_
  rw [inV_str]
  simp only [c, Bool.true_and] at z1
  exact z1
 ·simp only [c, Bool.false_and] at z1
  rw [c]
  exact z1
end
theorem str_ext {a b : Str} (h : a.cps.toList = b.cps.toList) : a = b := by
 obtain ⟨⟨a⟩⟩ := a
 obtain ⟨⟨b⟩⟩ := b
 have e : a = b := h
 rw [e]
theorem dec_str (a b : Str) : decide (a = b) = decide (a.cps.toList = b.cps.toList) := decide_eq_decide.mpr ⟨fun h => by rw [h], str_ext⟩
theorem cut_drop1 (z : Str) : (cutS z (some 1) none).cps.toList = z.cps.toList.drop 1 := by
 show ((z.cps.toList.drop (HT.sIx z.length 0 (some ((1 : Nat) : Int)))).take (HT.sIx z.length z.length none - HT.sIx z.length 0 (some ((1 : Nat) : Int)))).toArray.toList = _
 rw [HT.sIx_nat, HT.sIx_none, len_l]
 cases z.cps.toList with
 | nil => rfl
 | cons c r =>
  have e : min 1 (c :: r).length = 1 := by simp
  rw [e]
  simp
theorem cut_take1 (z : Str) : (cutS z none (some 1)).cps.toList = z.cps.toList.take 1 := by
 show ((z.cps.toList.drop (HT.sIx z.length 0 none)).take (HT.sIx z.length z.length (some ((1 : Nat) : Int)) - HT.sIx z.length 0 none)).toArray.toList = _
 rw [HT.sIx_nat, HT.sIx_none, len_l]
 cases z.cps.toList with
 | nil => rfl
 | cons c r =>
  have e : min 1 (c :: r).length = 1 := by simp
  rw [e]
  simp
theorem g_cutE {te : TE} {σ : L2.St} {H : Hp} {Q : VK} (Pv : V → Hp → Prop) (h1 : ∀ x H', Pv x H' → Q x H') (h2 : ∀ Q' : VK, (∀ x H', Pv x H' → Q' x H') → te σ H Q') : te σ H Q := h2 Q h1
def figL (l : List Nat) : List Nat := match l with
 | c :: r => if c = 45 then r else c :: r
 | [] => []
theorem figL_cons (c : Nat) (r : List Nat) : figL (c :: r) = if c = 45 then r else c :: r := rfl
def numB (z : Str) : Bool := decide (1 ≤ (figL z.cps.toList).length ∧ (figL z.cps.toList).length ≤ 30) && ((figL z.cps.toList).all isFig && (!decide (z = "-0") && (decide (figL z.cps.toList = [48]) || !decide ((figL z.cps.toList).head? = some 48))))
theorem minus_head (z : Str) : decide (cutS z none (some 1) = "-") = decide (z.cps.toList.head? = some 45) := by
 rw [dec_str, cut_take1]
 refine decide_eq_decide.mpr ?_
 rw [show ("-" : Str).cps.toList = [45] by decide +kernel]
 cases z.cps.toList with
 | nil => simp
 | cons c r => simp
theorem fig_dig {l : List Nat} (h : l.all isFig = true) : NumText.AllDigits l := fun c hc => by
 have z := List.all_eq_true.mp h c hc
 unfold isFig at z
 exact of_decide_eq_true z
theorem dig_lt {l : List Nat} (h : NumText.AllDigits l) : ∀ a : Nat, l.foldl (fun acc c => acc * 10 + (c - 48)) a < (a + 1) * 10 ^ l.length := by
 induction l with
 | nil => intro a; simp
 | cons c r ih =>
  intro a
  have z := ih h.tail (a * 10 + (c - 48))
  have hc := h.head
  rw [List.foldl_cons, List.length_cons, Nat.pow_succ]
  refine Nat.lt_of_lt_of_le z ?_
  rw [Nat.mul_comm (10 ^ r.length) 10, ← Nat.mul_assoc]
  exact Nat.mul_le_mul_right _ (by omega)
theorem num_int {z : Str} (h : numB z = true) : ∃ n : Int, intText? z = some n ∧ n.natAbs < 10 ^ 30 := by
 unfold numB at h
 simp only [Bool.and_eq_true, decide_eq_true_eq] at h
 obtain ⟨⟨h1, h2⟩, h3, _⟩ := h
 have hd := fig_dig h3
 have ll := len_l z
 have bnd := dig_lt hd 0
 have p : 10 ^ (figL z.cps.toList).length ≤ 10 ^ 30 := Nat.pow_le_pow_right (by decide) h2
 have b2 : NumText.digitsVal (figL z.cps.toList) < 10 ^ 30 := by
  unfold NumText.digitsVal
  omega
 cases e : z.cps.toList with
 | nil => rw [e] at h1; simp [figL] at h1
 | cons c r =>
  rw [e] at h1 h2 hd ll b2
  rw [figL_cons] at h1 h2 hd b2
  by_cases hc : c = 45
  ·subst hc
   simp only [if_true] at h1 h2 hd b2
   have ne : r ≠ [] := fun z => by rw [z] at h1; simp at h1
   refine ⟨_, PySem.intText_neg e hd ne (by simp only [List.length_cons] at ll; omega), ?_⟩
   rw [Int.natAbs_neg, Int.natAbs_natCast]
   exact b2
  ·simp only [if_neg hc] at h1 h2 hd b2
   refine ⟨_, PySem.intText_digits (by rw [e]; exact hd) (by rw [e]; simp) (by omega), ?_⟩
   rw [Int.natAbs_natCast, e]
   exact b2
abbrev s_is_number : Stmt := topS 12
theorem sc_is_number : FnScope ["text", "figures", "sign"] ["text"] (defScope s_is_number) := ⟨rfl, rfl, rfl, by decide +kernel, rfl, by decide +kernel, by decide +kernel⟩
section
variable {P : Program} {w : World} {K : PySem.W.Frag} {mg : Str → Option Value} {base : Heap} {a_KEPT : Addr}
theorem ok_is_number {f : Addr} {fd : FuncData} (F : FnP K "is_number" s_is_number f fd) (B : BiV mg) (G : GlV K mg a_KEPT) : FnG P w K mg base CX0 20 f fd ["text"] (spB numB) := by
 refine okG F sc_is_number (fun vs H Q E h => ?_) (fun cdv A outer s H vs Q E hr h => ?_)
 ·obtain ⟨z, rfl, _⟩ := h
  rfl
 obtain ⟨z, rfl, hz, q⟩ := h
 obtain ⟨tF, g_FIGURES⟩ := G.f
 obtain ⟨tS, g_MOST_FIGURES⟩ := G.n
 have zl := hz.len
 have zs : z.length ≤ sizeLine := le_of (by omega)
 have ll := len_l z
 refine ⟨_, PSs.nox (pss_cons (ps_set (i := 1) sc_is_number.nd rfl (.inl rfl) (pe_ifExp (pt_cmpR (kOp (K := K) (r := uEq) rfl (opu_eq hr.units)) (pe_slice sl_str (pv 0) po_none (po_some pe_int)) pe_str (nomark _)) (pe_slice sl_str (pv 0) (po_some pe_int) po_none) (pv 0)))
 (pss_cons (ps_if (PW.pt (pw_or (pt_not (pt_chain opu_le opu_le pe_int (pe_callB (kCall (K := K) (r := uLen) rfl callu_len) (by rfl) B.b_len (by decide +kernel) (pa_cons (pv 1) pa_nil)) (pe_glob (v := .int z_MOST_FIGURES) rfl g_MOST_FIGURES ⟨_, rfl⟩))) (pw_or1 (pt_not (pt_val (pe_callB (kCall (K := K) (r := rAll) rfl (cr_all rfl)) (by rfl) B.b_all (by decide +kernel) (pa_cons (pe_lc (own := [("sign", 2)]) (g := gName 2) (tt := tYes) rfl sc_is_number.nd (pi_str (pv 1)) (blkOk_by (own := [("sign", 2)]) (N := ["text", "figures", "sign"]) (sc := defScope s_is_number) (by decide +kernel)) (fun _ _ _ _ _ => (by exact (pg_name (i := 2) sc_is_number.nd rfl (by first | exact Or.inl rfl | exact Or.inr rfl)))) (fun _ _ _ _ _ => pts_nil) (fun _ _ _ _ _ => (by exact (pe_cmpR (kOp (K := K) (r := uIn) rfl opu_in) (pv 2) (pe_glob (v := .str z_FIGURES) rfl g_FIGURES ⟨_, rfl⟩) (by rfl))))) pa_nil))))))) (pss_one (ps_ret pe_bl)) pss_nil)
 (pss_one (ps_ret (pe_andTK (K := K) rfl (pe_cmpR (kOp (K := K) (r := uNe) rfl (opu_ne hr.units)) (pv 0) pe_str (nomark _)) (pe_one (pe_orTK (K := K) rfl (pe_cmpR (kOp (K := K) (r := uEq) rfl (opu_eq hr.units)) (pv 1) pe_str (nomark _)) (pe_one (pe_cmpR (kOp (K := K) (r := uNe) rfl (opu_ne hr.units)) (pe_ix (kIx (K := K) (r := rIx) rfl ix_seq) (pv 1) pe_int (fun _ _ => rfl)) pe_str (nomark _)))))))))), rd_start (σ0 := [some (.str z), none, none]) rfl ?_⟩
 refine g_seq (g_asg (g_cutE (fun x H' => H' = H ∧ ∃ y, x = .str y ∧ y.cps.toList = figL z.cps.toList) (fun x H' h => ?_) (fun Q' k => ?_)))
 rotate_left
 ·walk_at "q"
  refine g_slS zs ?_
  walk_at "q"
  rw [minus_head]
  refine g_by (fun c => ?_) (fun c => ?_)
  ·walk_at "q"
   refine g_slS zs ?_
   refine k _ _ ⟨rfl, _, rfl, ?_⟩
   rw [cut_drop1]
   cases e : z.cps.toList with
   | nil => rfl
   | cons d r =>
    rw [e] at c
    have c2 : d = 45 := by simpa using c
    subst c2
    rfl
  ·walk_at "q"
   refine k _ _ ⟨rfl, _, rfl, ?_⟩
   cases e : z.cps.toList with
   | nil => rfl
   | cons d r =>
    rw [e] at c
    have c2 : ¬ d = 45 := by simpa using c
    rw [figL_cons, if_neg c2]
 obtain ⟨rfl, y, rfl, hy⟩ := h
 have fl : (figL z.cps.toList).length ≤ z.cps.toList.length := by
  cases e : z.cps.toList with
  | nil => exact Nat.le_refl _
  | cons d r =>
   rw [figL_cons]
   by_cases c : d = 45
   ·rw [if_pos c]; simp
   ·rw [if_neg c]; exact Nat.le_refl _
 have yl : y.length = (figL z.cps.toList).length := by rw [len_l, hy]
 have ys : y.length ≤ sizeLine := le_of (by omega)
 have no : numB z = false → Q (.bl false) H' := fun e => by
  have z1 := q H' Fr.refl
  rw [e] at z1
  exact z1
 have en : numB z = (decide (1 ≤ y.length ∧ y.length ≤ 30) && (y.cps.toList.all isFig && (!decide (z = "-0") && (decide (y.cps.toList = [48]) || !decide (y.cps.toList.head? = some 48))))) := by
  unfold numB
  rw [← hy, ← len_l]
 walk_at "q"
 refine g_lenS ys ?_
 walk_at "q"
 refine g_by (fun c1 => ?_) (fun c1 => ?_)
 ·walk_at "q"
  refine g_byN (fun c2 => ?_) (fun c2 => ?_)
  ·walk_at "q"
   refine no ?_
   have h : ¬ (1 ≤ y.length ∧ y.length ≤ 30) := fun h => c2 (by show (y.length : Int) ≤ 30; omega)
   rw [en, decide_eq_false h]
   rfl
  ·have h : 1 ≤ y.length ∧ y.length ≤ 30 := by
    have c3 : (y.length : Int) ≤ 30 := c2
    omega
   rw [decide_eq_true h, Bool.true_and] at en
   walk_at "q"
   refine ⟨y, rfl, fun D hD => lc_sg (p := isFig) (by omega) hD (fun d H2 A e k => ?_) (fun H2 e hl => ?_)⟩
   ·walk_at "q"
    refine ⟨rfl, ?_⟩
    walk_at "q"
    refine g_inS ?_
    rw [in_fig]
    exact k _ Fr.refl
   ·walk_at "q"
    refine ⟨D, _, rfl, SqL.of hl, ?_⟩
    rw [List.all_map]
    have ef : ((id : Bool → Bool) ∘ isFig) = isFig := rfl
    rw [ef]
    have q2 := fun b (eb : numB z = b) => (eb ▸ q H2 e : Q (.bl b) H2)
    walk_at "q"
    cases hf : y.cps.toList.all isFig with
    | false =>
     refine g_tt rfl ?_
     walk_at "q"
     refine q2 _ ?_
     rw [en, hf]
     rfl
    | true =>
     refine g_ff rfl ?_
     rw [hf, Bool.true_and] at en
     walk_at "q"
     refine g_byN (fun c3 => ?_) (fun c3 => ?_)
     ·rw [decide_eq_false c3, Bool.not_false, Bool.true_and] at en
      walk_at "q"
      have e0 : decide (y = "0") = decide (y.cps.toList = [48]) := by rw [dec_str]; rfl
      rw [e0]
      refine g_by (fun c4 => ?_) (fun c4 => ?_)
      ·have z1 := q2 true (by rw [en, decide_eq_true c4]; rfl)
       rw [decide_eq_true c4]
       exact z1
      ·obtain ⟨c, r, ey⟩ : ∃ c r, y.cps.toList = c :: r := by
        cases e : y.cps.toList with
        | nil => have := len_l y; rw [e] at this; simp at this; omega
        | cons c r => exact ⟨c, r, rfl⟩
       walk_at "q"
       refine g_ixS ys (at0 ey) ?_
       walk_at "q"
       have e5 : decide ((⟨#[c]⟩ : Str) = "0") = decide (c = 48) := by rw [dec_str]; exact decide_eq_decide.mpr (by show [c] = [48] ↔ c = 48; simp)
       rw [e5]
       refine q2 _ ?_
       rw [en, decide_eq_false c4, Bool.false_or, ey]
       simp
     ·have c4 := q2 false (by rw [en, decide_eq_true c3]; rfl)
      rw [decide_eq_true c3]
      exact c4
 ·walk_at "q"
  refine no ?_
  have h : ¬ (1 ≤ y.length ∧ y.length ≤ 30) := fun h => c1 (by show (1 : Int) ≤ y.length; omega)
  rw [en, decide_eq_false h]
  rfl
end
def isRun (c : Nat) : Bool := isLet c || isFig c || decide (c = 46)
def runE (l : List Nat) (n : Nat) : Nat := n + ((l.drop n).takeWhile isRun).length
abbrev z_RUN : Str := "abcdefghijklmnopqrstuvwxyz0123456789."
abbrev z_SIGNS : Str := "(),_+-*=<>"
theorem in_run (c : Nat) : (!(Builtin.Str.occurrences z_RUN ⟨#[c]⟩ 0 z_RUN.length 1).isEmpty) = isRun c := by
 rw [StrLaws.found_one]
 have e : z_RUN.cps.toList = [97, 98, 99, 100, 101, 102, 103, 104, 105, 106, 107, 108, 109, 110, 111, 112, 113, 114, 115, 116, 117, 118, 119, 120, 121, 122, 48, 49, 50, 51, 52, 53, 54, 55, 56, 57, 46] := by decide +kernel
 rw [e]
 unfold isRun isLet isFig
 rw [Bool.eq_iff_iff]
 simp only [List.mem_cons, List.not_mem_nil, or_false, decide_eq_true_eq, Bool.or_eq_true]
 omega
def nameB (z : Str) : Bool := goodW z && !decide (z ∈ keptW)
def fullB (z : Str) : Bool := decide ((Txt.split z ".").length = 2 ∨ (Txt.split z ".").length = 3) && (Txt.split z ".").all nameB
def runT (z : Str) : Option (Str × V) := if z = "yes" ∨ z = "no" then some ("value", .bl (decide (z = "yes"))) else if z ∈ keptW then some ("kept", .str z) else if nameB z = true then some ("name", .str z) else if fullB z = true then some ("full", .str z)
 else if numB z = true then some ("value", .int ((intText? z).getD 0)) else none
theorem join_mem {sep : Str} : ∀ {ys : List Str} {y : Str} {c : Nat}, y ∈ ys → c ∈ y.cps.toList → c ∈ (Txt.join sep ys).cps.toList
 | [], _, _, h, _ => nomatch h
 | [a], y, c, h, k => by
  rw [List.mem_singleton.mp h] at k
  rw [TL.join_eq]
  exact k
 | a :: b :: r, y, c, h, k => by
  rw [join_cons]
  show c ∈ (a.cps ++ sep.cps ++ (Txt.join sep (b :: r)).cps).toList
  rw [Array.toList_append, Array.toList_append]
  rcases List.mem_cons.mp h with rfl | h
  ·exact List.mem_append_left _ (List.mem_append_left _ k)
  ·exact List.mem_append_right _ (join_mem h k)
theorem le_sum : ∀ {l : List Nat} {n : Nat}, n ∈ l → n ≤ l.sum
 | a :: r, n, h => by
  rw [List.sum_cons]
  rcases List.mem_cons.mp h with rfl | h
  ·exact Nat.le_add_right _ _
  ·exact Nat.le_trans (le_sum h) (Nat.le_add_left _ _)
theorem split_tx {z y : Str} (hz : Tx 9000 z) (h : y ∈ Txt.split z ".") : Tx 9000 y := by
 have w := PyProof.Rows.split_weight z "." (by decide)
 have l : y.length ≤ ((Txt.split z ".").map (·.length)).sum := le_sum (List.mem_map.mpr ⟨y, h, rfl⟩)
 have hl := hz.len
 have hp : 1 ≤ (Txt.split z ".").length := by
  cases e : Txt.split z "." with
  | nil => rw [e] at h; exact nomatch h
  | cons a r => simp
 refine ⟨by omega, fun c hc => hz.ok c ?_⟩
 have j := join_mem (sep := ".") h hc
 rwa [show Txt.join "." (Txt.split z ".") = z from (TL.join_eq _ _).trans (StrLaws.join_split z ".")] at j
structure BiR (mg : Str → Option Value) : Prop where
 b_len : mg "len" = none
 b_all : mg "all" = none
 b_int : mg "int" = none
 b_min : mg "min" = none
abbrev s_run_end : Stmt := topS 16
theorem sc_run_end : FnScope ["text", "at"] ["text", "at"] (defScope s_run_end) := ⟨rfl, rfl, rfl, by decide +kernel, rfl, by decide +kernel, by decide +kernel⟩
abbrev s_is_full : Stmt := topS 17
theorem sc_is_full : FnScope ["text", "names", "name"] ["text"] (defScope s_is_full) := ⟨rfl, rfl, rfl, by decide +kernel, rfl, by decide +kernel, by decide +kernel⟩
abbrev s_run_thing : Stmt := topS 18
theorem sc_run_thing : FnScope ["run", "at"] ["run", "at"] (defScope s_run_thing) := ⟨rfl, rfl, rfl, by decide +kernel, rfl, by decide +kernel, by decide +kernel⟩
def spRunE : Sp := fun vs H Q _ => ∃ (z : Str) (n : Nat), vs = [.str z, .int (n : Int)] ∧ Tx 9000 z ∧ Q (.int (runE z.cps.toList n : Nat)) H
theorem runE_step {l : List Nat} {n c : Nat} (h : l[n]? = some c) : runE l n = if isRun c = true then runE l (n + 1) else n := by
 unfold runE
 have hn : n < l.length := (List.getElem?_eq_some_iff.mp h).1
 have e : l.drop n = c :: l.drop (n + 1) := by
  rw [List.drop_eq_getElem_cons hn]
  congr 1
  exact (List.getElem?_eq_some_iff.mp h).2
 rw [e, List.takeWhile_cons]
 by_cases k : isRun c = true
 ·rw [if_pos k, if_pos k, List.length_cons]; omega
 ·rw [if_neg k, if_neg k]; rfl
theorem runE_end {l : List Nat} {n : Nat} (h : l.length ≤ n) : runE l n = n := by
 unfold runE
 rw [List.drop_eq_nil_of_le h]
 rfl
section
variable {P : Program} {w : World} {K : PySem.W.Frag} {mg : Str → Option Value} {base : Heap} {a_KEPT a_BadText : Addr}
theorem ok_run_end {f : Addr} {fd : FuncData} (F : FnP K "run_end" s_run_end f fd) (B : BiR mg) (G : ∃ t, mg "RUN" = some (.str z_RUN t)) : FnG P w K mg base CX0 3 f fd ["text", "at"] spRunE := by
 refine okG F sc_run_end (fun vs H Q E h => ?_) (fun cdv A outer s H vs Q E hr h => ?_)
 ·obtain ⟨z, n, rfl, _⟩ := h
  rfl
 obtain ⟨z, n, rfl, hz, q⟩ := h
 obtain ⟨tR, g_RUN⟩ := G
 have zl := hz.len
 have zs : z.length ≤ sizeLine := le_of (by omega)
 have ll := len_l z
 refine ⟨_, PSs.nox (pss_cons (ps_while PassesOwn.never (PW.pt (pw_and (pt_cmpR (kOp (K := K) (r := uLt) rfl opu_lt) (pv 1) (pe_callB (kCall (K := K) (r := uLen) rfl callu_len) (by rfl) B.b_len (by decide +kernel) (pa_cons (pv 0) pa_nil)) (nomark _)) (pw_and1 (pt_cmpR (kOp (K := K) (r := uIn) rfl opu_in) (pe_ix (kIx (K := K) (r := rIx) rfl ix_seq) (pv 0) (pv 1) (fun _ _ => rfl)) (pe_glob (v := .str z_RUN) rfl g_RUN ⟨_, rfl⟩) (by rfl))))) (pss_one (ps_aug (i := 1) sc_run_end.nd rfl (.inl rfl) pe_int ip_add)))
 (pss_one (ps_ret (pv 1)))), rd_start (σ0 := [some (.str z), some (.int (n : Int))]) rfl ?_⟩
 walk_at "q"
 refine g_while2 (fun σ H' => ∃ m : Nat, σ = [some (.str z), some (.int (m : Int))] ∧ H' = H ∧ runE z.cps.toList m = runE z.cps.toList n) (fun σ H' => match σ with | [_, some (.int m)] => z.length - m.toNat | _ => 0) ⟨n, rfl, rfl, rfl⟩ (fun σ H' h => ?_)
 obtain ⟨m, rfl, rfl, e⟩ := h
 walk_at "q"
 refine g_lenS zs ?_
 walk_at "q"
 refine g_by (fun c => ?_) (fun c => ?_)
 ·have hm : m < z.cps.toList.length := by omega
  have hc : z.cps.toList[m]? = some z.cps.toList[m] := List.getElem?_eq_getElem hm
  have st := runE_step hc
  walk_at "q"
  refine g_ixS zs (atI_nat hc) ?_
  walk_at "q"
  refine g_inS ?_
  rw [in_run]
  generalize z.cps.toList[m] = d at *
  walk_at "q"
  refine g_byB (fun k => ?_) (fun k => ?_)
  ·rw [if_pos k] at st
   refine g_wt ?_
   refine g_aug1 rfl ⟨⟨m + 1, rfl, rfl, st.symm.trans e⟩, ?_⟩
   show z.length - ((m : Int) + 1).toNat < z.length - ((m : Int)).toNat
   omega
  ·rw [if_neg (by rw [k]; exact Bool.false_ne_true)] at st
   walk_at "q"
   rw [← e, st] at q
   exact q
 ·walk_at "q"
  rw [← e, runE_end (by omega)] at q
  exact q
theorem ok_is_full {f : Addr} {fd : FuncData} (F : FnP K "is_full" s_is_full f fd) (B : BiR mg) (C_is_name : CalG P w K mg base 21 "is_name" (spB fun z => goodW z && !decide (z ∈ keptW))) : FnG P w K mg base CX0 22 f fd ["text"] (spB fullB) := by
 refine okG F sc_is_full (fun vs H Q E h => ?_) (fun cdv A outer s H vs Q E hr h => ?_)
 ·obtain ⟨z, rfl, _⟩ := h
  rfl
 obtain ⟨z, rfl, hz, q⟩ := h
 have zl := hz.len
 have zs : z.length + 2 ≤ sizeLine := le_of (by omega)
 refine ⟨_, PSs.nox (pss_cons (ps_set (i := 1) sc_is_full.nd rfl (.inl rfl) (kBM (K := K) rfl (pe_bm PySem.F.plainAttrs_str PySem.F.slot_str_split PySem.F.type_str_split mt_split (pv 0) (pa_cons pe_str pa_nil))))
 (pss_one (ps_ret (pe_andTK (K := K) rfl (pe_cmpR (kOp (K := K) (r := uIn) rfl opu_in) (pe_callB (kCall (K := K) (r := uLen) rfl callu_len) (by rfl) B.b_len (by decide +kernel) (pa_cons (pv 1) pa_nil)) (pe_tup (pa_cons pe_int (pa_cons pe_int pa_nil))) (by rfl)) (pe_one (pe_callB (kCall (K := K) (r := rAll) rfl (cr_all rfl)) (by rfl) B.b_all (by decide +kernel) (pa_cons (pe_lc (own := [("name", 2)]) (g := gName 2) (tt := tYes) rfl sc_is_full.nd (pi_listK (K := K) rfl (pv 1)) (blkOk_by (own := [("name", 2)]) (N := ["text", "names", "name"]) (sc := defScope s_is_full) (by decide +kernel)) (fun _ _ _ _ _ => (by exact (pg_name (i := 2) sc_is_full.nd rfl (by first | exact Or.inl rfl | exact Or.inr rfl)))) (fun _ _ _ _ _ => pts_nil) (fun _ _ _ _ _ => (by exact (pe_calG C_is_name hr rfl (pa_cons (pv 2) pa_nil))))) pa_nil))))))), rd_start (σ0 := [some (.str z), none, none]) rfl ?_⟩
 walk_at "q"
 refine ⟨z, ".", rfl, rfl, by decide +kernel, zs, fun p hp => ?_⟩
 have e1 : Fr [] H (upd H p (.lst ((Txt.split z ".").map V.str))) := Fr.new hp
 have h1 : (upd H p (.lst ((Txt.split z ".").map V.str))) p = some (.lst ((Txt.split z ".").map V.str)) := upd_same
 have sx := fun y (h : y ∈ Txt.split z ".") => split_tx hz h
 have sl := PyProof.Rows.split_le z "."
 have ef : fullB z = (decide ((Txt.split z ".").length = 2 ∨ (Txt.split z ".").length = 3) && (Txt.split z ".").all nameB) := rfl
 generalize upd H p (.lst ((Txt.split z ".").map V.str)) = H1 at *
 generalize Txt.split z "." = ys at *
 walk_at "q"
 refine ⟨le_of (by simp), fun p2 hp2 => ?_⟩
 have e2 : Fr [] H1 (upd H1 p2 (.tup [.int 2, .int 3])) := Fr.new hp2
 have h2 : SqT K (upd H1 p2 (.tup [.int 2, .int 3])) p2 [.int 2, .int 3] := SqT.of upd_same
 have h12 := e2.at h1 (fun z => nomatch z)
 generalize upd H1 p2 (.tup [.int 2, .int 3]) = H2 at *
 have ei : inV (.int ((ys.map V.str).length : Nat)) [.int 2, .int 3] = decide (ys.length = 2 ∨ ys.length = 3) := by
  rw [List.length_map]
  unfold inV
  simp only [List.any_cons, List.any_nil, eqV, Bool.or_false]
  by_cases h2 : ys.length = 2
  ·rw [h2]; rfl
  ·by_cases h3 : ys.length = 3
   ·rw [h3]; rfl
   ·rw [decide_eq_false (by omega : ¬ (ys.length = 2 ∨ ys.length = 3)), Bool.or_eq_false_iff]
    refine ⟨?_, ?_⟩ <;> (simp [eqV]; omega)
 refine ⟨p2, [.int 2, .int 3], rfl, .inr h2, rfl, rfl, ?_⟩
 rw [ei]
 have E2 := e1.trans e2
 cases hd : decide (ys.length = 2 ∨ ys.length = 3) with
 | false =>
  walk_at "q"
  have z1 := q H2 E2
  rw [ef, hd] at z1
  exact z1
 | true =>
  walk_at "q"
  have yl : ys.length ≤ 3 := by have := of_decide_eq_true hd; omega
  refine ⟨p, rfl, ⟨_, SqL.of h12⟩, fun D hD => lc_it (walk_list (xs := ys.map V.str)) (fun i H' => Fr [] H2 H' ∧ H' D = some (.lst (((ys.take i).map nameB).map V.bl))) ⟨Fr.new hD, upd_same⟩ (fun i H' _ h => SqL.of (h.1.at h12 (fun z => nomatch z))) (fun i y H3 H4 hi h yy => ?_) (fun H3 h => ?_)⟩
  ·obtain ⟨rfl, hy⟩ := yy
   obtain ⟨e3, h3⟩ := h
   rw [List.getElem?_map] at hy
   cases hq : ys[i]? with
   | none => rw [hq] at hy; cases hy
   | some x =>
    rw [hq] at hy
    cases hy
    walk_at "q"
    refine ⟨rfl, ?_⟩
    walk_at "q"
    refine ⟨x, rfl, sx x (List.mem_of_getElem? hq), fun H5 e5 => ?_⟩
    refine ⟨_, e5.at h3 (fun z => nomatch z), lt_of (by rw [List.length_map, List.length_map, List.length_take]; omega), (e3.trans e5).over hD, ?_⟩
    rw [upd_same, List.take_add_one, hq, List.map_append, List.map_append]
    rfl
  ·obtain ⟨e3, h3⟩ := h
   rw [List.length_map, List.take_length] at h3
   walk_at "q"
   refine ⟨D, _, rfl, SqL.of h3, ?_⟩
   have z1 := q H3 (E2.trans e3)
   rw [ef, hd, Bool.true_and] at z1
   rw [List.all_map]
   exact z1
theorem two_in {K : PySem.W.Frag} (H : Hp) (z a b : Str) (A : V → Hp → Prop) (k : ∀ H', Fr [] H H' → A (.bl (decide (z ∈ ([a, b] : List Str)))) H') : ∀ p, H p = none → uIn K (.str z) (.ref p) (upd H p (.tup [.str a, .str b])) A := fun p hp => by
 refine g_inT (xs := ([a, b] : List Str).map V.str) (.inr (SqT.of upd_same)) (flat_strs _) ?_
 rw [inV_str]
 exact k _ (Fr.new hp)
theorem num_len {z : Str} (h : numB z = true) : z.length ≤ 31 := by
 unfold numB at h
 have h1 := of_decide_eq_true (Bool.and_eq_true_iff.mp h).1
 have ll := len_l z
 cases e : z.cps.toList with
 | nil => rw [ll, e]; simp
 | cons c r =>
  rw [e, figL_cons] at h1
  rw [ll, e, List.length_cons]
  split at h1
  ·omega
  ·rw [List.length_cons] at h1; omega
def spRunT (C : Addr) (K : PySem.W.Frag) : Sp := fun vs H Q E => ∃ (z : Str) (n : Nat), vs = [.str z, .int (n : Int)] ∧ Tx 9000 z ∧ (∀ s v p H', runT z = some (s, v) → Fr [] H H' → SqT K H' p [.str s, v, .int (n : Int)] → Q (.ref p) H') ∧
 ∀ d H', runT z = none → Fr [] H H' → H' d = some (.xd [("at", .int (n : Int)), ("word", .str "badtext")]) → E (.ref C) (some d) H'
theorem ok_run_thing {f : Addr} {fd : FuncData} (F : FnP K "run_thing" s_run_thing f fd) (B : BiR mg) (G : GlV K mg a_KEPT) (C_is_name : CalG P w K mg base 21 "is_name" (spB fun z => goodW z && !decide (z ∈ keptW))) (C_is_full : CalG P w K mg base 22 "is_full" (spB fullB)) (C_is_number : CalG P w K mg base 20 "is_number" (spB numB))
  (G_BadText : ClG P w K mg base 2 "BadText" a_BadText (spI1 K "badtext" "at")) (n1 : PySem.W.findIn K (.ref a_BadText) "word" = some none) (n2 : PySem.W.findIn K (.ref a_BadText) "at" = some none) : FnG P w K mg base (L2N.CX P w) 24 f fd ["run", "at"] (spRunT a_BadText K) := by
 refine okXN F sc_run_thing (fun vs H Q E h => ?_) (fun cdv A outer s H vs Q E hr h tk => ?_)
 ·obtain ⟨z, n, rfl, _⟩ := h
  rfl
 obtain ⟨z, n, rfl, hz, q, qe⟩ := h
 have g_KEPT := G.k
 refine ⟨_, (pss_cons (ps_if (pt_cmpR (kOp (K := K) (r := uIn) rfl opu_in) (pv 0) (pe_tup (pa_cons pe_str (pa_cons pe_str pa_nil))) (by rfl)) (pss_one (ps_ret (pe_tup (pa_cons pe_str (pa_cons (pe_cmpR (kOp (K := K) (r := uEq) rfl (opu_eq hr.units)) (pv 0) pe_str (nomark _)) (pa_cons (pv 1) pa_nil)))))) pss_nil)
 (pss_cons (ps_if (pt_cmpR (kOp (K := K) (r := uIn) rfl opu_in) (pv 0) (pe_glob (v := .ref a_KEPT) rfl g_KEPT rfl) (by rfl)) (pss_one (ps_ret (pe_tup (pa_cons pe_str (pa_cons (pv 0) (pa_cons (pv 1) pa_nil)))))) pss_nil)
 (pss_cons (ps_if (pt_val (pe_calG C_is_name hr rfl (pa_cons (pv 0) pa_nil))) (pss_one (ps_ret (pe_tup (pa_cons pe_str (pa_cons (pv 0) (pa_cons (pv 1) pa_nil)))))) pss_nil)
 (pss_cons (ps_if (pt_val (pe_calG C_is_full hr rfl (pa_cons (pv 0) pa_nil))) (pss_one (ps_ret (pe_tup (pa_cons pe_str (pa_cons (pv 0) (pa_cons (pv 1) pa_nil)))))) pss_nil)
 (pss_cons (ps_if (pt_val (pe_calG C_is_number hr rfl (pa_cons (pv 0) pa_nil))) (pss_one (ps_ret (pe_tup (pa_cons pe_str (pa_cons (pe_callTy call_int_str (by rfl) B.b_int (by decide +kernel) (pa_cons (pv 0) pa_nil)) (pa_cons (pv 1) pa_nil)))))) pss_nil)
 (pss_one (ps_rsN rfl tk (pmk_mkXN G_BadText hr rfl (pa_cons (pv 1) pa_nil))))))))), rd_start (σ0 := [some (.str z), some (.int (n : Int))]) rfl ?_⟩
 walk_at "q"
 refine ⟨le_of (by simp), two_in _ _ _ _ _ fun H1 e1 => ?_⟩
 have fin : ∀ (H2 : Hp) (p : Addr) (s : Str) (v : V), runT z = some (s, v) → Fr [] H1 H2 → H2 p = none → Q (.ref p) (upd H2 p (.tup [.str s, v, .int (n : Int)])) := fun H2 p s v hv e2 hp => q s v p _ hv ((e1.trans e2).trans (Fr.new hp)) (SqT.of upd_same)
 walk_at "q"
 refine g_by (fun c => ?_) (fun c => ?_)
 ·walk_at "q"
  have c2 : z = "yes" ∨ z = "no" := by simpa using c
  refine ⟨le_of (by simp), fun p hp => ?_⟩
  exact fin _ p "value" _ (by unfold runT; rw [if_pos c2]) Fr.refl hp
 ·have c2 : ¬ (z = "yes" ∨ z = "no") := by simpa using c
  walk_at "q"
  refine g_inT (.inr (G.kt _)) (flat_strs _) ?_
  rw [inV_str]
  walk_at "q"
  refine g_by (fun c3 => ?_) (fun c3 => ?_)
  ·walk_at "q"
   refine ⟨le_of (by simp), fun p hp => ?_⟩
   exact fin _ p "kept" _ (by unfold runT; rw [if_neg c2, if_pos c3]) Fr.refl hp
  ·walk_at "q"
   refine ⟨z, rfl, hz, fun H2 e2 => ?_⟩
   walk_at "q"
   refine g_byB (fun c4 => ?_) (fun c4 => ?_)
   ·walk_at "q"
    refine ⟨le_of (by simp), fun p hp => ?_⟩
    exact fin _ p "name" _ (by unfold runT; rw [if_neg c2, if_neg c3, if_pos (show nameB z = true from c4)]) e2 hp
   ·have c4' : ¬ nameB z = true := by rw [show nameB z = false from c4]; exact Bool.false_ne_true
    walk_at "q"
    refine ⟨z, rfl, hz, fun H3 e3 => ?_⟩
    walk_at "q"
    refine g_byB (fun c5 => ?_) (fun c5 => ?_)
    ·walk_at "q"
     refine ⟨le_of (by simp), fun p hp => ?_⟩
     exact fin _ p "full" _ (by unfold runT; rw [if_neg c2, if_neg c3, if_neg c4', if_pos c5]) (e2.trans e3) hp
    ·have c5' : ¬ fullB z = true := by rw [c5]; exact Bool.false_ne_true
     walk_at "q"
     refine ⟨z, rfl, hz, fun H4 e4 => ?_⟩
     walk_at "q"
     refine g_byB (fun c6 => ?_) (fun c6 => ?_)
     ·walk_at "q"
      obtain ⟨i, hi, _⟩ := num_int c6
      refine ⟨z, i, rfl, hi, by have := num_len c6; omega, ?_⟩
      walk_at "q"
      refine ⟨le_of (by simp), fun p hp => ?_⟩
      exact fin _ p "value" _ (by unfold runT; rw [if_neg c2, if_neg c3, if_neg c4', if_neg c5', if_pos c6, hi]; rfl) ((e2.trans e3).trans e4) hp
     ·walk_at "q"
      refine mkX_I1 G_BadText.ec n1 n2 fun d H' fr e => qe d H' ?_ ((((e1.trans e2).trans e3).trans e4).trans fr) e
      unfold runT
      rw [if_neg c2, if_neg c3, if_neg c4', if_neg c5', if_neg (by rw [c6]; exact Bool.false_ne_true)]
end
theorem occ_mem (s sub : Str) (hi limit lo : Nat) : ∀ (l : List Nat) (st : Array Nat × Nat), (∀ a ∈ l, lo ≤ a) → (∀ k ∈ st.fst.toList, lo ≤ k ∧ k + sub.length ≤ hi) → ∀ k ∈ (forIn l st (StrLaws.occBody s sub hi limit)).run.fst.toList, lo ≤ k ∧ k + sub.length ≤ hi
 | [], st, _, h => h
 | a :: l, st, hl, h => by
  rw [List.forIn_cons]
  unfold StrLaws.occBody
  split
  ·rename_i hc
   refine occ_mem s sub hi limit lo l _ (fun x hx => hl x (List.mem_cons_of_mem _ hx)) fun k hk => ?_
   rw [Array.toList_push] at hk
   rcases List.mem_append.mp hk with hk | hk
   ·exact h k hk
   ·rw [List.mem_singleton.mp hk]; exact ⟨hl a List.mem_cons_self, hc.1.2⟩
  ·exact occ_mem s sub hi limit lo l _ (fun x hx => hl x (List.mem_cons_of_mem _ hx)) h
theorem find3_ge {z y : Str} {n : Nat} (h : 0 ≤ Txt.find3 z y (n : Int)) : ∃ e : Nat, Txt.find3 z y (n : Int) = (e : Int) ∧ n ≤ e ∧ e + y.length ≤ z.length := by
 unfold Txt.find3 at h ⊢
 have ef : fromIndex z.length (n : Int) = n := by unfold fromIndex; rw [if_neg (by omega)]; omega
 rw [ef] at h ⊢
 have oe := StrLaws.occ_eq z y n z.length 1
 cases e : Builtin.Str.occurrences z y n z.length 1 with
 | nil => rw [e] at h; exact absurd h (by decide)
 | cons k r =>
  rw [e] at oe
  have m := occ_mem z y z.length 1 n (List.range' n (z.length + 1 - n)) (#[], n) (fun a ha => (List.mem_range'_1.mp ha).1) (fun k hk => by simp at hk) k (by rw [← oe]; exact List.mem_cons_self)
  exact ⟨k, rfl, m⟩
def wordT (z : Str) (n : Nat) : Option (Str × Nat) := if Txt.find3 z "'" ((n : Int) + 1) < 0 then none else if goodW (cutS z (some ((n : Int) + 1)) (some (Txt.find3 z "'" ((n : Int) + 1)))) = true then some (cutS z (some ((n : Int) + 1)) (some (Txt.find3 z "'" ((n : Int) + 1))), (Txt.find3 z "'" ((n : Int) + 1)).toNat + 1) else none
theorem wordT_lt {z x : Str} {n m : Nat} (h : wordT z n = some (x, m)) : n < m ∧ m ≤ z.length := by
 have e1 : ((n + 1 : Nat) : Int) = (n : Int) + 1 := by omega
 have y1 : ("'" : Str).length = 1 := by decide +kernel
 unfold wordT at h
 split at h
 ·cases h
 ·rename_i c
  split at h
  ·obtain ⟨e, he, h1, h2⟩ := find3_ge (z := z) (y := "'") (n := n + 1) (by rw [e1]; omega)
   rw [e1] at he
   cases h
   rw [he]
   rw [y1] at h2
   omega
  ·cases h
abbrev s_word_thing : Stmt := topS 19
theorem sc_word_thing : FnScope ["text", "at", "end"] ["text", "at"] (defScope s_word_thing) := ⟨rfl, rfl, rfl, by decide +kernel, rfl, by decide +kernel, by decide +kernel⟩
def badAt (n : Nat) : List (Str × V) := [("at", .int (n : Int)), ("word", .str "badtext")]
def PairAt (K : PySem.W.Frag) (H : Hp) (p : Addr) (s : Str) (v : V) (n m : Nat) : Prop := ∃ t, SqT K H p [.ref t, .int (m : Int)] ∧ SqT K H t [.str s, v, .int (n : Int)]
def spWordT (C : Addr) (K : PySem.W.Frag) : Sp := fun vs H Q E => ∃ (z : Str) (n : Nat), vs = [.str z, .int (n : Int)] ∧ Tx 9000 z ∧ (∀ x m p H', wordT z n = some (x, m) → Fr [] H H' → PairAt K H' p "value" (.str x) n m → Q (.ref p) H') ∧
 ∀ d H', wordT z n = none → Fr [] H H' → H' d = some (.xd (badAt n)) → E (.ref C) (some d) H'
theorem Tx.cut {n : Nat} {z : Str} (h : Tx n z) {lo hi : Option Int} : Tx n (cutS z lo hi) := ⟨Nat.le_trans (cutS_length z lo hi) h.len, fun c hc => by
 unfold cutS at hc
 exact h.ok c (List.mem_of_mem_drop (List.mem_of_mem_take hc))⟩
section
variable {P : Program} {w : World} {K : PySem.W.Frag} {mg : Str → Option Value} {base : Heap} {a_KEPT a_BadText : Addr}
theorem ok_word_thing {f : Addr} {fd : FuncData} (F : FnP K "word_thing" s_word_thing f fd) (C_is_word : CalG P w K mg base 20 "is_word" (spB goodW))
  (G_BadText : ClG P w K mg base 2 "BadText" a_BadText (spI1 K "badtext" "at")) (n1 : PySem.W.findIn K (.ref a_BadText) "word" = some none) (n2 : PySem.W.findIn K (.ref a_BadText) "at" = some none) : FnG P w K mg base (L2N.CX P w) 22 f fd ["text", "at"] (spWordT a_BadText K) := by
 refine okXN F sc_word_thing (fun vs H Q E h => ?_) (fun cdv A outer s H vs Q E hr h tk => ?_)
 ·obtain ⟨z, n, rfl, _⟩ := h
  rfl
 obtain ⟨z, n, rfl, hz, q, qe⟩ := h
 have zl := hz.len
 have zs : z.length ≤ sizeLine := le_of (by omega)
 refine ⟨_, (pss_cons (ps_set (i := 2) sc_word_thing.nd rfl (.inl rfl) (kBM (K := K) rfl (pe_bm PySem.F.plainAttrs_str PySem.F.slot_str_find PySem.F.type_str_find mt_find3 (pv 0) (pa_cons pe_str (pa_cons (pe_op (kOp (K := K) (r := uAdd) rfl opu_add) (pv 1) pe_int) pa_nil)))))
 (pss_cons (ps_if (PW.pt (pw_or (pt_cmpR (kOp (K := K) (r := uLt) rfl opu_lt) (pv 2) pe_int (nomark _)) (pw_or1 (pt_not (pt_val (pe_calG C_is_word hr rfl (pa_cons (pe_slice sl_str (pv 0) (po_some (pe_op (kOp (K := K) (r := uAdd) rfl opu_add) (pv 1) pe_int)) (po_some (pv 2))) pa_nil))))))) (pss_one (ps_rsN rfl tk (pmk_mkXN G_BadText hr rfl (pa_cons (pv 1) pa_nil)))) pss_nil)
 (pss_one (ps_ret (pe_tup (pa_cons (pe_tup (pa_cons pe_str (pa_cons (pe_slice sl_str (pv 0) (po_some (pe_op (kOp (K := K) (r := uAdd) rfl opu_add) (pv 1) pe_int)) (po_some (pv 2))) (pa_cons (pv 1) pa_nil)))) (pa_cons (pe_op (kOp (K := K) (r := uAdd) rfl opu_add) (pv 2) pe_int) pa_nil))))))), rd_start (σ0 := [some (.str z), some (.int (n : Int)), none]) rfl ?_⟩
 walk_at "q"
 refine ⟨z, "'", (n : Int) + 1, rfl, rfl, ?_⟩
 walk_at "q"
 refine g_by (fun c => ?_) (fun c => ?_)
 ·walk_at "q"
  refine mkX_I1 G_BadText.ec n1 n2 fun d H' fr e => qe d H' (by unfold wordT; rw [if_pos c]) fr e
 ·walk_at "q"
  refine g_slS zs ?_
  refine ⟨_, rfl, hz.cut, fun H1 e1 => ?_⟩
  walk_at "q"
  cases hg : goodW (cutS z (some ((n : Int) + 1)) (some (Txt.find3 z "'" ((n : Int) + 1)))) with
  | false =>
   refine g_tt rfl ?_
   walk_at "q"
   refine mkX_I1 G_BadText.ec n1 n2 fun d H' fr e => qe d H' (by unfold wordT; rw [if_neg c, if_neg (by rw [hg]; exact Bool.false_ne_true)]) (e1.trans fr) e
  | true =>
   refine g_ff rfl ?_
   walk_at "q"
   refine g_slS zs ?_
   walk_at "q"
   refine ⟨le_of (by simp), fun t ht => ?_⟩
   have e2 : Fr [] H1 (upd H1 t (.tup [.str "value", .str (cutS z (some ((n : Int) + 1)) (some (Txt.find3 z "'" ((n : Int) + 1)))), .int (n : Int)])) := Fr.new ht
   have h2 : SqT K (upd H1 t (.tup [.str "value", .str (cutS z (some ((n : Int) + 1)) (some (Txt.find3 z "'" ((n : Int) + 1)))), .int (n : Int)])) t [.str "value", .str (cutS z (some ((n : Int) + 1)) (some (Txt.find3 z "'" ((n : Int) + 1)))), .int (n : Int)] := SqT.of upd_same
   walk_at "q"
   refine ⟨le_of (by simp), fun p hp => ?_⟩
   have e3 := Fr.new (M := []) (o := .tup [.ref t, .int (Txt.find3 z "'" ((n : Int) + 1) + 1)]) hp
   refine q _ ((Txt.find3 z "'" ((n : Int) + 1)).toNat + 1) p _ (by unfold wordT; rw [if_neg c, if_pos hg]) ((e1.trans e2).trans e3) ⟨t, ?_, e3.tup h2⟩
   have ei : (((Txt.find3 z "'" ((n : Int) + 1)).toNat + 1 : Nat) : Int) = Txt.find3 z "'" ((n : Int) + 1) + 1 := by omega
   rw [ei]
   exact SqT.of upd_same
end
structure Th where
 s : Str
 v : V
 n : Nat
def Th.d (t : Th) : PyData := .tuple [.str t.s, scD t.v, .int (t.n : Int)]
def ThsAt (K : PySem.W.Frag) (H : Hp) (p : Addr) (ts : List Th) : Prop := ∃ us, H p = some (.lst us) ∧ TdAll K H us (ts.map Th.d)
theorem sc_back {K : PySem.W.Frag} {H : Hp} {u v : V} (h : isSc v = true) (t : Td K H u (scD v)) : u = v := by
 cases v <;> first | (cases h; done) | (cases t; rfl)
theorem th_at {K : PySem.W.Frag} {H : Hp} {y : V} {t : Th} (h : isSc t.v = true) (d : Td K H y t.d) : ∃ r, y = .ref r ∧ SqT K H r [.str t.s, t.v, .int (t.n : Int)] := by
 obtain ⟨r, a, b, c, rfl, hr, h1, h2, h3⟩ := Td.t3 (show Td K H y (.tuple [.str t.s, scD t.v, .int (t.n : Int)]) from d)
 cases h1.str_inv
 cases h3.int_inv
 cases sc_back h h2
 exact ⟨r, rfl, hr⟩
theorem sc_td {K : PySem.W.Frag} {H : Hp} {v : V} (h : isSc v = true) : Td K H v (scD v) := by
 cases v <;> first | (cases h; done) | constructor
theorem g_eqSc {K : PySem.W.Frag} {H : Hp} {Q : VK} {v : V} {z : Str} (hz : PyData.strOk z = true) (h : isSc v = true) (q : Q (.bl (decide (v = .str z))) H) : uEq K v (.str z) H Q := by
 cases v with
 | str a => exact .inl ⟨rfl, q⟩
 | int i => exact g_eqD (.int i) (.str z) (by simp [SeqAt.shaped, PyData.canLay0, PyData.depth, hz]) (by simp [SeqAt.shaped, PyData.canLay0, PyData.depth, hz]) (by rw [decide_eq_false (fun e => nomatch e)] at q; exact q)
 | bl b => exact g_eqD (.bl b) (.str z) (by simp [SeqAt.shaped, PyData.canLay0, PyData.depth, hz]) (by simp [SeqAt.shaped, PyData.canLay0, PyData.depth, hz]) (by rw [decide_eq_false (fun e => nomatch e)] at q; exact q)
 | non => exact g_eqD .non (.str z) (by simp [SeqAt.shaped, PyData.canLay0, PyData.depth, hz]) (by simp [SeqAt.shaped, PyData.canLay0, PyData.depth, hz]) (by rw [decide_eq_false (fun e => nomatch e)] at q; exact q)
 | _ => cases h
theorem g_notInSc {K : PySem.W.Frag} {H : Hp} {Q : VK} {v : V} {ws : List Str} {p : Addr} (h : isSc v = true) (hp : SqL K H p (ws.map V.str) ∨ SqT K H p (ws.map V.str)) (q : Q (.bl (!decide (v ∈ ws.map V.str))) H) : uNotIn K v (.ref p) H Q := by
 have key : inV v (ws.map V.str) = decide (v ∈ ws.map V.str) := by
  cases v with
  | str a => rw [inV_str]; exact decide_eq_decide.mpr (by simp)
  | int i => rw [decide_eq_false (by simp)]; unfold inV; rw [List.any_map]; simp [eqV]
  | bl i => rw [decide_eq_false (by simp)]; unfold inV; rw [List.any_map]; simp [eqV]
  | non => rw [decide_eq_false (by simp)]; unfold inV; rw [List.any_map]; simp [eqV]
  | _ => cases h
 have fl : flatV v = true := by cases v <;> first | rfl | cases h
 cases v <;> first | (cases h; done) | exact ⟨p, _, rfl, hp, fl, flat_strs _, by rw [key]; exact q⟩
theorem atI_lastA {α : Type} {l : List α} {c : α} (h : l.getLast? = some c) : atI l (-1) = some c := by
 have hl : 0 < l.length := by
  cases l with
  | nil => cases h
  | cons a r => simp
 rw [List.getLast?_eq_getElem?] at h
 unfold atI ixN
 rw [if_neg (by decide), if_pos (by omega)]
 have e : ((-1 : Int) + (l.length : Int)).toNat = l.length - 1 := by omega
 first
  | (rw [Option.bind_some, e]; exact h)
  | (simp only [Option.bind_some]; rw [e]; exact h)
theorem tda_last {K : PySem.W.Frag} {H : Hp} {us : List V} {ts : List Th} (h : TdAll K H us (ts.map Th.d)) (hs : ∀ t ∈ ts, isSc t.v = true) (hn : us ≠ []) : ∃ t r, ts.getLast? = some t ∧ us.getLast? = some (.ref r) ∧ SqT K H r [.str t.s, t.v, .int (t.n : Int)] ∧ isSc t.v = true := by
 obtain ⟨k1, k2⟩ := tda_get h
 have hl : us.length ≠ 0 := fun e => hn (List.length_eq_zero_iff.mp e)
 have e1 : us[us.length - 1]? = some us[us.length - 1] := List.getElem?_eq_getElem (by omega)
 obtain ⟨t, ht, td⟩ := k2 _ _ e1
 have hm := hs t (List.mem_of_getElem? ht)
 obtain ⟨r, er, hr⟩ := th_at hm td
 refine ⟨t, r, by rw [List.getLast?_eq_getElem?, ← k1]; exact ht, by rw [List.getLast?_eq_getElem?, e1, er], hr, hm⟩
def begB (l : List Nat) (n : Nat) (last : Option Th) : Bool := decide (l[n]? = some 45) && ((match l[n + 1]? with | some c => isFig c | none => false) && match last with
 | none => true
 | some t => !decide (t.s ∈ (["value", "name"] : List Str)) && !decide (t.v ∈ ([")", "me"] : List Str).map V.str))
theorem sg_lit {c d : Nat} {t : Str} (h : t.cps.toList = [d]) : decide ((⟨#[c]⟩ : Str) = t) = decide (c = d) := by
 rw [dec_str, h]
 exact decide_eq_decide.mpr (by show [c] = [d] ↔ c = d; simp)
theorem cut_nn (z : Str) (a b : Nat) : (cutS z (some (a : Int)) (some (b : Int))).cps.toList = (z.cps.toList.drop a).take (b - a) := by
 have hl : z.length = z.cps.toList.length := len_l z
 show ((z.cps.toList.drop (HT.sIx z.length 0 (some (a : Int)))).take (HT.sIx z.length z.length (some (b : Int)) - HT.sIx z.length 0 (some (a : Int)))).toArray.toList = _
 rw [HT.sIx_nat, HT.sIx_nat, hl]
 show (z.cps.toList.drop (min a z.cps.toList.length)).take (min b z.cps.toList.length - min a z.cps.toList.length) = _
 generalize z.cps.toList = l
 by_cases h : a ≤ l.length
 ·rw [Nat.min_eq_left h]
  by_cases h2 : b ≤ l.length
  ·rw [Nat.min_eq_left h2]
  ·rw [show min b l.length = l.length from Nat.min_eq_right (by omega), List.take_of_length_le (by rw [List.length_drop]; omega), List.take_of_length_le (by rw [List.length_drop]; omega)]
 ·rw [show min a l.length = l.length from Nat.min_eq_right (by omega), List.drop_length, List.drop_eq_nil_of_le (by omega)]
  simp
theorem cut_one {z : Str} {n c : Nat} (h : z.cps.toList[n]? = some c) : cutS z (some (n : Int)) (some ((n : Int) + 1)) = ⟨#[c]⟩ := by
 have e : (n : Int) + 1 = ((n + 1 : Nat) : Int) := by omega
 rw [e]
 refine str_ext ?_
 rw [cut_nn]
 have hn := (List.getElem?_eq_some_iff.mp h)
 obtain ⟨hl, he⟩ := hn
 rw [List.drop_eq_getElem_cons hl, he, show n + 1 - n = 1 by omega]
 rfl
theorem cut_none {z : Str} {n : Nat} (h : z.cps.toList[n]? = none) : cutS z (some (n : Int)) (some ((n : Int) + 1)) = "" := by
 have e : (n : Int) + 1 = ((n + 1 : Nat) : Int) := by omega
 rw [e]
 refine str_ext ?_
 rw [cut_nn, List.drop_eq_nil_of_le (List.getElem?_eq_none_iff.mp h), List.take_nil]
 rfl
def spBeg (K : PySem.W.Frag) : Sp := fun vs H Q _ => ∃ (z : Str) (n : Nat) (p : Addr) (ts : List Th), vs = [.str z, .int (n : Int), .ref p] ∧ Tx 9000 z ∧ n < z.length ∧ ThsAt K H p ts ∧ (∀ t ∈ ts, isSc t.v = true) ∧ ∀ H', Fr [] H H' → Q (.bl (begB z.cps.toList n ts.getLast?)) H'
abbrev s_begins_number : Stmt := topS 20
theorem sc_begins_number : FnScope ["text", "at", "things"] ["text", "at", "things"] (defScope s_begins_number) := ⟨rfl, rfl, rfl, by decide +kernel, rfl, by decide +kernel, by decide +kernel⟩
section
variable {P : Program} {w : World} {K : PySem.W.Frag} {mg : Str → Option Value} {base : Heap} {a_KEPT a_BadText : Addr}
theorem ok_begins_number {f : Addr} {fd : FuncData} (F : FnP K "begins_number" s_begins_number f fd) (G : GlV K mg a_KEPT) : FnG P w K mg base CX0 3 f fd ["text", "at", "things"] (spBeg K) := by
 refine okG F sc_begins_number (fun vs H Q E h => ?_) (fun cdv A outer s H vs Q E hr h => ?_)
 ·obtain ⟨z, n, p, ts, rfl, _⟩ := h
  rfl
 obtain ⟨z, n, p, ts, rfl, hz, hn, hts, hsc, q⟩ := h
 have zl := hz.len
 have zs : z.length ≤ sizeLine := le_of (by omega)
 have ll := len_l z
 obtain ⟨tF, g_FIGURES⟩ := G.f
 refine ⟨_, PSs.nox (pss_cons (ps_if (PW.pt (pw_or (pt_cmpR (kOp (K := K) (r := uNe) rfl (opu_ne hr.units)) (pe_ix (kIx (K := K) (r := rIx) rfl ix_seq) (pv 0) (pv 1) (fun _ _ => rfl)) pe_str (nomark _)) (pw_or (pt_cmpR (kOp (K := K) (r := uEq) rfl (opu_eq hr.units)) (pe_slice sl_str (pv 0) (po_some (pe_op (kOp (K := K) (r := uAdd) rfl opu_add) (pv 1) pe_int)) (po_some (pe_op (kOp (K := K) (r := uAdd) rfl opu_add) (pv 1) pe_int))) pe_str (nomark _)) (pw_or1 (pt_cmpR (kOp (K := K) (r := uNotIn) rfl opu_notIn) (pe_ix (kIx (K := K) (r := rIx) rfl ix_seq) (pv 0) (pe_op (kOp (K := K) (r := uAdd) rfl opu_add) (pv 1) pe_int) (fun _ _ => rfl)) (pe_glob (v := .str z_FIGURES) rfl g_FIGURES ⟨_, rfl⟩) (by rfl)))))) (pss_one (ps_ret pe_bl)) pss_nil)
 (pss_cons (ps_if (pt_cmpR (kOp (K := K) (r := uEq) rfl (opu_eq hr.units)) (pv 2) (pe_lst pa_nil) (nomark _)) (pss_one (ps_ret pe_bl)) pss_nil)
 (pss_one (ps_ret (pe_andTK (K := K) rfl (pe_cmpR (kOp (K := K) (r := uNotIn) rfl opu_notIn) (pe_ix (kIx (K := K) (r := rIx) rfl ix_seq) (pe_ix (kIx (K := K) (r := rIx) rfl ix_seq) (pv 2) (pe_un un_neg pe_int) (fun _ _ => rfl)) pe_int (fun _ _ => rfl)) (pe_tup (pa_cons pe_str (pa_cons pe_str pa_nil))) (by rfl)) (pe_one (pe_cmpR (kOp (K := K) (r := uNotIn) rfl opu_notIn) (pe_ix (kIx (K := K) (r := rIx) rfl ix_seq) (pe_ix (kIx (K := K) (r := rIx) rfl ix_seq) (pv 2) (pe_un un_neg pe_int) (fun _ _ => rfl)) pe_int (fun _ _ => rfl)) (pe_tup (pa_cons pe_str (pa_cons pe_str pa_nil))) (by rfl)))))))), rd_start (σ0 := [some (.str z), some (.int (n : Int)), some (.ref p)]) rfl ?_⟩
 walk_at "q"
 have hc : z.cps.toList[n]? = some z.cps.toList[n] := List.getElem?_eq_getElem (by omega)
 refine g_ixS zs (atI_nat hc) ?_
 walk_at "q"
 rw [sg_lit (t := "-") (d := 45) rfl]
 have eb : begB z.cps.toList n ts.getLast? = (decide (z.cps.toList[n]? = some 45) && ((match z.cps.toList[n + 1]? with | some c => isFig c | none => false) && match ts.getLast? with
  | none => true
  | some t => !decide (t.s ∈ (["value", "name"] : List Str)) && !decide (t.v ∈ ([")", "me"] : List Str).map V.str))) := rfl
 have ed : decide (z.cps.toList[n]? = some 45) = decide (z.cps.toList[n] = 45) := by rw [hc]; exact decide_eq_decide.mpr (by simp)
 rw [ed] at eb
 have no : begB z.cps.toList n ts.getLast? = false → ∀ H', Fr [] H H' → Q (.bl false) H' := fun e H' e' => by
  have z1 := q H' e'
  rw [e] at z1
  exact z1
 cases h0 : decide (z.cps.toList[n] = 45) with
 | false =>
  rw [h0] at eb
  walk_at "q"
  exact no eb _ Fr.refl
 | true =>
  rw [h0, Bool.true_and] at eb
  walk_at "q"
  refine g_slS zs ?_
  walk_at "q"
  have en : ((n : Int) + 1) = ((n + 1 : Nat) : Int) := by omega
  rw [show (n : Int) + 2 = ((n : Int) + 1) + 1 by omega, en]
  cases h1 : z.cps.toList[n + 1]? with
  | none =>
   rw [h1] at eb
   rw [cut_none h1]
   refine g_tt (by rw [decide_eq_true rfl]) ?_
   walk_at "q"
   exact no eb _ Fr.refl
  | some c =>
   rw [h1] at eb
   rw [cut_one h1]
   refine g_ff (by rw [decide_eq_false (fun e => by have := congrArg (fun s : Str => s.cps.toList) e; exact absurd this (by intro h; cases h))]) ?_
   walk_at "q"
   rw [en]
   refine g_ixS zs (atI_nat h1) ?_
   walk_at "q"
   refine g_notInS ?_
   rw [in_fig]
   walk_at "q"
   cases hf : isFig c with
   | false =>
    refine g_tt rfl ?_
    walk_at "q"
    refine no ?_ _ Fr.refl
    rw [eb]
    show (isFig c && _) = false
    rw [hf]
    rfl
   | true =>
    refine g_ff rfl ?_
    have eb2 : begB z.cps.toList n ts.getLast? = match ts.getLast? with
      | none => true
      | some t => !decide (t.s ∈ (["value", "name"] : List Str)) && !decide (t.v ∈ ([")", "me"] : List Str).map V.str) := by
     rw [eb]
     show (isFig c && _) = _
     rw [hf, Bool.true_and]
    obtain ⟨us, hus, htd⟩ := hts
    have ul := (tda_get htd).1
    walk_at "q"
    refine ⟨le_of (by simp), fun p2 hp2 => ?_⟩
    have e2 : Fr [] H (upd H p2 (.lst [])) := Fr.new hp2
    have h2 : (upd H p2 (.lst [])) p2 = some (.lst []) := upd_same
    have hus2 := e2.at hus (fun z => nomatch z)
    have htd2 := htd.fr e2
    generalize upd H p2 (.lst []) = H2 at *
    refine g_eqEL (SqL.of hus2) (SqL.of h2) ?_
    walk_at "q"
    refine g_by (fun c3 => ?_) (fun c3 => ?_)
    ·walk_at "q"
     have et : ts = [] := by
      rw [c3] at ul
      exact List.length_eq_zero_iff.mp ul.symm
     have z1 := q H2 e2
     rw [eb2, et] at z1
     exact z1
    ·obtain ⟨t, r, h3, h4, h5, h6⟩ := tda_last htd2 hsc c3
     rw [h3] at eb2
     have z1 : ∀ H', Fr [] H2 H' → Q (.bl (!decide (t.s ∈ (["value", "name"] : List Str)) && !decide (t.v ∈ ([")", "me"] : List Str).map V.str))) H' := fun H' e => by
      have z := q H' (e2.trans e)
      rw [h3, eb2] at z
      exact z
     walk_at "q"
     refine g_ixL (SqL.of hus2) (atI_lastA h4) ?_
     walk_at "q"
     refine ⟨le_of (by simp), fun p3 hp3 => ?_⟩
     refine g_notInT (xs := (["value", "name"] : List Str).map V.str) (.inr (SqT.of upd_same)) (flat_strs _) ?_
     have e4 : Fr [] H2 (upd H2 p3 (.tup [.str "value", .str "name"])) := Fr.new hp3
     have h54 := e4.tup h5
     have hus4 := e4.at hus2 (fun z => nomatch z)
     generalize upd H2 p3 (.tup [.str "value", .str "name"]) = H4 at *
     rw [inV_str]
     cases h7 : decide (t.s ∈ (["value", "name"] : List Str)) with
     | true =>
      rw [h7] at z1
      walk_at "q"
      exact z1 _ e4
     | false =>
      rw [h7] at z1
      walk_at "q"
      refine g_ixL (SqL.of hus4) (atI_lastA h4) ?_
      walk_at "q"
      refine ⟨le_of (by simp), fun p5 hp5 => ?_⟩
      refine g_notInSc (ws := [")", "me"]) h6 (.inr (SqT.of upd_same)) ?_
      exact z1 _ (e4.trans (Fr.new hp5))
end
def sgnL : List Nat := [40, 41, 44, 95, 43, 45, 42, 61, 60, 62]
theorem in_sgn (c : Nat) : (!(Builtin.Str.occurrences z_SIGNS ⟨#[c]⟩ 0 z_SIGNS.length 1).isEmpty) = decide (c ∈ sgnL) := by
 rw [StrLaws.found_one]
 have e : z_SIGNS.cps.toList = sgnL := by decide +kernel
 rw [e]
def nextT (z : Str) (n : Nat) (last : Option Th) : Option (Th × Nat) := match z.cps.toList[n]? with
 | none => none
 | some c => if c = 39 then (wordT z n).map fun q => (⟨"value", .str q.1, n⟩, q.2)
  else if isRun c = true ∨ begB z.cps.toList n last = true then (runT (cutS z (some (n : Int)) (some ((runE z.cps.toList (n + 1) : Nat) : Int)))).map fun q => (⟨q.1, q.2, n⟩, runE z.cps.toList (n + 1))
  else if cutS z (some (n : Int)) (some ((n : Int) + 2)) ∈ (["!=", "<=", ">="] : List Str) then some (⟨"sign", .str (cutS z (some (n : Int)) (some ((n : Int) + 2))), n⟩, n + 2)
  else if c ∈ sgnL then some (⟨"sign", .str ⟨#[c]⟩, n⟩, n + 1) else none
theorem runE_le (l : List Nat) (n : Nat) (h : n ≤ l.length) : n ≤ runE l n ∧ runE l n ≤ l.length := by
 unfold runE
 have := (List.takeWhile_sublist isRun (l := l.drop n)).length_le
 rw [List.length_drop] at this
 omega
def spNext (C : Addr) (K : PySem.W.Frag) : Sp := fun vs H Q E => ∃ (z : Str) (n : Nat) (p : Addr) (ts : List Th), vs = [.str z, .int (n : Int), .ref p] ∧ Tx 9000 z ∧ n < z.length ∧ ThsAt K H p ts ∧ (∀ t ∈ ts, isSc t.v = true) ∧
 (∀ t m pr H', nextT z n ts.getLast? = some (t, m) → Fr [] H H' → PairAt K H' pr t.s t.v t.n m → Q (.ref pr) H') ∧ ∀ d H', nextT z n ts.getLast? = none → Fr [] H H' → H' d = some (.xd (badAt n)) → E (.ref C) (some d) H'
abbrev s_next_thing : Stmt := topS 21
theorem sc_next_thing : FnScope ["text", "at", "things", "end"] ["text", "at", "things"] (defScope s_next_thing) := ⟨rfl, rfl, rfl, by decide +kernel, rfl, by decide +kernel, by decide +kernel⟩
theorem ThsAt.fr {K : PySem.W.Frag} {M : List Addr} {H H' : Hp} {p : Addr} {ts : List Th} (h : ThsAt K H p ts) (e : Fr M H H') (n : p ∉ M) : ThsAt K H' p ts := by
 obtain ⟨us, h1, h2⟩ := h
 exact ⟨us, e.at h1 n, h2.fr e⟩
section
variable {P : Program} {w : World} {K : PySem.W.Frag} {mg : Str → Option Value} {base : Heap} {a_KEPT a_BadText : Addr}
theorem ok_next_thing {f : Addr} {fd : FuncData} (F : FnP K "next_thing" s_next_thing f fd) (GR : ∃ t, mg "RUN" = some (.str z_RUN t)) (GS : ∃ t, mg "SIGNS" = some (.str z_SIGNS t)) (C_word_thing : CalXN P w K mg base 22 "word_thing" (spWordT a_BadText K)) (C_run_thing : CalXN P w K mg base 24 "run_thing" (spRunT a_BadText K)) (C_run_end : CalG P w K mg base 3 "run_end" spRunE) (C_begins_number : CalG P w K mg base 3 "begins_number" (spBeg K))
  (G_BadText : ClG P w K mg base 2 "BadText" a_BadText (spI1 K "badtext" "at")) (n1 : PySem.W.findIn K (.ref a_BadText) "word" = some none) (n2 : PySem.W.findIn K (.ref a_BadText) "at" = some none) : FnG P w K mg base (L2N.CX P w) 26 f fd ["text", "at", "things"] (spNext a_BadText K) := by
 refine okXN F sc_next_thing (fun vs H Q E h => ?_) (fun cdv A outer s H vs Q E hr h tk => ?_)
 ·obtain ⟨z, n, p, ts, rfl, _⟩ := h
  rfl
 obtain ⟨z, n, p, ts, rfl, hz, hn, hts, hsc, q, qe⟩ := h
 have zl := hz.len
 have zs : z.length ≤ sizeLine := le_of (by omega)
 have ll := len_l z
 obtain ⟨tR, g_RUN⟩ := GR
 obtain ⟨tS, g_SIGNS⟩ := GS
 refine ⟨_, (pss_cons (ps_if (pt_cmpR (kOp (K := K) (r := uEq) rfl (opu_eq hr.units)) (pe_ix (kIx (K := K) (r := rIx) rfl ix_seq) (pv 0) (pv 1) (fun _ _ => rfl)) pe_str (nomark _)) (pss_one (ps_ret (pe_calXN C_word_thing tk hr rfl (pa_cons (pv 0) (pa_cons (pv 1) pa_nil))))) pss_nil)
 (pss_cons (ps_if (PW.pt (pw_or (pt_cmpR (kOp (K := K) (r := uIn) rfl opu_in) (pe_ix (kIx (K := K) (r := rIx) rfl ix_seq) (pv 0) (pv 1) (fun _ _ => rfl)) (pe_glob (v := .str z_RUN) rfl g_RUN ⟨_, rfl⟩) (by rfl)) (pw_or1 (pt_val (pe_calG C_begins_number hr rfl (pa_cons (pv 0) (pa_cons (pv 1) (pa_cons (pv 2) pa_nil)))))))) (pss_cons (ps_set (i := 3) sc_next_thing.nd rfl (.inl rfl) (pe_calG C_run_end hr rfl (pa_cons (pv 0) (pa_cons (pe_op (kOp (K := K) (r := uAdd) rfl opu_add) (pv 1) pe_int) pa_nil))))
 (pss_one (ps_ret (pe_tup (pa_cons (pe_calXN C_run_thing tk hr rfl (pa_cons (pe_slice sl_str (pv 0) (po_some (pv 1)) (po_some (pv 3))) (pa_cons (pv 1) pa_nil))) (pa_cons (pv 3) pa_nil)))))) pss_nil)
 (pss_cons (ps_if (pt_cmpR (kOp (K := K) (r := uIn) rfl opu_in) (pe_slice sl_str (pv 0) (po_some (pv 1)) (po_some (pe_op (kOp (K := K) (r := uAdd) rfl opu_add) (pv 1) pe_int))) (pe_tup (pa_cons pe_str (pa_cons pe_str (pa_cons pe_str pa_nil)))) (by rfl)) (pss_one (ps_ret (pe_tup (pa_cons (pe_tup (pa_cons pe_str (pa_cons (pe_slice sl_str (pv 0) (po_some (pv 1)) (po_some (pe_op (kOp (K := K) (r := uAdd) rfl opu_add) (pv 1) pe_int))) (pa_cons (pv 1) pa_nil)))) (pa_cons (pe_op (kOp (K := K) (r := uAdd) rfl opu_add) (pv 1) pe_int) pa_nil))))) pss_nil)
 (pss_cons (ps_if (pt_cmpR (kOp (K := K) (r := uNotIn) rfl opu_notIn) (pe_ix (kIx (K := K) (r := rIx) rfl ix_seq) (pv 0) (pv 1) (fun _ _ => rfl)) (pe_glob (v := .str z_SIGNS) rfl g_SIGNS ⟨_, rfl⟩) (by rfl)) (pss_one (ps_rsN rfl tk (pmk_mkXN G_BadText hr rfl (pa_cons (pv 1) pa_nil)))) pss_nil)
 (pss_one (ps_ret (pe_tup (pa_cons (pe_tup (pa_cons pe_str (pa_cons (pe_ix (kIx (K := K) (r := rIx) rfl ix_seq) (pv 0) (pv 1) (fun _ _ => rfl)) (pa_cons (pv 1) pa_nil)))) (pa_cons (pe_op (kOp (K := K) (r := uAdd) rfl opu_add) (pv 1) pe_int) pa_nil))))))))), rd_start (σ0 := [some (.str z), some (.int (n : Int)), some (.ref p), none]) rfl ?_⟩
 obtain ⟨c, hc⟩ : ∃ c, z.cps.toList[n]? = some c := ⟨_, List.getElem?_eq_getElem (by omega)⟩
 have en : nextT z n ts.getLast? = if c = 39 then (wordT z n).map fun q => (⟨"value", .str q.1, n⟩, q.2)
  else if isRun c = true ∨ begB z.cps.toList n ts.getLast? = true then (runT (cutS z (some (n : Int)) (some ((runE z.cps.toList (n + 1) : Nat) : Int)))).map fun q => (⟨q.1, q.2, n⟩, runE z.cps.toList (n + 1))
  else if cutS z (some (n : Int)) (some ((n : Int) + 2)) ∈ (["!=", "<=", ">="] : List Str) then some (⟨"sign", .str (cutS z (some (n : Int)) (some ((n : Int) + 2))), n⟩, n + 2)
  else if c ∈ sgnL then some (⟨"sign", .str ⟨#[c]⟩, n⟩, n + 1) else none := by unfold nextT; rw [hc]
 walk_at "q"
 refine g_ixS zs (atI_nat hc) ?_
 walk_at "q"
 rw [sg_lit (t := "'") (d := 39) rfl]
 refine g_by (fun c1 => ?_) (fun c1 => ?_)
 ·rw [if_pos c1] at en
  walk_at "q"
  refine ⟨z, n, rfl, hz, fun x m pr H1 hw e1 hp => ?_, fun d H1 hw e1 hd => ?_⟩
  ·exact q ⟨"value", .str x, n⟩ m pr H1 (by rw [en, hw]; rfl) e1 hp
  ·exact qe d H1 (by rw [en, hw]; rfl) e1 hd
 ·rw [if_neg c1] at en
  walk_at "q"
  refine g_ixS zs (atI_nat hc) ?_
  walk_at "q"
  refine g_inS ?_
  rw [in_run]
  walk_at "q"
  refine g_byB (fun c2 => ?_) (fun c2 => ?_)
  ·have cd : isRun c = true ∨ begB z.cps.toList n ts.getLast? = true := .inl c2
   walk_at "q"
   refine ⟨z, n + 1, by simp, hz, ?_⟩
   have hle := runE_le z.cps.toList (n + 1) (by omega)
   walk_at "q"
   refine g_slS zs ?_
   walk_at "q"
   refine ⟨_, n, rfl, hz.cut, fun s v t H2 hrt e2 ht => ?_, fun d H2 hrt e2 hd => ?_⟩
   ·walk_at "q"
    refine ⟨le_of (by simp), fun pr hpr => ?_⟩
    have e3 := Fr.new (M := []) (o := .tup [.ref t, .int ((runE z.cps.toList (n + 1) : Nat) : Int)]) hpr
    exact q ⟨s, v, n⟩ _ pr _ (by rw [en, if_pos cd, hrt]; rfl) ((Fr.refl.trans e2).trans e3) ⟨t, SqT.of upd_same, e3.tup ht⟩
   ·exact qe d H2 (by rw [en, if_pos cd, hrt]; rfl) (Fr.refl.trans e2) hd
  ·walk_at "q"
   refine ⟨z, n, p, ts, rfl, hz, hn, hts, hsc, fun H1 e1 => ?_⟩
   walk_at "q"
   refine g_byB (fun c3 => ?_) (fun c3 => ?_)
   ·have cd : isRun c = true ∨ begB z.cps.toList n ts.getLast? = true := .inr c3
    walk_at "q"
    refine ⟨z, n + 1, by simp, hz, ?_⟩
    have hle := runE_le z.cps.toList (n + 1) (by omega)
    walk_at "q"
    refine g_slS zs ?_
    walk_at "q"
    refine ⟨_, n, rfl, hz.cut, fun s v t H2 hrt e2 ht => ?_, fun d H2 hrt e2 hd => ?_⟩
    ·walk_at "q"
     refine ⟨le_of (by simp), fun pr hpr => ?_⟩
     have e3 := Fr.new (M := []) (o := .tup [.ref t, .int ((runE z.cps.toList (n + 1) : Nat) : Int)]) hpr
     exact q ⟨s, v, n⟩ _ pr _ (by rw [en, if_pos cd, hrt]; rfl) ((e1.trans e2).trans e3) ⟨t, SqT.of upd_same, e3.tup ht⟩
    ·exact qe d H2 (by rw [en, if_pos cd, hrt]; rfl) (e1.trans e2) hd
   ·have cd : ¬ (isRun c = true ∨ begB z.cps.toList n ts.getLast? = true) := by rw [c2, c3]; decide
    rw [if_neg cd] at en
    walk_at "q"
    refine g_slS zs ?_
    walk_at "q"
    refine ⟨le_of (by simp), fun p2 hp2 => ?_⟩
    refine g_inT (xs := (["!=", "<=", ">="] : List Str).map V.str) (.inr (SqT.of upd_same)) (flat_strs _) ?_
    have e2 : Fr [] H1 (upd H1 p2 (.tup [.str "!=", .str "<=", .str ">="])) := Fr.new hp2
    have e12 := e1.trans e2
    generalize upd H1 p2 (.tup [.str "!=", .str "<=", .str ">="]) = H2 at *
    rw [inV_str]
    walk_at "q"
    refine g_by (fun c4 => ?_) (fun c4 => ?_)
    ·walk_at "q"
     refine g_slS zs ?_
     walk_at "q"
     refine ⟨le_of (by simp), fun t ht => ?_⟩
     have e3 : Fr [] H2 (upd H2 t (.tup [.str "sign", .str (cutS z (some (n : Int)) (some ((n : Int) + 2))), .int (n : Int)])) := Fr.new ht
     have h3 : SqT K (upd H2 t (.tup [.str "sign", .str (cutS z (some (n : Int)) (some ((n : Int) + 2))), .int (n : Int)])) t [.str "sign", .str (cutS z (some (n : Int)) (some ((n : Int) + 2))), .int (n : Int)] := SqT.of upd_same
     walk_at "q"
     refine ⟨le_of (by simp), fun pr hpr => ?_⟩
     have e4 := Fr.new (M := []) (o := .tup [.ref t, .int ((n : Int) + 2)]) hpr
     exact q ⟨"sign", .str _, n⟩ (n + 2) pr _ (by rw [en, if_pos c4]) ((e12.trans e3).trans e4) ⟨t, SqT.of upd_same, e4.tup h3⟩
    ·rw [if_neg c4] at en
     walk_at "q"
     refine g_ixS zs (atI_nat hc) ?_
     walk_at "q"
     refine g_notInS ?_
     rw [in_sgn]
     walk_at "q"
     refine g_byN (fun c5 => ?_) (fun c5 => ?_)
     ·walk_at "q"
      exact mkX_I1 G_BadText.ec n1 n2 fun d H' fr e => qe d H' (by rw [en, if_neg c5]) (e12.trans fr) e
     ·walk_at "q"
      refine g_ixS zs (atI_nat hc) ?_
      walk_at "q"
      refine ⟨le_of (by simp), fun t ht => ?_⟩
      have e3 : Fr [] H2 (upd H2 t (.tup [.str "sign", .str ⟨#[c]⟩, .int (n : Int)])) := Fr.new ht
      have h3 : SqT K (upd H2 t (.tup [.str "sign", .str ⟨#[c]⟩, .int (n : Int)])) t [.str "sign", .str ⟨#[c]⟩, .int (n : Int)] := SqT.of upd_same
      walk_at "q"
      refine ⟨le_of (by simp), fun pr hpr => ?_⟩
      have e4 := Fr.new (M := []) (o := .tup [.ref t, .int ((n : Int) + 1)]) hpr
      exact q ⟨"sign", .str _, n⟩ (n + 1) pr _ (by rw [en, if_pos c5]) ((e12.trans e3).trans e4) ⟨t, SqT.of upd_same, e4.tup h3⟩
end
def endT (z : Str) : Th := ⟨"end", .str "", z.length⟩
inductive Cuts (z : Str) : Nat → List Th → Except Nat (List Th) → Prop
 | stop {n : Nat} {ts : List Th} : z.length ≤ n → Cuts z n ts (.ok (ts ++ [endT z]))
 | skip {n : Nat} {ts : List Th} {r : Except Nat (List Th)} : n < z.length → z.cps.toList[n]? = some 32 → Cuts z (n + 1) ts r → Cuts z n ts r
 | bad {n : Nat} {ts : List Th} : n < z.length → z.cps.toList[n]? ≠ some 32 → nextT z n ts.getLast? = none → Cuts z n ts (.error n)
 | step {n m : Nat} {t : Th} {ts : List Th} {r : Except Nat (List Th)} : n < z.length → z.cps.toList[n]? ≠ some 32 → nextT z n ts.getLast? = some (t, m) → Cuts z m (ts ++ [t]) r → Cuts z n ts r
theorem Cuts.det {z : Str} {n : Nat} {ts : List Th} {r r' : Except Nat (List Th)} (h : Cuts z n ts r) (h' : Cuts z n ts r') : r = r' := by
 induction h generalizing r' with
 | stop l =>
  cases h' with
  | stop _ => rfl
  | skip a => omega
  | bad a => omega
  | step a => omega
 | skip a b c ih =>
  cases h' with
  | stop l => omega
  | skip _ _ k => exact ih k
  | bad _ k => exact absurd b k
  | step _ k => exact absurd b k
 | bad a b c =>
  cases h' with
  | stop l => omega
  | skip _ k => exact absurd k b
  | bad _ _ _ => rfl
  | step _ _ k => rw [c] at k; cases k
 | step a b c d ih =>
  cases h' with
  | stop l => omega
  | skip _ k => exact absurd k b
  | bad _ _ k => rw [c] at k; cases k
  | step _ _ k l =>
   rw [c] at k
   cases k
   exact ih l
theorem runT_sc {z s : Str} {v : V} (h : runT z = some (s, v)) : isSc v = true ∧ s ≠ "end" := by
 unfold runT at h
 have d : ∀ s ∈ (["value", "kept", "name", "full"] : List Str), s ≠ "end" := by decide +kernel
 repeat' (split at h)
 all_goals first
  | (cases h; done)
  | (cases h; exact ⟨rfl, d _ (by simp)⟩)
theorem nextT_sc {z : Str} {n m : Nat} {l : Option Th} {t : Th} (h : nextT z n l = some (t, m)) : isSc t.v = true ∧ t.s ≠ "end" := by
 unfold nextT at h
 have d : ∀ s ∈ (["value", "sign"] : List Str), s ≠ "end" := by decide +kernel
 split at h
 ·cases h
 ·split at h
  ·cases hw : wordT z n with
   | none => rw [hw] at h; cases h
   | some q => rw [hw] at h; cases h; exact ⟨rfl, d _ (by simp)⟩
  ·split at h
   ·cases hw : runT (cutS z (some (n : Int)) (some ((runE z.cps.toList (n + 1) : Nat) : Int))) with
    | none => rw [hw] at h; cases h
    | some q => rw [hw] at h; cases h; exact runT_sc hw
   ·split at h
    ·cases h; exact ⟨rfl, d _ (by simp)⟩
    ·split at h
     ·cases h; exact ⟨rfl, d _ (by simp)⟩
     ·cases h
theorem nextT_lt {z : Str} {n m : Nat} {l : Option Th} {t : Th} (h : nextT z n l = some (t, m)) : n < m ∧ m ≤ z.length + 1 := by
 have ll := len_l z
 unfold nextT at h
 split at h
 ·cases h
 ·rename_i c hc
  have hn := (List.getElem?_eq_some_iff.mp hc).1
  split at h
  ·cases hw : wordT z n with
   | none => rw [hw] at h; cases h
   | some q =>
    rw [hw] at h
    cases h
    have := wordT_lt (x := q.1) (m := q.2) hw
    omega
  ·split at h
   ·cases hw : runT (cutS z (some (n : Int)) (some ((runE z.cps.toList (n + 1) : Nat) : Int))) with
    | none => rw [hw] at h; cases h
    | some q =>
     rw [hw] at h
     cases h
     have := runE_le z.cps.toList (n + 1) (by omega)
     omega
   ·split at h
    ·cases h; omega
    ·split at h
     ·cases h; omega
     ·cases h
theorem Cuts.good {z : Str} {n : Nat} {ts ts' : List Th} {r : Except Nat (List Th)} (h : Cuts z n ts r) (e : r = .ok ts') (hs : ∀ t ∈ ts, isSc t.v = true ∧ t.s ≠ "end") : ∃ b, ts' = b ++ [endT z] ∧ ∀ t ∈ b, isSc t.v = true ∧ t.s ≠ "end" := by
 induction h with
 | stop l => cases e; exact ⟨_, rfl, hs⟩
 | skip a b c ih => exact ih e hs
 | bad a b c => cases e
 | step a b c d ih =>
  refine ih e fun t ht => ?_
  rcases List.mem_append.mp ht with ht | ht
  ·exact hs t ht
  ·rw [List.mem_singleton.mp ht]; exact nextT_sc c
theorem tda_snoc4 {K : PySem.W.Frag} {H : Hp} : ∀ {vs : List V} {ds : List PyData} {v : V} {d : PyData}, TdAll K H vs ds → Td K H v d → TdAll K H (vs ++ [v]) (ds ++ [d])
 | _, _, _, _, .nil, h => .cons h .nil
 | _, _, _, _, .cons a b, h => .cons a (tda_snoc4 b h)
def spThings (C : Addr) (K : PySem.W.Frag) : Sp := fun vs H Q E => ∃ z : Str, vs = [.str z] ∧ Tx 9000 z ∧ (∀ ts p H', Cuts z 0 [] (.ok ts) → Fr [] H H' → H p = none → ThsAt K H' p ts → Q (.ref p) H') ∧ ∀ n d H', Cuts z 0 [] (.error n) → Fr [] H H' → H' d = some (.xd (badAt n)) → E (.ref C) (some d) H'
abbrev s_things_of : Stmt := topS 22
theorem sc_things_of : FnScope ["text", "found", "at", "thing"] ["text"] (defScope s_things_of) := ⟨rfl, rfl, rfl, by decide +kernel, rfl, by decide +kernel, by decide +kernel⟩
section
variable {P : Program} {w : World} {K : PySem.W.Frag} {mg : Str → Option Value} {base : Heap} {a_KEPT a_BadText : Addr}
theorem ok_things_of {f : Addr} {fd : FuncData} (F : FnP K "things_of" s_things_of f fd) (B : BiR mg) (C_next_thing : CalXN P w K mg base 26 "next_thing" (spNext a_BadText K)) : FnG P w K mg base (L2N.CX P w) 28 f fd ["text"] (spThings a_BadText K) := by
 refine okXN F sc_things_of (fun vs H Q E h => ?_) (fun cdv A outer s H vs Q E hr h tk => ?_)
 ·obtain ⟨z, rfl, _⟩ := h
  rfl
 obtain ⟨z, rfl, hz, q, qe⟩ := h
 have zl := hz.len
 have zs : z.length ≤ sizeLine := le_of (by omega)
 have ll := len_l z
 refine ⟨_, (pss_cons (ps_set (i := 1) sc_things_of.nd rfl (.inl rfl) (pe_lst pa_nil))
 (pss_cons (ps_set (i := 2) sc_things_of.nd rfl (.inl rfl) pe_int)
 (pss_cons (ps_while (L2.passes_of rfl) (pt_cmpR (kOp (K := K) (r := uLt) rfl opu_lt) (pv 2) (pe_callB (kCall (K := K) (r := uLen) rfl callu_len) (by rfl) B.b_len (by decide +kernel) (pa_cons (pv 0) pa_nil)) (nomark _)) (pss_one (ps_if (pt_cmpR (kOp (K := K) (r := uEq) rfl (opu_eq hr.units)) (pe_ix (kIx (K := K) (r := rIx) rfl ix_seq) (pv 0) (pv 2) (fun _ _ => rfl)) pe_str (nomark _)) (pss_one (ps_aug (i := 2) sc_things_of.nd rfl (.inl rfl) pe_int ip_add)) (pss_cons (ps_asg (pe_calXN C_next_thing tk hr rfl (pa_cons (pv 0) (pa_cons (pv 2) (pa_cons (pv 1) pa_nil)))) (pg_tupK (K := K) rfl rfl (pgs_cons (pg_name (i := 3) sc_things_of.nd rfl (by first | exact Or.inl rfl | exact Or.inr rfl)) (pgs_cons (pg_name (i := 2) sc_things_of.nd rfl (by first | exact Or.inl rfl | exact Or.inr rfl)) pgs_nil))))
 (pss_one (ps_expr (kBM (K := K) rfl (pe_bm PySem.F.plainAttrs_list PySem.F.slot_list_append PySem.F.type_list_append mt_append (pv 1) (pa_cons (pv 3) pa_nil)))))))))
 (pss_cons (ps_expr (kBM (K := K) rfl (pe_bm PySem.F.plainAttrs_list PySem.F.slot_list_append PySem.F.type_list_append mt_append (pv 1) (pa_cons (pe_tup (pa_cons pe_str (pa_cons pe_str (pa_cons (pe_callB (kCall (K := K) (r := uLen) rfl callu_len) (by rfl) B.b_len (by decide +kernel) (pa_cons (pv 0) pa_nil)) pa_nil)))) pa_nil))))
 (pss_one (ps_ret (pv 1))))))), rd_start (σ0 := [some (.str z), none, none, none]) rfl ?_⟩
 walk_at "q"
 refine ⟨le_of (by simp), fun p hp => ?_⟩
 have e1 : Fr [] H (upd H p (.lst [])) := Fr.new hp
 have h1 : (upd H p (.lst [])) p = some (.lst []) := upd_same
 generalize upd H p (.lst []) = H1 at *
 walk_at "q"
 refine g_while2 (fun σ H' => ∃ (n : Nat) (ts : List Th) (us : List V) (z3 : Option V), σ = [some (.str z), some (.ref p), some (.int (n : Int)), z3] ∧ H' p = some (.lst us) ∧ TdAll K H' us (ts.map Th.d) ∧ (∀ t ∈ ts, isSc t.v = true ∧ t.s ≠ "end") ∧ Fr [] H H' ∧ us.length ≤ n ∧ n ≤ z.length + 1 ∧ ∀ r, Cuts z n ts r → Cuts z 0 [] r)
  (fun σ H' => match σ with | [_, _, some (.int m), _] => z.length - m.toNat | _ => 0) ⟨0, [], [], _, rfl, h1, .nil, (fun _ z => nomatch z), e1, by simp, by omega, fun r h => h⟩ (fun σ H2 h => ?_)
 obtain ⟨n, ts, us, z3, rfl, h2, ht2, hs, e2, hul, hn9, hcut⟩ := h
 walk_at "q"
 refine g_lenS zs ?_
 walk_at "q"
 refine g_by (fun c1 => ?_) (fun c1 => ?_)
 ·have hn : n < z.cps.toList.length := by omega
  have hc : z.cps.toList[n]? = some z.cps.toList[n] := List.getElem?_eq_getElem hn
  generalize z.cps.toList[n] = c at *
  refine g_wt ?_
  walk_at "q"
  refine g_ixS zs (atI_nat hc) ?_
  walk_at "q"
  rw [sg_lit (t := " ") (d := 32) rfl]
  refine g_by (fun c2 => ?_) (fun c2 => ?_)
  ·subst c2
   refine g_aug1 rfl ⟨⟨n + 1, ts, us, z3, rfl, h2, ht2, hs, e2, by omega, by omega, fun r h => hcut r (.skip (by omega) hc h)⟩, ?_⟩
   show z.length - ((n : Int) + 1).toNat < z.length - ((n : Int)).toNat
   omega
  ·have hc2 : z.cps.toList[n]? ≠ some 32 := by rw [hc]; intro e; exact c2 (Option.some.inj e)
   walk_at "q"
   refine ⟨z, n, p, ts, rfl, hz, by omega, ⟨us, h2, ht2⟩, fun t ht => (hs t ht).1, fun t m pr H3 hnt e3 hpr => ?_, fun d H3 hnt e3 hd => ?_⟩
   ·obtain ⟨r, hpr1, hr1⟩ := hpr
    have h3 := e3.at h2 (fun z => nomatch z)
    have ht3 := ht2.fr e3
    have hm := nextT_lt hnt
    have hsc := nextT_sc hnt
    walk_at "q"
    refine g_app h3 (by omega) ?_
    have e4 : Fr [p] H3 (upd H3 p (.lst (us ++ [.ref r]))) := Fr.mut (List.mem_singleton.mpr rfl) h3 nofix_lst
    refine ⟨⟨m, ts ++ [t], us ++ [.ref r], _, rfl, upd_same, ?_, fun x hx => ?_, (e2.trans e3).over hp, by rw [List.length_append]; simp; omega, hm.2, fun r h => hcut r (.step (by omega) hc2 hnt h)⟩, ?_⟩
    ·rw [List.map_append]
     exact (tda_snoc4 ht3 (show Td K H3 (.ref r) t.d from .tup hr1 (.cons (.str _) (.cons (sc_td hsc.1) (.cons (.int _) .nil))))).fr e4
    ·rcases List.mem_append.mp hx with hx | hx
     ·exact hs x hx
     ·rw [List.mem_singleton.mp hx]; exact hsc
    ·show z.length - ((m : Int)).toNat < z.length - ((n : Int)).toNat
     omega
   ·exact qe n d H3 (hcut _ (.bad (by omega) hc2 hnt)) (e2.trans e3) hd
 ·walk_at "q"
  refine g_lenS zs ?_
  walk_at "q"
  refine ⟨le_of (by simp), fun r hr0 => ?_⟩
  have e3 : Fr [] H2 (upd H2 r (.tup [.str "end", .str "", .int (z.length : Nat)])) := Fr.new hr0
  have hr3 : SqT K (upd H2 r (.tup [.str "end", .str "", .int (z.length : Nat)])) r [.str "end", .str "", .int (z.length : Nat)] := SqT.of upd_same
  have h3 := e3.at h2 (fun z => nomatch z)
  have ht3 := ht2.fr e3
  generalize upd H2 r (.tup [.str "end", .str "", .int (z.length : Nat)]) = H3 at *
  walk_at "q"
  refine g_app h3 (by omega) ?_
  have e4 : Fr [p] H3 (upd H3 p (.lst (us ++ [.ref r]))) := Fr.mut (List.mem_singleton.mpr rfl) h3 nofix_lst
  walk_at "q"
  refine q (ts ++ [endT z]) p _ (hcut _ (.stop (by omega))) ((e2.trans e3).over hp) hp ⟨us ++ [.ref r], upd_same, ?_⟩
  rw [List.map_append]
  exact (tda_snoc4 ht3 (show Td K H3 (.ref r) (endT z).d from .tup hr3 (.cons (.str _) (.cons (.str _) (.cons (.int _) .nil))))).fr e4
end
def rowFs (p : Addr) (i : Nat) (m pl : Bool) : List (Str × V) := [("things", .ref p), ("spot", .int (i : Int)), ("mine", .bl m), ("plain", .bl pl)]
structure RowAt (K : PySem.W.Frag) (C : Addr) (H : Hp) (r tq : Addr) (ts : List Th) (i : Nat) (m pl : Bool) : Prop where
 ex : ∃ dx p us, H r = some (.ins C dx (rowFs p i m pl)) ∧ H p = some (.lst us) ∧ TdAll K H us (ts.map Th.d)
 sq : ∀ dx p i m pl, H r = some (.ins C dx (rowFs p i m pl)) → p = tq
theorem rowFs_inj {p p' : Addr} {i i' : Nat} {m m' pl pl' : Bool} (h : rowFs p i m pl = rowFs p' i' m' pl') : p = p' := by
 unfold rowFs at h
 have h1 := (List.cons.inj h).1
 have h2 := congrArg Prod.snd h1
 exact V.ref.inj h2
structure GoodTs (ts : List Th) : Prop where
 sc : ∀ t ∈ ts, isSc t.v = true
 ne : 0 < ts.length
 en : ∀ (i : Nat) (t : Th), ts[i]? = some t → (t.s = "end" ↔ i + 1 = ts.length)
 sz : ts.length ≤ 9001
def tkn (ts : List Th) (i : Nat) : Th := ts.getD i ⟨"end", .str "", 0⟩
def th (ts : List Th) (i : Nat) : Th := tkn ts (min i (ts.length - 1))
def isT (ts : List Th) (i : Nat) (s z : Str) : Bool := decide ((th ts i).s = s) && decide ((th ts i).v = .str z)
theorem th_tk {ts : List Th} {i : Nat} (h : i < ts.length) : th ts i = tkn ts i := by unfold th; rw [Nat.min_eq_left (by omega)]
structure RowC (K : PySem.W.Frag) (C : Addr) : Prop where
 cls : Cls K C
 a1 : NoAttr K C "things"
 a2 : NoAttr K C "spot"
 a3 : NoAttr K C "mine"
 a4 : NoAttr K C "plain"
theorem RowAt.fr {K : PySem.W.Frag} {C : Addr} {M : List Addr} {H H' : Hp} {r tq : Addr} {ts : List Th} {i : Nat} {m pl : Bool} (h : RowAt K C H r tq ts i m pl) (e : Fr [] H H') : RowAt K C H' r tq ts i m pl := by
 obtain ⟨dx, p, us, h1, h2, h3⟩ := h.ex
 refine ⟨⟨dx, p, us, e.at h1 (fun z => nomatch z), e.at h2 (fun z => nomatch z), h3.fr e⟩, fun dx' p' i' m' pl' h' => ?_⟩
 rw [e.at h1 (fun z => nomatch z)] at h'
 cases h'
 exact h.sq _ _ _ _ _ h1
theorem RowAt.frL {K : PySem.W.Frag} {C : Addr} {H H' : Hp} {r tq q : Addr} {ts : List Th} {i : Nat} {m pl : Bool} (h : RowAt K C H r tq ts i m pl) (e : Fr [q] H H') (h1 : q ≠ r) (h2 : q ≠ tq) : RowAt K C H' r tq ts i m pl := by
 obtain ⟨dx, p, us, g1, g2, g3⟩ := h.ex
 have hp := h.sq _ _ _ _ _ g1
 have nm : ∀ {x : Addr}, q ≠ x → x ∉ [q] := fun h z => h (List.mem_singleton.mp z).symm
 refine ⟨⟨dx, p, us, e.at g1 (nm h1), e.at g2 (nm (by rw [hp]; exact h2)), g3.fr e⟩, fun dx' p' i' m' pl' h' => ?_⟩
 rw [e.at g1 (nm h1)] at h'
 cases h'
 exact hp
theorem RowAt.off {K : PySem.W.Frag} {C : Addr} {H : Hp} {r tq q : Addr} {ts : List Th} {i : Nat} {m pl : Bool} (h : RowAt K C H r tq ts i m pl) (hq : H q = none) : q ≠ r ∧ q ≠ tq := by
 obtain ⟨dx, p, us, g1, g2, g3⟩ := h.ex
 have hp := h.sq _ _ _ _ _ g1
 refine ⟨fun z => ?_, fun z => ?_⟩
 ·rw [z, g1] at hq; cases hq
 ·rw [z, ← hp, g2] at hq; cases hq
theorem ths_at {K : PySem.W.Frag} {H : Hp} {us : List V} {ts : List Th} {i : Nat} (g : GoodTs ts) (h : TdAll K H us (ts.map Th.d)) (hi : i < ts.length) : ∃ q, atI us (i : Int) = some (.ref q) ∧ SqT K H q [.str (tkn ts i).s, (tkn ts i).v, .int ((tkn ts i).n : Int)] ∧ isSc (tkn ts i).v = true := by
 obtain ⟨k1, k2⟩ := tda_get h
 have e1 : us[i]? = some us[i] := List.getElem?_eq_getElem (by omega)
 obtain ⟨t, ht, td⟩ := k2 i _ e1
 have hm := g.sc t (List.mem_of_getElem? ht)
 obtain ⟨q, er, hq⟩ := th_at hm td
 have et : tkn ts i = t := by unfold tkn; rw [List.getD_eq_getElem?_getD, ht]; rfl
 rw [et]
 exact ⟨q, by rw [← er]; exact atI_nat e1, hq, hm⟩
def spSort (K : PySem.W.Frag) (C : Addr) : Sp := fun vs H Q _ => ∃ (r tq : Addr) (ts : List Th) (i a : Nat) (m pl : Bool), vs = [.ref r, .int (a : Int)] ∧ RowAt K C H r tq ts i m pl ∧ GoodTs ts ∧ i ≤ 20000 ∧ a ≤ 5 ∧ Q (.str (th ts (i + a)).s) H
def spThing (K : PySem.W.Frag) (C : Addr) : Sp := fun vs H Q _ => ∃ (r tq : Addr) (ts : List Th) (i a : Nat) (m pl : Bool), vs = [.ref r, .int (a : Int)] ∧ RowAt K C H r tq ts i m pl ∧ GoodTs ts ∧ i ≤ 20000 ∧ a ≤ 5 ∧ Q (th ts (i + a)).v H
def spIs (K : PySem.W.Frag) (C : Addr) (s : Str) : Sp := fun vs H Q _ => ∃ (r tq : Addr) (z : Str) (ts : List Th) (i a : Nat) (m pl : Bool), vs = [.ref r, .str z, .int (a : Int)] ∧ PyData.strOk z = true ∧ RowAt K C H r tq ts i m pl ∧ GoodTs ts ∧ i ≤ 20000 ∧ a ≤ 5 ∧ Q (.bl (isT ts (i + a) s z)) H
def spWrong (K : PySem.W.Frag) (C B : Addr) : Sp := fun vs H _ E => ∃ (r tq : Addr) (ts : List Th) (i : Nat) (m pl : Bool), vs = [.ref r] ∧ RowAt K C H r tq ts i m pl ∧ GoodTs ts ∧ i < ts.length ∧ ∀ d H', Fr [] H H' → H' d = some (.xd (badAt (tkn ts i).n)) → E (.ref B) (some d) H'
def spStep (K : PySem.W.Frag) (C : Addr) : Sp := fun vs H Q _ => ∃ (r tq : Addr) (ts : List Th) (i : Nat) (m pl : Bool), vs = [.ref r] ∧ RowAt K C H r tq ts i m pl ∧ GoodTs ts ∧ i < ts.length ∧ ∀ H', Fr [r] H H' → RowAt K C H' r tq ts (i + 1) m pl → Q (tkn ts i).v H'
def spNeedS (K : PySem.W.Frag) (C B : Addr) : Sp := fun vs H Q E => ∃ (r tq : Addr) (z : Str) (ts : List Th) (i : Nat) (m pl : Bool), vs = [.ref r, .str z] ∧ PyData.strOk z = true ∧ RowAt K C H r tq ts i m pl ∧ GoodTs ts ∧ i < ts.length ∧ (∀ H', isT ts i "sign" z = true → Fr [r] H H' → RowAt K C H' r tq ts (i + 1) m pl → Q .non H') ∧
 ∀ d H', isT ts i "sign" z = false → Fr [] H H' → H' d = some (.xd (badAt (tkn ts i).n)) → E (.ref B) (some d) H'
def spNeedN (K : PySem.W.Frag) (C B : Addr) : Sp := fun vs H Q E => ∃ (r tq : Addr) (ts : List Th) (i : Nat) (m pl : Bool), vs = [.ref r] ∧ RowAt K C H r tq ts i m pl ∧ GoodTs ts ∧ i < ts.length ∧ (∀ H', (tkn ts i).s = "name" → Fr [r] H H' → RowAt K C H' r tq ts (i + 1) m pl → Q (tkn ts i).v H') ∧
 ∀ d H', (tkn ts i).s ≠ "name" → Fr [] H H' → H' d = some (.xd (badAt (tkn ts i).n)) → E (.ref B) (some d) H'
def spNeedE (K : PySem.W.Frag) (C B : Addr) : Sp := fun vs H Q E => ∃ (r tq : Addr) (ts : List Th) (i : Nat) (m pl : Bool), vs = [.ref r] ∧ RowAt K C H r tq ts i m pl ∧ GoodTs ts ∧ i < ts.length ∧ (∀ H', (tkn ts i).s = "end" → Fr [] H H' → Q .non H') ∧
 ∀ d H', (tkn ts i).s ≠ "end" → Fr [] H H' → H' d = some (.xd (badAt (tkn ts i).n)) → E (.ref B) (some d) H'
theorem row_step {K : PySem.W.Frag} {C : Addr} {H : Hp} {r tq dx p : Addr} {us : List V} {ts : List Th} {i : Nat} {m pl : Bool} (hR : RowAt K C H r tq ts i m pl) (h1 : H r = some (.ins C dx (rowFs p i m pl))) (h2 : H p = some (.lst us)) (h3 : TdAll K H us (ts.map Th.d)) :
  Fr [r] H (upd H r (.ins C dx (putF "spot" (.int ((i : Int) + 1)) (rowFs p i m pl)))) ∧ RowAt K C (upd H r (.ins C dx (putF "spot" (.int ((i : Int) + 1)) (rowFs p i m pl)))) r tq ts (i + 1) m pl := by
 have e : Fr [r] H (upd H r (.ins C dx (putF "spot" (.int ((i : Int) + 1)) (rowFs p i m pl)))) := Fr.mut (List.mem_singleton.mpr rfl) h1 (fun z => z)
 have hp : p ≠ r := fun z => by rw [z, h1] at h2; cases h2
 have hq := hR.sq _ _ _ _ _ h1
 refine ⟨e, ⟨dx, p, us, upd_same, e.at h2 (fun z => hp (List.mem_singleton.mp z)), h3.fr e⟩, fun dx' p' i' m' pl' h' => ?_⟩
 rw [upd_same] at h'
 injection h' with h'
 injection h' with _ _ h'
 rw [← hq]
 exact (rowFs_inj (i := i + 1) (m := m) (pl := pl) h').symm
abbrev s_Row_sort_here : Stmt := methS 29 1
theorem sc_Row_sort_here : FnScope ["self", "ahead"] ["self", "ahead"] (defScope s_Row_sort_here) := ⟨rfl, rfl, rfl, by decide +kernel, rfl, by decide +kernel, by decide +kernel⟩
abbrev s_Row_thing : Stmt := methS 29 2
theorem sc_Row_thing : FnScope ["self", "ahead"] ["self", "ahead"] (defScope s_Row_thing) := ⟨rfl, rfl, rfl, by decide +kernel, rfl, by decide +kernel, by decide +kernel⟩
abbrev s_Row_is_sign : Stmt := methS 29 3
theorem sc_Row_is_sign : FnScope ["self", "sign", "ahead"] ["self", "sign", "ahead"] (defScope s_Row_is_sign) := ⟨rfl, rfl, rfl, by decide +kernel, rfl, by decide +kernel, by decide +kernel⟩
abbrev s_Row_is_kept : Stmt := methS 29 4
theorem sc_Row_is_kept : FnScope ["self", "word", "ahead"] ["self", "word", "ahead"] (defScope s_Row_is_kept) := ⟨rfl, rfl, rfl, by decide +kernel, rfl, by decide +kernel, by decide +kernel⟩
abbrev s_Row_wrong : Stmt := methS 29 5
theorem sc_Row_wrong : FnScope ["self"] ["self"] (defScope s_Row_wrong) := ⟨rfl, rfl, rfl, by decide +kernel, rfl, by decide +kernel, by decide +kernel⟩
abbrev s_Row_step : Stmt := methS 29 6
theorem sc_Row_step : FnScope ["self", "found"] ["self"] (defScope s_Row_step) := ⟨rfl, rfl, rfl, by decide +kernel, rfl, by decide +kernel, by decide +kernel⟩
abbrev s_Row_need_sign : Stmt := methS 29 7
theorem sc_Row_need_sign : FnScope ["self", "sign"] ["self", "sign"] (defScope s_Row_need_sign) := ⟨rfl, rfl, rfl, by decide +kernel, rfl, by decide +kernel, by decide +kernel⟩
abbrev s_Row_need_name : Stmt := methS 29 8
theorem sc_Row_need_name : FnScope ["self"] ["self"] (defScope s_Row_need_name) := ⟨rfl, rfl, rfl, by decide +kernel, rfl, by decide +kernel, by decide +kernel⟩
abbrev s_Row_need_end : Stmt := methS 29 9
theorem sc_Row_need_end : FnScope ["self"] ["self"] (defScope s_Row_need_end) := ⟨rfl, rfl, rfl, by decide +kernel, rfl, by decide +kernel, by decide +kernel⟩
section
variable {P : Program} {w : World} {K : PySem.W.Frag} {mg : Str → Option Value} {base : Heap} {a_BadText C : Addr} {f : Addr} {fd : FuncData}
theorem ok_sort_here (F : FnMd K "sort_here" "Row.sort_here" s_Row_sort_here [.int 0] [] f fd) (B : BiR mg) (R : RowC K C) : FnG P w K mg base CX0 2 f fd ["self", "ahead"] (spSort K C) := by
 refine okG F sc_Row_sort_here (fun vs H Q E h => ?_) (fun cdv A outer s H vs Q E hr h => ?_)
 ·obtain ⟨r, tq, ts, i, a, m, pl, rfl, _⟩ := h
  rfl
 obtain ⟨r, tq, ts, i, a, m, pl, rfl, hR, g, hi, ha, q⟩ := h
 obtain ⟨dx, p, us, h1, h2, h3⟩ := hR.ex
 have ul := (tda_get h3).1
 have g0 := g.ne
 refine ⟨_, PSs.nox (pss_one (ps_ret (pe_ix (kIx (K := K) (r := rIx) rfl ix_seq) (pe_ix (kIx (K := K) (r := rIx) rfl ix_seq) (kFld (K := K) rfl (pe_fld (pv 0) (by rfl))) (pe_callB (call_min2 rfl) (by rfl) B.b_min (by decide +kernel) (pa_cons (pe_op (kOp (K := K) (r := uAdd) rfl opu_add) (kFld (K := K) rfl (pe_fld (pv 0) (by rfl))) (pv 1)) (pa_cons (pe_op opu_sub (pe_callB (kCall (K := K) (r := uLen) rfl callu_len) (by rfl) B.b_len (by decide +kernel) (pa_cons (kFld (K := K) rfl (pe_fld (pv 0) (by rfl))) pa_nil)) pe_int) pa_nil))) (fun _ _ => rfl)) pe_int (fun _ _ => rfl)))), rd_start (σ0 := [some (.ref r), some (.int (a : Int))]) rfl ?_⟩
 walk_at "q"
 refine ⟨r, C, dx, _, _, rfl, h1, R.cls, R.a1, rfl, ?_⟩
 walk_at "q"
 refine ⟨r, C, dx, _, _, rfl, h1, R.cls, R.a2, rfl, ?_⟩
 walk_at "q"
 refine ⟨r, C, dx, _, _, rfl, h1, R.cls, R.a1, rfl, ?_⟩
 walk_at "q"
 refine ⟨_, _, rfl, ?_⟩
 have em : (if ((us.length : Nat) : Int) - 1 < (i : Int) + (a : Int) then ((us.length : Nat) : Int) - 1 else (i : Int) + (a : Int)) = ((min (i + a) (ts.length - 1) : Nat) : Int) := by split <;> omega
 rw [em]
 obtain ⟨q0, e0, hq0, _⟩ := ths_at g h3 (i := min (i + a) (ts.length - 1)) (by omega)
 walk_at "q"
 refine g_ixL (SqL.of h2) e0 ?_
 walk_at "q"
 exact q
theorem ok_thing (F : FnMd K "thing" "Row.thing" s_Row_thing [.int 0] [] f fd) (B : BiR mg) (R : RowC K C) : FnG P w K mg base CX0 2 f fd ["self", "ahead"] (spThing K C) := by
 refine okG F sc_Row_thing (fun vs H Q E h => ?_) (fun cdv A outer s H vs Q E hr h => ?_)
 ·obtain ⟨r, tq, ts, i, a, m, pl, rfl, _⟩ := h
  rfl
 obtain ⟨r, tq, ts, i, a, m, pl, rfl, hR, g, hi, ha, q⟩ := h
 obtain ⟨dx, p, us, h1, h2, h3⟩ := hR.ex
 have ul := (tda_get h3).1
 have g0 := g.ne
 refine ⟨_, PSs.nox (pss_one (ps_ret (pe_ix (kIx (K := K) (r := rIx) rfl ix_seq) (pe_ix (kIx (K := K) (r := rIx) rfl ix_seq) (kFld (K := K) rfl (pe_fld (pv 0) (by rfl))) (pe_callB (call_min2 rfl) (by rfl) B.b_min (by decide +kernel) (pa_cons (pe_op (kOp (K := K) (r := uAdd) rfl opu_add) (kFld (K := K) rfl (pe_fld (pv 0) (by rfl))) (pv 1)) (pa_cons (pe_op opu_sub (pe_callB (kCall (K := K) (r := uLen) rfl callu_len) (by rfl) B.b_len (by decide +kernel) (pa_cons (kFld (K := K) rfl (pe_fld (pv 0) (by rfl))) pa_nil)) pe_int) pa_nil))) (fun _ _ => rfl)) pe_int (fun _ _ => rfl)))), rd_start (σ0 := [some (.ref r), some (.int (a : Int))]) rfl ?_⟩
 walk_at "q"
 refine ⟨r, C, dx, _, _, rfl, h1, R.cls, R.a1, rfl, ?_⟩
 walk_at "q"
 refine ⟨r, C, dx, _, _, rfl, h1, R.cls, R.a2, rfl, ?_⟩
 walk_at "q"
 refine ⟨r, C, dx, _, _, rfl, h1, R.cls, R.a1, rfl, ?_⟩
 walk_at "q"
 refine ⟨_, _, rfl, ?_⟩
 have em : (if ((us.length : Nat) : Int) - 1 < (i : Int) + (a : Int) then ((us.length : Nat) : Int) - 1 else (i : Int) + (a : Int)) = ((min (i + a) (ts.length - 1) : Nat) : Int) := by split <;> omega
 rw [em]
 obtain ⟨q0, e0, hq0, _⟩ := ths_at g h3 (i := min (i + a) (ts.length - 1)) (by omega)
 walk_at "q"
 refine g_ixL (SqL.of h2) e0 ?_
 walk_at "q"
 exact q
theorem ok_is_sign (F : FnMd K "is_sign" "Row.is_sign" s_Row_is_sign [.int 0] [] f fd) (M_sort_here_1 : MetG P w K mg base CX0 2 C "sort_here" [] (spSort K C)) (M_thing_1 : MetG P w K mg base CX0 2 C "thing" [] (spThing K C)) : FnG P w K mg base CX0 4 f fd ["self", "sign", "ahead"] (spIs K C "sign") := by
 refine okG F sc_Row_is_sign (fun vs H Q E h => ?_) (fun cdv A outer s H vs Q E hr h => ?_)
 ·obtain ⟨r, tq, z, ts, i, a, m, pl, rfl, _⟩ := h
  rfl
 obtain ⟨r, tq, z, ts, i, a, m, pl, rfl, hz, hR, g, hi, ha, q⟩ := h
 obtain ⟨dx, p, us, h1, h2, h3⟩ := hR.ex
 refine ⟨_, PSs.nox (pss_one (ps_ret (pe_andTK (K := K) rfl (pe_cmpR (kOp (K := K) (r := uEq) rfl (opu_eq hr.units)) (pe_metG M_sort_here_1 hr (pv 0) (pa_cons (pv 2) pa_nil)) pe_str (nomark _)) (pe_one (pe_cmpR (kOp (K := K) (r := uEq) rfl (opu_eq hr.units)) (pe_metG M_thing_1 hr (pv 0) (pa_cons (pv 2) pa_nil)) (pv 1) (nomark _)))))), rd_start (σ0 := [some (.ref r), some (.str z), some (.int (a : Int))]) rfl ?_⟩
 walk_at "q"
 refine ⟨r, dx, _, rfl, h1, rfl, ?_⟩
 walk_at "q"
 refine ⟨r, tq, ts, i, a, m, pl, rfl, hR, g, hi, ha, ?_⟩
 walk_at "q"
 have ei : isT ts (i + a) "sign" z = (decide ((th ts (i + a)).s = "sign") && decide ((th ts (i + a)).v = .str z)) := rfl
 rw [ei] at q
 have g0 := g.ne
 obtain ⟨_, _, _, hsc⟩ := ths_at g h3 (i := min (i + a) (ts.length - 1)) (by omega)
 cases h7 : decide ((th ts (i + a)).s = "sign") with
 | false =>
  rw [h7] at q
  exact q
 | true =>
  rw [h7, Bool.true_and] at q
  rw [if_pos rfl]
  walk_at "q"
  refine ⟨r, dx, _, rfl, h1, rfl, ?_⟩
  walk_at "q"
  refine ⟨r, tq, ts, i, a, m, pl, rfl, hR, g, hi, ha, ?_⟩
  walk_at "q"
  exact g_eqSc hz hsc q
theorem ok_is_kept (F : FnMd K "is_kept" "Row.is_kept" s_Row_is_kept [.int 0] [] f fd) (M_sort_here_1 : MetG P w K mg base CX0 2 C "sort_here" [] (spSort K C)) (M_thing_1 : MetG P w K mg base CX0 2 C "thing" [] (spThing K C)) : FnG P w K mg base CX0 4 f fd ["self", "word", "ahead"] (spIs K C "kept") := by
 refine okG F sc_Row_is_kept (fun vs H Q E h => ?_) (fun cdv A outer s H vs Q E hr h => ?_)
 ·obtain ⟨r, tq, z, ts, i, a, m, pl, rfl, _⟩ := h
  rfl
 obtain ⟨r, tq, z, ts, i, a, m, pl, rfl, hz, hR, g, hi, ha, q⟩ := h
 obtain ⟨dx, p, us, h1, h2, h3⟩ := hR.ex
 refine ⟨_, PSs.nox (pss_one (ps_ret (pe_andTK (K := K) rfl (pe_cmpR (kOp (K := K) (r := uEq) rfl (opu_eq hr.units)) (pe_metG M_sort_here_1 hr (pv 0) (pa_cons (pv 2) pa_nil)) pe_str (nomark _)) (pe_one (pe_cmpR (kOp (K := K) (r := uEq) rfl (opu_eq hr.units)) (pe_metG M_thing_1 hr (pv 0) (pa_cons (pv 2) pa_nil)) (pv 1) (nomark _)))))), rd_start (σ0 := [some (.ref r), some (.str z), some (.int (a : Int))]) rfl ?_⟩
 walk_at "q"
 refine ⟨r, dx, _, rfl, h1, rfl, ?_⟩
 walk_at "q"
 refine ⟨r, tq, ts, i, a, m, pl, rfl, hR, g, hi, ha, ?_⟩
 walk_at "q"
 have ei : isT ts (i + a) "kept" z = (decide ((th ts (i + a)).s = "kept") && decide ((th ts (i + a)).v = .str z)) := rfl
 rw [ei] at q
 have g0 := g.ne
 obtain ⟨_, _, _, hsc⟩ := ths_at g h3 (i := min (i + a) (ts.length - 1)) (by omega)
 cases h7 : decide ((th ts (i + a)).s = "kept") with
 | false =>
  rw [h7] at q
  exact q
 | true =>
  rw [h7, Bool.true_and] at q
  rw [if_pos rfl]
  walk_at "q"
  refine ⟨r, dx, _, rfl, h1, rfl, ?_⟩
  walk_at "q"
  refine ⟨r, tq, ts, i, a, m, pl, rfl, hR, g, hi, ha, ?_⟩
  walk_at "q"
  exact g_eqSc hz hsc q
theorem ok_wrong (F : FnMd K "wrong" "Row.wrong" s_Row_wrong [] [] f fd) (R : RowC K C) (G_BadText : ClG P w K mg base 2 "BadText" a_BadText (spI1 K "badtext" "at")) (n1 : PySem.W.findIn K (.ref a_BadText) "word" = some none) (n2 : PySem.W.findIn K (.ref a_BadText) "at" = some none) : FnG P w K mg base (L2N.CX P w) 4 f fd ["self"] (spWrong K C a_BadText) := by
 refine okXN F sc_Row_wrong (fun vs H Q E h => ?_) (fun cdv A outer s H vs Q E hr h tk => ?_)
 ·obtain ⟨r, tq, ts, i, m, pl, rfl, _⟩ := h
  rfl
 obtain ⟨r, tq, ts, i, m, pl, rfl, hR, g, hi, q⟩ := h
 obtain ⟨dx, p, us, h1, h2, h3⟩ := hR.ex
 obtain ⟨q0, e0, hq0, _⟩ := ths_at g h3 hi
 refine ⟨_, (pss_one (ps_rsN rfl tk (pmk_mkXN G_BadText hr rfl (pa_cons (pe_ix (kIx (K := K) (r := rIx) rfl ix_seq) (pe_ix (kIx (K := K) (r := rIx) rfl ix_seq) (kFld (K := K) rfl (pe_fld (pv 0) (by rfl))) (kFld (K := K) rfl (pe_fld (pv 0) (by rfl))) (fun _ _ => rfl)) pe_int (fun _ _ => rfl)) pa_nil)))), rd_start (σ0 := [some (.ref r)]) rfl ?_⟩
 walk_at "q"
 refine ⟨r, C, dx, _, _, rfl, h1, R.cls, R.a1, rfl, ?_⟩
 walk_at "q"
 refine ⟨r, C, dx, _, _, rfl, h1, R.cls, R.a2, rfl, ?_⟩
 refine g_ixL (SqL.of h2) e0 ?_
 walk_at "q"
 exact mkX_I1 G_BadText.ec n1 n2 fun d H' fr e => q d H' fr e
theorem ok_step (F : FnMd K "step" "Row.step" s_Row_step [] [] f fd) (R : RowC K C) : FnG P w K mg base CX0 4 f fd ["self"] (spStep K C) := by
 refine okG F sc_Row_step (fun vs H Q E h => ?_) (fun cdv A outer s H vs Q E hr h => ?_)
 ·obtain ⟨r, tq, ts, i, m, pl, rfl, _⟩ := h
  rfl
 obtain ⟨r, tq, ts, i, m, pl, rfl, hR, g, hi, q⟩ := h
 obtain ⟨dx, p, us, h1, h2, h3⟩ := hR.ex
 obtain ⟨q0, e0, hq0, _⟩ := ths_at g h3 hi
 refine ⟨_, PSs.nox (pss_cons (ps_set (i := 1) sc_Row_step.nd rfl (.inl rfl) (pe_ix (kIx (K := K) (r := rIx) rfl ix_seq) (pe_ix (kIx (K := K) (r := rIx) rfl ix_seq) (kFld (K := K) rfl (pe_fld (pv 0) (by rfl))) (kFld (K := K) rfl (pe_fld (pv 0) (by rfl))) (fun _ _ => rfl)) pe_int (fun _ _ => rfl)))
 (pss_cons (kFldAug (K := K) rfl (ps_fldaug (pv 0) pe_int in_add))
 (pss_one (ps_ret (pv 1))))), rd_start (σ0 := [some (.ref r), none]) rfl ?_⟩
 walk_at "q"
 refine ⟨r, C, dx, _, _, rfl, h1, R.cls, R.a1, rfl, ?_⟩
 walk_at "q"
 refine ⟨r, C, dx, _, _, rfl, h1, R.cls, R.a2, rfl, ?_⟩
 refine g_ixL (SqL.of h2) e0 ?_
 walk_at "q"
 refine ⟨r, C, dx, _, _, rfl, h1, R.cls, R.a2, rfl, ?_⟩
 walk_at "q"
 refine ⟨(i : Int), 1, rfl, rfl, dx, _, h1, by show 4 < 1000; decide, ?_⟩
 walk_at "q"
 obtain ⟨e1, r1⟩ := row_step hR h1 h2 h3
 exact q _ e1 r1
theorem ok_need_sign (F : FnMd K "need_sign" "Row.need_sign" s_Row_need_sign [] [] f fd) (R : RowC K C) (M_is_sign_1 : MetG P w K mg base CX0 4 C "is_sign" [.int 0] (spIs K C "sign")) (M_wrong_0 : MetG P w K mg base (L2N.CX P w) 4 C "wrong" [] (spWrong K C a_BadText)) : FnG P w K mg base (L2N.CX P w) 6 f fd ["self", "sign"] (spNeedS K C a_BadText) := by
 refine okXN F sc_Row_need_sign (fun vs H Q E h => ?_) (fun cdv A outer s H vs Q E hr h tk => ?_)
 ·obtain ⟨r, tq, z, ts, i, m, pl, rfl, _⟩ := h
  rfl
 obtain ⟨r, tq, z, ts, i, m, pl, rfl, hz, hR, g, hi, q, qe⟩ := h
 obtain ⟨dx, p, us, h1, h2, h3⟩ := hR.ex
 have gz := g.sz
 refine ⟨_, (pss_cons (ps_if (pt_not (pt_val (pe_metG M_is_sign_1 hr (pv 0) (pa_cons (pv 1) pa_nil)))) (pss_one (ps_expr (pe_metX0N M_wrong_0 tk hr (pv 0)))) pss_nil)
 (pss_one (kFldAug (K := K) rfl (ps_fldaug (pv 0) pe_int in_add)))), rd_start (σ0 := [some (.ref r), some (.str z)]) rfl ?_⟩
 walk_at "q"
 refine ⟨r, dx, _, rfl, h1, rfl, ?_⟩
 walk_at "q"
 refine ⟨r, tq, z, ts, i, 0, m, pl, rfl, hz, hR, g, by omega, by omega, ?_⟩
 rw [Nat.add_zero]
 walk_at "q"
 cases hs : isT ts i "sign" z with
 | false =>
  refine g_tt rfl ?_
  walk_at "q"
  refine ⟨r, dx, _, rfl, h1, rfl, ?_⟩
  walk_at "q"
  exact ⟨r, tq, ts, i, m, pl, rfl, hR, g, hi, fun d H' e hd => qe d H' hs e hd⟩
 | true =>
  refine g_ff rfl ?_
  walk_at "q"
  refine ⟨r, C, dx, _, _, rfl, h1, R.cls, R.a2, rfl, ?_⟩
  walk_at "q"
  refine ⟨(i : Int), 1, rfl, rfl, dx, _, h1, by show 4 < 1000; decide, ?_⟩
  obtain ⟨e1, r1⟩ := row_step hR h1 h2 h3
  exact q _ hs e1 r1
theorem ok_need_name (F : FnMd K "need_name" "Row.need_name" s_Row_need_name [] [] f fd) (R : RowC K C) (M_sort_here_0 : MetG P w K mg base CX0 2 C "sort_here" [.int 0] (spSort K C)) (M_wrong_0 : MetG P w K mg base (L2N.CX P w) 4 C "wrong" [] (spWrong K C a_BadText)) (M_step_0 : MetG P w K mg base CX0 4 C "step" [] (spStep K C)) : FnG P w K mg base (L2N.CX P w) 6 f fd ["self"] (spNeedN K C a_BadText) := by
 refine okXN F sc_Row_need_name (fun vs H Q E h => ?_) (fun cdv A outer s H vs Q E hr h tk => ?_)
 ·obtain ⟨r, tq, ts, i, m, pl, rfl, _⟩ := h
  rfl
 obtain ⟨r, tq, ts, i, m, pl, rfl, hR, g, hi, q, qe⟩ := h
 obtain ⟨dx, p, us, h1, h2, h3⟩ := hR.ex
 have gz := g.sz
 refine ⟨_, (pss_cons (ps_if (pt_cmpR (kOp (K := K) (r := uNe) rfl (opu_ne hr.units)) (pe_metG0 M_sort_here_0 hr (pv 0)) pe_str (nomark _)) (pss_one (ps_expr (pe_metX0N M_wrong_0 tk hr (pv 0)))) pss_nil)
 (pss_one (ps_ret (pe_metG0 M_step_0 hr (pv 0))))), rd_start (σ0 := [some (.ref r)]) rfl ?_⟩
 walk_at "q"
 refine ⟨r, dx, _, rfl, h1, rfl, ?_⟩
 walk_at "q"
 refine ⟨r, tq, ts, i, 0, m, pl, rfl, hR, g, by omega, by omega, ?_⟩
 rw [Nat.add_zero, th_tk hi]
 walk_at "q"
 refine g_byN (fun c => ?_) (fun c => ?_)
 ·walk_at "q"
  refine ⟨r, dx, _, rfl, h1, rfl, ?_⟩
  walk_at "q"
  exact ⟨r, tq, ts, i, m, pl, rfl, hR, g, hi, fun d H' e hd => qe d H' c e hd⟩
 ·walk_at "q"
  refine ⟨r, dx, _, rfl, h1, rfl, ?_⟩
  walk_at "q"
  exact ⟨r, tq, ts, i, m, pl, rfl, hR, g, hi, fun H' e hR' => q H' c e hR'⟩
theorem ok_need_end (F : FnMd K "need_end" "Row.need_end" s_Row_need_end [] [] f fd) (R : RowC K C) (M_sort_here_0 : MetG P w K mg base CX0 2 C "sort_here" [.int 0] (spSort K C)) (M_wrong_0 : MetG P w K mg base (L2N.CX P w) 4 C "wrong" [] (spWrong K C a_BadText)) : FnG P w K mg base (L2N.CX P w) 6 f fd ["self"] (spNeedE K C a_BadText) := by
 refine okXN F sc_Row_need_end (fun vs H Q E h => ?_) (fun cdv A outer s H vs Q E hr h tk => ?_)
 ·obtain ⟨r, tq, ts, i, m, pl, rfl, _⟩ := h
  rfl
 obtain ⟨r, tq, ts, i, m, pl, rfl, hR, g, hi, q, qe⟩ := h
 obtain ⟨dx, p, us, h1, h2, h3⟩ := hR.ex
 have gz := g.sz
 refine ⟨_, (pss_one (ps_if (pt_cmpR (kOp (K := K) (r := uNe) rfl (opu_ne hr.units)) (pe_metG0 M_sort_here_0 hr (pv 0)) pe_str (nomark _)) (pss_one (ps_expr (pe_metX0N M_wrong_0 tk hr (pv 0)))) pss_nil)), rd_start (σ0 := [some (.ref r)]) rfl ?_⟩
 walk_at "q"
 refine ⟨r, dx, _, rfl, h1, rfl, ?_⟩
 walk_at "q"
 refine ⟨r, tq, ts, i, 0, m, pl, rfl, hR, g, by omega, by omega, ?_⟩
 rw [Nat.add_zero, th_tk hi]
 walk_at "q"
 refine g_byN (fun c => ?_) (fun c => ?_)
 ·walk_at "q"
  refine ⟨r, dx, _, rfl, h1, rfl, ?_⟩
  walk_at "q"
  exact ⟨r, tq, ts, i, m, pl, rfl, hR, g, hi, fun d H' e hd => qe d H' c e hd⟩
 ·walk_at "q"
  exact q _ c Fr.refl
end
abbrev Res := Except Nat (PyData × Nat)
def valD (t : Th) : PyData := .tuple [.str "value", scD t.v]
def varD (t : Th) : PyData := .tuple [.str "var", scD t.v]
def LeafR (ts : List Th) (mine ok : Bool) (rc : Nat → Res → Prop) (i : Nat) (r : Res) : Prop :=
 if (tkn ts i).s = "value" then r = .ok (valD (tkn ts i), i + 1)
 else if (tkn ts i).s = "name" ∨ (mine = true ∧ isT ts i "kept" "me" = true) then r = .ok (varD (tkn ts i), i + 1)
 else if isT ts i "sign" "(" = false ∨ ok = false then r = .error i
 else (∃ e, rc (i + 1) (.error e) ∧ r = .error e) ∨ ∃ d j, rc (i + 1) (.ok (d, j)) ∧ r = if isT ts j "sign" ")" = true then .ok (d, j + 1) else .error j
inductive LoopR (ts : List Th) (sg : List Str) (lf : Nat → Res → Prop) : PyData → Nat → Res → Prop
 | stop {d : PyData} {i : Nat} : (∀ s ∈ sg, isT ts i "sign" s = false) → LoopR ts sg lf d i (.ok (d, i))
 | bad {d : PyData} {i e : Nat} {s : Str} : s ∈ sg → isT ts i "sign" s = true → lf (i + 1) (.error e) → LoopR ts sg lf d i (.error e)
 | step {d d2 : PyData} {i j : Nat} {s : Str} {r : Res} : s ∈ sg → isT ts i "sign" s = true → lf (i + 1) (.ok (d2, j)) → LoopR ts sg lf (.tuple [.str s, d, d2]) j r → LoopR ts sg lf d i r
def ChainR (ts : List Th) (sg : List Str) (lf : Nat → Res → Prop) (i : Nat) (r : Res) : Prop := (∃ e, lf i (.error e) ∧ r = .error e) ∨ ∃ d j, lf i (.ok (d, j)) ∧ LoopR ts sg lf d j r
def ProdR (ts : List Th) (lf : Nat → Res → Prop) : Nat → Res → Prop := ChainR ts ["*"] lf
def SumR (ts : List Th) (lf : Nat → Res → Prop) : Nat → Res → Prop := ChainR ts ["+", "-"] (ProdR ts lf)
def SumN (ts : List Th) (m : Bool) : Nat → Nat → Res → Prop
 | 0 => SumR ts (LeafR ts m false fun _ _ => False)
 | n + 1 => SumR ts (LeafR ts m true (SumN ts m n))
def LeafN (ts : List Th) (m : Bool) : Nat → Nat → Res → Prop
 | 0 => LeafR ts m false fun _ _ => False
 | n + 1 => LeafR ts m true (SumN ts m n)
theorem sumN_eq (ts : List Th) (m : Bool) (n : Nat) : SumN ts m n = SumR ts (LeafN ts m n) := by cases n <;> rfl
theorem GoodTs.next {ts : List Th} (g : GoodTs ts) {i : Nat} (hi : i < ts.length) (h : (tkn ts i).s ≠ "end") : i + 1 < ts.length := by
 have e1 : ts[i]? = some ts[i] := List.getElem?_eq_getElem hi
 have et : tkn ts i = ts[i] := by unfold tkn; rw [List.getD_eq_getElem?_getD, e1]; rfl
 have : ¬ (i + 1 = ts.length) := fun z => h (by rw [et]; exact (g.en i _ e1).mpr z)
 omega
def RdOk (K : PySem.W.Frag) (C B : Addr) (R : Nat → Res → Prop) (H : Hp) (r tq : Addr) (ts : List Th) (i : Nat) (m pl : Bool) (Q : VK) (E : XK) : Prop :=
 (∀ d j v H', R i (.ok (d, j)) → j < ts.length → Fr [r] H H' → RowAt K C H' r tq ts j m pl → Td K H' v d → Q v H') ∧ ∀ e dd H', R i (.error e) → e < ts.length → Fr [r] H H' → H' dd = some (.xd (badAt (tkn ts e).n)) → E (.ref B) (some dd) H'
def spRdN (K : PySem.W.Frag) (C B : Addr) (R : List Th → Bool → Nat → Nat → Res → Prop) (n : Nat) : Sp := fun vs H Q E => ∃ (r tq : Addr) (ts : List Th) (i : Nat) (m pl : Bool), vs = [.ref r, .int ((12 : Int) - n)] ∧ RowAt K C H r tq ts i m pl ∧ GoodTs ts ∧ i < ts.length ∧ RdOk K C B (R ts m n) H r tq ts i m pl Q E
def spPrev (K : PySem.W.Frag) (C B : Addr) : Nat → Sp
 | 0 => fun _ _ _ _ => False
 | n + 1 => spRdN K C B SumN n
abbrev z_MOST_DEEP : Int := 12
abbrev s_read_leaf : Stmt := topS 30
theorem sc_read_leaf : FnScope ["row", "deep", "found"] ["row", "deep"] (defScope s_read_leaf) := ⟨rfl, rfl, rfl, by decide +kernel, rfl, by decide +kernel, by decide +kernel⟩
abbrev s_read_product : Stmt := topS 31
theorem sc_read_product : FnScope ["row", "deep", "found"] ["row", "deep"] (defScope s_read_product) := ⟨rfl, rfl, rfl, by decide +kernel, rfl, by decide +kernel, by decide +kernel⟩
abbrev s_read_sum : Stmt := topS 32
theorem sc_read_sum : FnScope ["row", "deep", "found", "sign"] ["row", "deep"] (defScope s_read_sum) := ⟨rfl, rfl, rfl, by decide +kernel, rfl, by decide +kernel, by decide +kernel⟩
structure RowM (P : Program) (w : World) (K : PySem.W.Frag) (mg : Str → Option Value) (base : Heap) (C B : Addr) : Prop where
 sh0 : MetG P w K mg base CX0 2 C "sort_here" [.int 0] (spSort K C)
 th0 : MetG P w K mg base CX0 2 C "thing" [.int 0] (spThing K C)
 is1 : MetG P w K mg base CX0 4 C "is_sign" [.int 0] (spIs K C "sign")
 is2 : MetG P w K mg base CX0 4 C "is_sign" [] (spIs K C "sign")
 ik1 : MetG P w K mg base CX0 4 C "is_kept" [.int 0] (spIs K C "kept")
 ik2 : MetG P w K mg base CX0 4 C "is_kept" [] (spIs K C "kept")
 wr : MetG P w K mg base (L2N.CX P w) 4 C "wrong" [] (spWrong K C B)
 st : MetG P w K mg base CX0 4 C "step" [] (spStep K C)
 ns : MetG P w K mg base (L2N.CX P w) 6 C "need_sign" [] (spNeedS K C B)
 nn : MetG P w K mg base (L2N.CX P w) 6 C "need_name" [] (spNeedN K C B)
 ne : MetG P w K mg base (L2N.CX P w) 6 C "need_end" [] (spNeedE K C B)
section
variable {K : PySem.W.Frag} {C B : Addr} {H : Hp} {σ : L2.St} {r tq : Addr} {ts : List Th} {i i0 : Nat} {m pl : Bool} {Q : VK} {z : Str} {W : WX}
theorem m_sh0 (h0 : σ[i0]? = some (some (.ref r))) (hR : RowAt K C H r tq ts i m pl) (g : GoodTs ts) (hi : i < ts.length) (q : Q (.str (tkn ts i).s) H) : tMetX C "sort_here" (spSort K C) [.int 0] (fun _ => E0) (tVar i0) tNil σ H Q := by
 obtain ⟨dx, p, us, h1, _⟩ := hR.ex
 have gz := g.sz
 exact g_met (g_var h0 ⟨r, dx, _, rfl, h1, rfl, g_nil ⟨r, tq, ts, i, 0, m, pl, rfl, hR, g, by omega, by omega, by rw [Nat.add_zero, th_tk hi]; exact q⟩⟩)
theorem m_th0 (h0 : σ[i0]? = some (some (.ref r))) (hR : RowAt K C H r tq ts i m pl) (g : GoodTs ts) (hi : i < ts.length) (q : Q (tkn ts i).v H) : tMetX C "thing" (spThing K C) [.int 0] (fun _ => E0) (tVar i0) tNil σ H Q := by
 obtain ⟨dx, p, us, h1, _⟩ := hR.ex
 have gz := g.sz
 exact g_met (g_var h0 ⟨r, dx, _, rfl, h1, rfl, g_nil ⟨r, tq, ts, i, 0, m, pl, rfl, hR, g, by omega, by omega, by rw [Nat.add_zero, th_tk hi]; exact q⟩⟩)
theorem m_is1 (h0 : σ[i0]? = some (some (.ref r))) (hz : PyData.strOk z = true) (hR : RowAt K C H r tq ts i m pl) (g : GoodTs ts) (hi : i < ts.length) (q : Q (.bl (isT ts i "sign" z)) H) : tMetX C "is_sign" (spIs K C "sign") [.int 0] (fun _ => E0) (tVar i0) (tCons (tC (.str z)) tNil) σ H Q := by
 obtain ⟨dx, p, us, h1, _⟩ := hR.ex
 have gz := g.sz
 exact g_met (g_var h0 ⟨r, dx, _, rfl, h1, rfl, g_cons (g_c (g_nil ⟨r, tq, z, ts, i, 0, m, pl, rfl, hz, hR, g, by omega, by omega, by rw [Nat.add_zero]; exact q⟩))⟩)
theorem m_ik1 (h0 : σ[i0]? = some (some (.ref r))) (hz : PyData.strOk z = true) (hR : RowAt K C H r tq ts i m pl) (g : GoodTs ts) (hi : i < ts.length) (q : Q (.bl (isT ts i "kept" z)) H) : tMetX C "is_kept" (spIs K C "kept") [.int 0] (fun _ => E0) (tVar i0) (tCons (tC (.str z)) tNil) σ H Q := by
 obtain ⟨dx, p, us, h1, _⟩ := hR.ex
 have gz := g.sz
 exact g_met (g_var h0 ⟨r, dx, _, rfl, h1, rfl, g_cons (g_c (g_nil ⟨r, tq, z, ts, i, 0, m, pl, rfl, hz, hR, g, by omega, by omega, by rw [Nat.add_zero]; exact q⟩))⟩)
theorem m_is2 (h0 : σ[i0]? = some (some (.ref r))) (hz : PyData.strOk z = true) (hR : RowAt K C H r tq ts i m pl) (g : GoodTs ts) (hi : i < ts.length) (q : Q (.bl (isT ts (i + 1) "sign" z)) H) : tMetX C "is_sign" (spIs K C "sign") [] (fun _ => E0) (tVar i0) (tCons (tC (.str z)) (tCons (tC (.int 1)) tNil)) σ H Q := by
 obtain ⟨dx, p, us, h1, _⟩ := hR.ex
 have gz := g.sz
 exact g_met (g_var h0 ⟨r, dx, _, rfl, h1, rfl, g_cons (g_c (g_cons (g_c (g_nil ⟨r, tq, z, ts, i, 1, m, pl, rfl, hz, hR, g, by omega, by omega, q⟩))))⟩)
theorem m_ik2 (h0 : σ[i0]? = some (some (.ref r))) (hz : PyData.strOk z = true) (hR : RowAt K C H r tq ts i m pl) (g : GoodTs ts) (hi : i < ts.length) (q : Q (.bl (isT ts (i + 1) "kept" z)) H) : tMetX C "is_kept" (spIs K C "kept") [] (fun _ => E0) (tVar i0) (tCons (tC (.str z)) (tCons (tC (.int 1)) tNil)) σ H Q := by
 obtain ⟨dx, p, us, h1, _⟩ := hR.ex
 have gz := g.sz
 exact g_met (g_var h0 ⟨r, dx, _, rfl, h1, rfl, g_cons (g_c (g_cons (g_c (g_nil ⟨r, tq, z, ts, i, 1, m, pl, rfl, hz, hR, g, by omega, by omega, q⟩))))⟩)
theorem m_st (h0 : σ[i0]? = some (some (.ref r))) (hR : RowAt K C H r tq ts i m pl) (g : GoodTs ts) (hi : i < ts.length) (q : ∀ H', Fr [r] H H' → RowAt K C H' r tq ts (i + 1) m pl → Q (tkn ts i).v H') : tMetX C "step" (spStep K C) [] (fun _ => E0) (tVar i0) tNil σ H Q := by
 obtain ⟨dx, p, us, h1, _⟩ := hR.ex
 exact g_met (g_var h0 ⟨r, dx, _, rfl, h1, rfl, g_nil ⟨r, tq, ts, i, m, pl, rfl, hR, g, hi, q⟩⟩)
theorem m_wr (h0 : σ[i0]? = some (some (.ref r))) (hR : RowAt K C H r tq ts i m pl) (g : GoodTs ts) (hi : i < ts.length) (q : ∀ d H', Fr [] H H' → H' d = some (.xd (badAt (tkn ts i).n)) → WE W σ (.ref B) (some d) H') : tMetX C "wrong" (spWrong K C B) [] (WE W) (tVar i0) tNil σ H Q := by
 obtain ⟨dx, p, us, h1, _⟩ := hR.ex
 exact g_met (g_var h0 ⟨r, dx, _, rfl, h1, rfl, g_nil ⟨r, tq, ts, i, m, pl, rfl, hR, g, hi, q⟩⟩)
theorem m_ns (h0 : σ[i0]? = some (some (.ref r))) (hz : PyData.strOk z = true) (hR : RowAt K C H r tq ts i m pl) (g : GoodTs ts) (hi : i < ts.length) (q : ∀ H', isT ts i "sign" z = true → Fr [r] H H' → RowAt K C H' r tq ts (i + 1) m pl → Q .non H')
  (qe : ∀ d H', isT ts i "sign" z = false → Fr [] H H' → H' d = some (.xd (badAt (tkn ts i).n)) → WE W σ (.ref B) (some d) H') : tMetX C "need_sign" (spNeedS K C B) [] (WE W) (tVar i0) (tCons (tC (.str z)) tNil) σ H Q := by
 obtain ⟨dx, p, us, h1, _⟩ := hR.ex
 exact g_met (g_var h0 ⟨r, dx, _, rfl, h1, rfl, g_cons (g_c (g_nil ⟨r, tq, z, ts, i, m, pl, rfl, hz, hR, g, hi, q, qe⟩))⟩)
theorem m_nn (h0 : σ[i0]? = some (some (.ref r))) (hR : RowAt K C H r tq ts i m pl) (g : GoodTs ts) (hi : i < ts.length) (q : ∀ H', (tkn ts i).s = "name" → Fr [r] H H' → RowAt K C H' r tq ts (i + 1) m pl → Q (tkn ts i).v H')
  (qe : ∀ d H', (tkn ts i).s ≠ "name" → Fr [] H H' → H' d = some (.xd (badAt (tkn ts i).n)) → WE W σ (.ref B) (some d) H') : tMetX C "need_name" (spNeedN K C B) [] (WE W) (tVar i0) tNil σ H Q := by
 obtain ⟨dx, p, us, h1, _⟩ := hR.ex
 exact g_met (g_var h0 ⟨r, dx, _, rfl, h1, rfl, g_nil ⟨r, tq, ts, i, m, pl, rfl, hR, g, hi, q, qe⟩⟩)
theorem m_ne (h0 : σ[i0]? = some (some (.ref r))) (hR : RowAt K C H r tq ts i m pl) (g : GoodTs ts) (hi : i < ts.length) (q : ∀ H', (tkn ts i).s = "end" → Fr [] H H' → Q .non H')
  (qe : ∀ d H', (tkn ts i).s ≠ "end" → Fr [] H H' → H' d = some (.xd (badAt (tkn ts i).n)) → WE W σ (.ref B) (some d) H') : tMetX C "need_end" (spNeedE K C B) [] (WE W) (tVar i0) tNil σ H Q := by
 obtain ⟨dx, p, us, h1, _⟩ := hR.ex
 exact g_met (g_var h0 ⟨r, dx, _, rfl, h1, rfl, g_nil ⟨r, tq, ts, i, m, pl, rfl, hR, g, hi, q, qe⟩⟩)
theorem isT_s {ts : List Th} {i : Nat} {s z : Str} (h : isT ts i s z = true) (hi : i < ts.length) : (tkn ts i).s = s ∧ (tkn ts i).v = .str z := by
 unfold isT at h
 rw [th_tk hi] at h
 have h2 := Bool.and_eq_true_iff.mp h
 exact ⟨of_decide_eq_true h2.1, of_decide_eq_true h2.2⟩
end
local macro_rules | `(tactic| walk_at "rd") => `(tactic| first
 | ((with_reducible show (if _ = true then _ else _)); first | ((with_reducible refine g_tt ?h0 ?_); (case h0 => decide +kernel)) | ((with_reducible refine g_ff ?h0 ?_); (case h0 => decide +kernel)))
 | ((fail_if_success (with_reducible show (if _ = true then _ else _))); (fail_if_success (with_reducible show _ ≤ _ ∧ _)); (first
 | with_reducible refine g_seq ?_
 | ((with_reducible show tVar _ _ _ _); refine g_var rfl ?_)
 | with_reducible refine g_c ?_
 | with_reducible refine g_op ?_
 | with_reducible refine g_asg ?_
 | with_reducible refine g_name ?_
 | with_reducible refine g_if ?_
 | with_reducible refine g_test ?_
 | with_reducible refine g_k ?_
 | with_reducible refine g_ret ?_
 | with_reducible refine g_next ?_
 | with_reducible refine g_cons ?_
 | with_reducible refine g_nil ?_
 | with_reducible refine g_call ?_
 | with_reducible refine g_cb ?_
 | with_reducible refine g_ckw ?_
 | with_reducible refine g_fld ?_
 | with_reducible refine m_sh0 rfl (by assumption) (by assumption) (by assumption) ?_
 | with_reducible refine m_th0 rfl (by assumption) (by assumption) (by assumption) ?_
 | with_reducible refine m_is1 rfl (by decide +kernel) (by assumption) (by assumption) (by assumption) ?_
 | with_reducible refine m_ik1 rfl (by decide +kernel) (by assumption) (by assumption) (by assumption) ?_
 | with_reducible refine m_is2 rfl (by decide +kernel) (by assumption) (by assumption) (by assumption) ?_
 | with_reducible refine m_ik2 rfl (by decide +kernel) (by assumption) (by assumption) (by assumption) ?_
 | with_reducible refine g_sfld ?_
 | with_reducible refine g_fldaug ?_
 | with_reducible refine g_addI ?_
 | with_reducible refine g_subI ?_
 | with_reducible refine g_ltI ?_
 | with_reducible refine g_leI ?_
 | with_reducible refine g_gtI ?_
 | with_reducible refine g_geI ?_
 | with_reducible refine g_eqI ?_
 | with_reducible refine g_eqS ?_
 | with_reducible refine g_eqB ?_
 | with_reducible refine g_neI ?_
 | with_reducible refine g_neS ?_
 | with_reducible refine g_neB ?_
 | ((with_reducible refine g_mulI ?h0 ?_); (case h0 => first | exact mulR (by decide) (by decide) | exact mulL (by decide) (by decide) | exact mulR (by omega) (by omega) | exact mulL (by omega) (by omega)))
 | ((with_reducible refine g_modI ?h0 ?_); (case h0 => first | decide | omega))
 | ((with_reducible refine g_divI ?h0 ?_); (case h0 => first | exact divS (by decide) (by decide) | exact divS (by omega) (by omega)))
 | ((with_reducible refine g_powI ?h0 ?_); (case h0 => exact ⟨by decide +kernel, by decide +kernel, by decide +kernel⟩))
 | ((with_reducible show rIx _ (V.ref _) (V.int _) _ _); refine g_ixL (by first | assumption | exact SqL.of (by assumption)) (by exact rfl) ?_)
 | ((with_reducible show rIx _ (V.ref _) (V.int _) _ _); refine g_ixT (by first | assumption | exact SqT.of (by assumption)) (by exact rfl) ?_)
 | ((with_reducible show uLen _ [V.ref _] _ _); first | refine g_len (.inl (SqL.of (by assumption))) ?_ | refine g_len (.inl (by assumption)) ?_ | refine g_len (.inr (by assumption)) ?_ | refine g_len (.inr (SqT.of (by assumption))) ?_)
 | with_reducible refine g_dget ?_
 | with_reducible refine g_dput ?_
 | with_reducible refine g_bm ?_
 | with_reducible refine g_bm0 ?_
 | with_reducible refine g_tyS ?_
 | ((with_reducible show tyV _ "list" (V.ref _) _ ∧ _); refine g_tyL (by first | assumption | exact SqL.of (by assumption)) ?_)
 | with_reducible refine g_pairs ?_
 | with_reducible refine g_pairs0 ?_
 | with_reducible refine g_for ?_
 | with_reducible refine g_iR1 ?_
 | with_reducible refine g_iR2 ?_
 | with_reducible refine g_iL ?_
 | with_reducible refine g_iT ?_
 | with_reducible refine g_lc ?_
 | with_reducible refine g_lc2 ?_
 | with_reducible refine g_dc ?_
 | with_reducible refine g_din ?_
 | with_reducible refine g_listRg ?_
 | with_reducible refine g_rg1 ?_
 | with_reducible refine g_izA ?_
 | with_reducible refine g_iz ?_
 | ((with_reducible show gTup _ _ _ (V.ref _) _ _ _); first | refine g_gtup (SqT.of upd_same) rfl ?_ | refine g_gtup (by first | assumption | exact SqT.of (by assumption)) rfl ?_)
 | with_reducible refine g_gcons ?_
 | with_reducible refine g_gnil ?_
 | with_reducible refine g_yes ?_
 | with_reducible refine g_andT ?_
 | with_reducible refine g_orT ?_
 | with_reducible refine g_notT ?_
 | with_reducible refine g_truB ?_
 | with_reducible refine g_and ?_
 | with_reducible refine g_or ?_
 | with_reducible refine g_not ?_
 | with_reducible refine g_ifE ?_
 | with_reducible refine g_B ?_
 | with_reducible refine g_un ?_
 | with_reducible refine g_sub ?_
 | with_reducible refine g_drop ?_
 | with_reducible refine g_sl ?_
 | with_reducible refine g_noPart ?_
 | with_reducible refine g_part ?_
 | with_reducible refine g_ki ?_
 | with_reducible refine g_fs ?_
 | with_reducible refine g_js0 ?_
 | with_reducible refine g_js ?_
 | with_reducible refine g_fmt ?_
 | with_reducible refine g_is ?_
 | with_reducible refine g_isNot ?_
 | with_reducible refine g_chain ?_
 | with_reducible refine g_istr ?_
 | with_reducible refine g_rU ?_
 | with_reducible refine g_leS ?_
 | with_reducible refine g_vei ?_
 | with_reducible refine g_dc2 ?_
 | with_reducible refine g_ienT ?_
 | with_reducible refine g_ost ?_
 | with_reducible refine g_xat ?_
 | with_reducible refine g_xs ?_
 | with_reducible refine g_mkE ?_
 | with_reducible refine g_rs ?_
 | with_reducible refine g_mkX ?_
 | with_reducible refine g_try ?_
 | with_reducible refine g_callS ?_
 | with_reducible refine g_makeX ?_
 | (with_reducible refine g_tup ?_)
 | (with_reducible refine g_lst ?_))))
local macro_rules | `(tactic| walk_at "sz") => `(tactic| (refine le_of ?_; (try simp only [app_len, lit_q, lit_lp, lit_rp, lit_sp, lit_cs, lit_not, lit_is, lit_if, lit_e, lit_dot]); omega))
local macro_rules | `(tactic| walk_at "rdfs") => `(tactic| first
 | walk_at "rd"
 | (refine g_fmtS ?hz ?_; (case hz => walk_at "sz"))
 | (refine g_jsS ?hz ?_; (case hz => walk_at "sz"))
 | (refine g_addS ?hz ?_; (case hz => walk_at "sz")))
local macro_rules | `(tactic| walk_at "rdif") => `(tactic| ((fail_if_success (with_reducible refine g_seqIf _ _ _ _ _ _ _ ?_)); walk_at "rd"))
def PrevN (ts : List Th) (m : Bool) : Nat → Nat → Res → Prop
 | 0 => fun _ _ => False
 | n + 1 => SumN ts m n
theorem leafN_eq (ts : List Th) (m : Bool) (n : Nat) : LeafN ts m n = LeafR ts m (decide (n ≠ 0)) (PrevN ts m n) := by cases n <;> rfl
theorem g_sc {ts : List Th} {i : Nat} (g : GoodTs ts) (hi : i < ts.length) : isSc (tkn ts i).v = true := by
 have e1 : ts[i]? = some ts[i] := List.getElem?_eq_getElem hi
 have et : tkn ts i = ts[i] := by unfold tkn; rw [List.getD_eq_getElem?_getD, e1]; rfl
 rw [et]
 exact g.sc _ (List.getElem_mem _)
section
variable {P : Program} {w : World} {K : PySem.W.Frag} {mg : Str → Option Value} {base : Heap} {a_BadText C : Addr} {f : Addr} {fd : FuncData}
theorem ok_read_leaf {n : Nat} (F : FnP K "read_leaf" s_read_leaf f fd) (R : RowC K C) (M : RowM P w K mg base C a_BadText) (GD : ∃ t, mg "MOST_DEEP" = some (.int z_MOST_DEEP t)) (C_read_sum : CalXN P w K mg base (3 * n + 9) "read_sum" (spPrev K C a_BadText n)) : FnG P w K mg base (L2N.CX P w) (3 * n + 10) f fd ["row", "deep"] (spRdN K C a_BadText LeafN n) := by
 refine okXN F sc_read_leaf (fun vs H Q E h => ?_) (fun cdv A outer s H vs Q E hr h tk => ?_)
 ·obtain ⟨r, tq, ts, i, m, pl, rfl, _⟩ := h
  rfl
 obtain ⟨r, tq, ts, i, m, pl, rfl, hR, g, hi, q, qe⟩ := h
 obtain ⟨tD, g_MOST_DEEP⟩ := GD
 have M_sort_here_0 := M.sh0
 have M_is_kept_1 := M.ik1
 have M_is_sign_1 := M.is1
 have M_wrong_0 := M.wr
 have M_step_0 := M.st
 have M_need_sign_1 := M.ns
 have gz := g.sz
 refine ⟨_, (pss_cons (ps_if (pt_cmpR (kOp (K := K) (r := uEq) rfl (opu_eq hr.units)) (pe_metG0 M_sort_here_0 hr (pv 0)) pe_str (nomark _)) (pss_one (ps_ret (pe_tup (pa_cons pe_str (pa_cons (pe_metG0 M_step_0 hr (pv 0)) pa_nil))))) pss_nil)
 (pss_cons (ps_if (PW.pt (pw_or (pt_cmpR (kOp (K := K) (r := uEq) rfl (opu_eq hr.units)) (pe_metG0 M_sort_here_0 hr (pv 0)) pe_str (nomark _)) (pw_or1 (PW.pt (pw_and (pt_val (kFld (K := K) rfl (pe_fld (pv 0) (by rfl)))) (pw_and1 (pt_val (pe_metG M_is_kept_1 hr (pv 0) (pa_cons pe_str pa_nil))))))))) (pss_one (ps_ret (pe_tup (pa_cons pe_str (pa_cons (pe_metG0 M_step_0 hr (pv 0)) pa_nil))))) pss_nil)
 (pss_cons (ps_if (PW.pt (pw_or (pt_not (pt_val (pe_metG M_is_sign_1 hr (pv 0) (pa_cons pe_str pa_nil)))) (pw_or1 (pt_cmpR opu_ge (pv 1) (pe_glob (v := .int z_MOST_DEEP) rfl g_MOST_DEEP ⟨_, rfl⟩) (nomark _))))) (pss_one (ps_expr (pe_metX0N M_wrong_0 tk hr (pv 0)))) pss_nil)
 (pss_cons (ps_expr (pe_metG0 M_step_0 hr (pv 0)))
 (pss_cons (ps_set (i := 2) sc_read_leaf.nd rfl (.inl rfl) (pe_calXN C_read_sum tk hr rfl (pa_cons (pv 0) (pa_cons (pe_op (kOp (K := K) (r := uAdd) rfl opu_add) (pv 1) pe_int) pa_nil))))
 (pss_cons (ps_expr (pe_metXN M_need_sign_1 tk hr (pv 0) (pa_cons pe_str pa_nil)))
 (pss_one (ps_ret (pv 2))))))))), rd_start (σ0 := [some (.ref r), some (.int ((12 : Int) - n)), none]) rfl ?_⟩
 rw [leafN_eq] at q qe
 have ed : decide ((12 : Int) ≤ 12 - n) = !decide (n ≠ 0) := by
  by_cases h : n = 0
  ·subst h; rfl
  ·rw [decide_eq_true h, decide_eq_false (by omega)]; rfl
 repeat walk_at "rd"
 refine g_by (fun c1 => ?_) (fun c1 => ?_)
 ·repeat walk_at "rd"
  refine m_st rfl hR g hi fun H1 e1 hR1 => ?_
  repeat walk_at "rd"
  refine ⟨le_of (by simp), fun t ht => ?_⟩
  have hn := g.next hi (by rw [c1]; decide +kernel)
  exact q _ (i + 1) _ _ (by unfold LeafR; rw [if_pos c1]; rfl) hn (e1.trans (Fr.new ht)) (hR1.fr (M := []) (Fr.new ht)) (.tup (SqT.of upd_same) (.cons (.str _) (.cons (sc_td (g_sc g hi)) .nil)))
 ·have var : ((tkn ts i).s = "name" ∨ (m = true ∧ isT ts i "kept" "me" = true)) → ∀ t H1 H2, Fr [r] H H1 → RowAt K C H1 r tq ts (i + 1) m pl → H1 t = none → H2 = upd H1 t (.tup [.str "var", (tkn ts i).v]) → Q (.ref t) H2 := fun hc t H1 H2 e1 hR1 ht e2 => by
   subst e2
   have hn := g.next hi (fun z => by
    rcases hc with h | h
    ·rw [h] at z; exact absurd z (by decide +kernel)
    ·rw [(isT_s h.2 hi).1] at z; exact absurd z (by decide +kernel))
   exact q _ (i + 1) _ _ (by unfold LeafR; rw [if_neg c1, if_pos hc]; rfl) hn (e1.trans (Fr.new ht)) (hR1.fr (M := []) (Fr.new ht)) (.tup (SqT.of upd_same) (.cons (.str _) (.cons (sc_td (g_sc g hi)) .nil)))
  repeat walk_at "rd"
  refine g_by (fun c2 => ?_) (fun c2 => ?_)
  ·repeat walk_at "rd"
   refine m_st rfl hR g hi fun H1 e1 hR1 => ?_
   repeat walk_at "rd"
   exact ⟨le_of (by simp), fun t ht => var (.inl c2) t H1 _ e1 hR1 ht rfl⟩
  ·repeat walk_at "rd"
   obtain ⟨dx, p, us, h1, _⟩ := hR.ex
   refine ⟨r, C, dx, _, _, rfl, h1, R.cls, R.a3, rfl, ?_⟩
   repeat walk_at "rd"
   refine g_byB (fun c3 => ?_) (fun c3 => ?_)
   ·repeat walk_at "rd"
    refine g_byB (fun c4 => ?_) (fun c4 => ?_)
    ·repeat walk_at "rd"
     refine m_st rfl hR g hi fun H1 e1 hR1 => ?_
     repeat walk_at "rd"
     exact ⟨le_of (by simp), fun t ht => var (.inr ⟨c3, c4⟩) t H1 _ e1 hR1 ht rfl⟩
    ·have cn : ¬ ((tkn ts i).s = "name" ∨ (m = true ∧ isT ts i "kept" "me" = true)) := by
      rintro (h | h)
      ·exact c2 h
      ·rw [c4] at h; exact absurd h.2 Bool.false_ne_true
     repeat walk_at "rd"
     cases c5 : isT ts i "sign" "(" with
     | false =>
      refine g_tt rfl ?_
      repeat walk_at "rd"
      exact m_wr rfl hR g hi fun d H' e hd => qe i d H' (by unfold LeafR; rw [if_neg c1, if_neg cn, if_pos (.inl c5)]) hi e.nil hd
     | true =>
      refine g_ff rfl ?_
      repeat walk_at "rd"
      rw [ed]
      cases n with
      | zero =>
       refine g_tt rfl ?_
       repeat walk_at "rd"
       exact m_wr rfl hR g hi fun d H' e hd => qe i d H' (by unfold LeafR; rw [if_neg c1, if_neg cn, if_pos (.inr rfl)]) hi e.nil hd
      | succ k =>
       refine g_ff rfl ?_
       have hn := g.next hi (by rw [(isT_s c5 hi).1]; decide +kernel)
       have cp : ¬ (isT ts i "sign" "(" = false ∨ decide (k + 1 ≠ 0) = false) := by rw [c5, decide_eq_true (Nat.succ_ne_zero k)]; decide
       repeat walk_at "rd"
       refine m_st rfl hR g hi fun H1 e1 hR1 => ?_
       repeat walk_at "rd"
       refine ⟨r, tq, ts, i + 1, m, pl, by rw [show ((12 : Int) - ((k + 1 : Nat) : Int) + 1) = 12 - (k : Int) by omega], hR1, g, hn, fun d j v H2 hs hj e2 hR2 td => ?_, fun e dd H2 hs he e2 hd => ?_⟩
       ·repeat walk_at "rd"
        refine m_ns rfl (by decide +kernel) hR2 g hj (fun H3 hs3 e3 hR3 => ?_) (fun dd H3 hs3 e3 hd => ?_)
        ·repeat walk_at "rd"
         exact q d (j + 1) v H3 (by unfold LeafR; rw [if_neg c1, if_neg cn, if_neg cp]; exact .inr ⟨d, j, hs, by rw [if_pos hs3]⟩) (g.next hj (by rw [(isT_s hs3 hj).1]; decide +kernel)) ((e1.trans e2).trans e3) hR3 (td.fr e3)
        ·exact qe j dd H3 (by unfold LeafR; rw [if_neg c1, if_neg cn, if_neg cp]; exact .inr ⟨d, j, hs, by rw [if_neg (by rw [hs3]; exact Bool.false_ne_true)]⟩) hj ((e1.trans e2).trans e3.nil) hd
       ·exact qe e dd H2 (by unfold LeafR; rw [if_neg c1, if_neg cn, if_neg cp]; exact .inl ⟨e, hs, rfl⟩) he (e1.trans e2) hd
   ·have cn : ¬ ((tkn ts i).s = "name" ∨ (m = true ∧ isT ts i "kept" "me" = true)) := by
     rintro (h | h)
     ·exact c2 h
     ·rw [c3] at h; exact absurd h.1 Bool.false_ne_true
    repeat walk_at "rd"
    cases c5 : isT ts i "sign" "(" with
    | false =>
     refine g_tt rfl ?_
     repeat walk_at "rd"
     exact m_wr rfl hR g hi fun d H' e hd => qe i d H' (by unfold LeafR; rw [if_neg c1, if_neg cn, if_pos (.inl c5)]) hi e.nil hd
    | true =>
     refine g_ff rfl ?_
     repeat walk_at "rd"
     rw [ed]
     cases n with
     | zero =>
      refine g_tt rfl ?_
      repeat walk_at "rd"
      exact m_wr rfl hR g hi fun d H' e hd => qe i d H' (by unfold LeafR; rw [if_neg c1, if_neg cn, if_pos (.inr rfl)]) hi e.nil hd
     | succ k =>
      refine g_ff rfl ?_
      have hn := g.next hi (by rw [(isT_s c5 hi).1]; decide +kernel)
      have cp : ¬ (isT ts i "sign" "(" = false ∨ decide (k + 1 ≠ 0) = false) := by rw [c5, decide_eq_true (Nat.succ_ne_zero k)]; decide
      repeat walk_at "rd"
      refine m_st rfl hR g hi fun H1 e1 hR1 => ?_
      repeat walk_at "rd"
      refine ⟨r, tq, ts, i + 1, m, pl, by rw [show ((12 : Int) - ((k + 1 : Nat) : Int) + 1) = 12 - (k : Int) by omega], hR1, g, hn, fun d j v H2 hs hj e2 hR2 td => ?_, fun e dd H2 hs he e2 hd => ?_⟩
      ·repeat walk_at "rd"
       refine m_ns rfl (by decide +kernel) hR2 g hj (fun H3 hs3 e3 hR3 => ?_) (fun dd H3 hs3 e3 hd => ?_)
       ·repeat walk_at "rd"
        exact q d (j + 1) v H3 (by unfold LeafR; rw [if_neg c1, if_neg cn, if_neg cp]; exact .inr ⟨d, j, hs, by rw [if_pos hs3]⟩) (g.next hj (by rw [(isT_s hs3 hj).1]; decide +kernel)) ((e1.trans e2).trans e3) hR3 (td.fr e3)
       ·exact qe j dd H3 (by unfold LeafR; rw [if_neg c1, if_neg cn, if_neg cp]; exact .inr ⟨d, j, hs, by rw [if_neg (by rw [hs3]; exact Bool.false_ne_true)]⟩) hj ((e1.trans e2).trans e3.nil) hd
      ·exact qe e dd H2 (by unfold LeafR; rw [if_neg c1, if_neg cn, if_neg cp]; exact .inl ⟨e, hs, rfl⟩) he (e1.trans e2) hd
end
def Fwd (lf : Nat → Res → Prop) : Prop := ∀ i d j, lf i (.ok (d, j)) → i < j
theorem LoopR.fwd {ts : List Th} {sg : List Str} {lf : Nat → Res → Prop} (hf : Fwd lf) {d : PyData} {i : Nat} {r : Res} (h : LoopR ts sg lf d i r) : ∀ d' j, r = .ok (d', j) → i ≤ j := by
 induction h with
 | stop _ => intro d' j e; cases e; exact Nat.le_refl _
 | bad _ _ _ => intro d' j e; cases e
 | step a b c k ih =>
  intro d' j e
  have := ih d' j e
  have := hf _ _ _ c
  omega
theorem ChainR.fwd {ts : List Th} {sg : List Str} {lf : Nat → Res → Prop} (hf : Fwd lf) : Fwd (ChainR ts sg lf) := fun i d j h => by
 rcases h with ⟨e, _, h⟩ | ⟨d0, j0, h1, h2⟩
 ·cases h
 ·have a := hf _ _ _ h1
  have b := h2.fwd hf d j rfl
  omega
theorem LeafR.fwd {ts : List Th} {m ok : Bool} {rc : Nat → Res → Prop} (hf : Fwd rc) : Fwd (LeafR ts m ok rc) := fun i d j h => by
 unfold LeafR at h
 split at h
 ·cases h; omega
 ·split at h
  ·cases h; omega
  ·split at h
   ·cases h
   ·rcases h with ⟨e, _, h⟩ | ⟨d0, j0, h1, h2⟩
    ·cases h
    ·have := hf _ _ _ h1
     split at h2 <;> cases h2
     omega
theorem fwd_none : Fwd (fun _ _ => False) := fun _ _ _ h => False.elim h
theorem sumN_fwd (ts : List Th) (m : Bool) : ∀ n, Fwd (SumN ts m n)
 | 0 => ChainR.fwd (ChainR.fwd (LeafR.fwd fwd_none))
 | n + 1 => ChainR.fwd (ChainR.fwd (LeafR.fwd (sumN_fwd ts m n)))
theorem leafN_fwd (ts : List Th) (m : Bool) (n : Nat) : Fwd (LeafN ts m n) := by
 cases n with
 | zero => exact LeafR.fwd fwd_none
 | succ n => exact LeafR.fwd (sumN_fwd ts m n)
def spotOf (r : Addr) (l : Nat) (H : Hp) : Nat := match H r with
 | some (.ins _ _ fs) => (match fs.lookup ("spot" : Str) with | some (.int k) => l - k.toNat | _ => 0)
 | _ => 0
theorem RowAt.spot {K : PySem.W.Frag} {C : Addr} {H : Hp} {r tq : Addr} {ts : List Th} {i : Nat} {m pl : Bool} (h : RowAt K C H r tq ts i m pl) (l : Nat) : spotOf r l H = l - i := by
 obtain ⟨dx, p, us, h1, _⟩ := h.ex
 unfold spotOf
 rw [h1]
 rfl
section
variable {P : Program} {w : World} {K : PySem.W.Frag} {mg : Str → Option Value} {base : Heap} {a_BadText C : Addr} {f : Addr} {fd : FuncData}
theorem ok_read_product {n : Nat} (F : FnP K "read_product" s_read_product f fd) (R : RowC K C) (M : RowM P w K mg base C a_BadText) (C_read_leaf : CalXN P w K mg base (3 * n + 10) "read_leaf" (spRdN K C a_BadText LeafN n)) : FnG P w K mg base (L2N.CX P w) (3 * n + 11) f fd ["row", "deep"] (spRdN K C a_BadText (fun ts m n => ProdR ts (LeafN ts m n)) n) := by
 refine okXN F sc_read_product (fun vs H Q E h => ?_) (fun cdv A outer s H vs Q E hr h tk => ?_)
 ·obtain ⟨r, tq, ts, i, m, pl, rfl, _⟩ := h
  rfl
 obtain ⟨r, tq, ts, i, m, pl, rfl, hR, g, hi, q, qe⟩ := h
 have M_is_sign_1 := M.is1
 have M_step_0 := M.st
 refine ⟨_, (pss_cons (ps_set (i := 2) sc_read_product.nd rfl (.inl rfl) (pe_calXN C_read_leaf tk hr rfl (pa_cons (pv 0) (pa_cons (pv 1) pa_nil))))
 (pss_cons (ps_while (L2.passes_of rfl) (pt_val (pe_metG M_is_sign_1 hr (pv 0) (pa_cons pe_str pa_nil))) (pss_cons (ps_expr (pe_metG0 M_step_0 hr (pv 0)))
 (pss_one (ps_set (i := 2) sc_read_product.nd rfl (.inl rfl) (pe_tup (pa_cons pe_str (pa_cons (pv 2) (pa_cons (pe_calXN C_read_leaf tk hr rfl (pa_cons (pv 0) (pa_cons (pv 1) pa_nil))) pa_nil))))))))
 (pss_one (ps_ret (pv 2))))), rd_start (σ0 := [some (.ref r), some (.int ((12 : Int) - n)), none]) rfl ?_⟩
 repeat walk_at "rd"
 refine ⟨r, tq, ts, i, m, pl, rfl, hR, g, hi, fun d0 j0 v0 H1 hl hj e1 hR1 td => ?_, fun e dd H1 hl he e1 hd => qe e dd H1 (.inl ⟨e, hl, rfl⟩) he e1 hd⟩
 repeat walk_at "rd"
 refine g_while2 (fun σ H' => ∃ d j v, σ = [some (.ref r), some (.int ((12 : Int) - n)), some v] ∧ RowAt K C H' r tq ts j m pl ∧ j < ts.length ∧ Td K H' v d ∧ Fr [r] H H' ∧ ∀ res, LoopR ts ["*"] (LeafN ts m n) d j res → ProdR ts (LeafN ts m n) i res) (fun _ H' => spotOf r ts.length H') ⟨d0, j0, v0, rfl, hR1, hj, td, e1, fun res h => .inr ⟨d0, j0, hl, h⟩⟩ (fun σ H2 h => ?_)
 obtain ⟨d, j, v, rfl, hR2, hj2, td2, e2, hlo⟩ := h
 repeat walk_at "rd"
 refine g_byB (fun c => ?_) (fun c => ?_)
 ·refine g_wt ?_
  rw [hR2.spot]
  repeat walk_at "rd"
  refine m_st rfl hR2 g hj2 fun H3 e3 hR3 => ?_
  have hn := g.next hj2 (by rw [(isT_s c hj2).1]; decide +kernel)
  repeat walk_at "rd"
  refine ⟨r, tq, ts, j + 1, m, pl, rfl, hR3, g, hn, fun d4 j4 v4 H4 hl4 hj4 e4 hR4 td4 => ?_, fun e dd H4 hl4 he e4 hd => qe e dd H4 (hlo _ (.bad List.mem_cons_self c hl4)) he ((e2.trans e3).trans e4) hd⟩
  repeat walk_at "rd"
  refine ⟨le_of (by simp), fun t ht => ?_⟩
  have e5 : Fr [] H4 (upd H4 t (.tup [.str "*", v, v4])) := Fr.new ht
  have td5 := (td2.fr (e3.trans e4)).fr e5
  have fw := leafN_fwd ts m n _ _ _ hl4
  refine ⟨⟨_, j4, _, rfl, hR4.fr (M := []) e5, hj4, .tup (SqT.of upd_same) (.cons (.str _) (.cons td5 (.cons (td4.fr e5) .nil))), ((e2.trans e3).trans e4).trans e5.nil, fun res h => hlo res (.step List.mem_cons_self c hl4 h)⟩, ?_⟩
  rw [(hR4.fr (M := []) e5).spot]
  omega
 ·repeat walk_at "rd"
  exact q d j v H2 (hlo _ (.stop fun s hs => by rw [List.mem_singleton.mp hs]; exact c)) hj2 e2 hR2 td2
end
section
variable {P : Program} {w : World} {K : PySem.W.Frag} {mg : Str → Option Value} {base : Heap} {a_BadText C : Addr} {f : Addr} {fd : FuncData}
theorem ok_read_sum {n : Nat} (F : FnP K "read_sum" s_read_sum f fd) (R : RowC K C) (M : RowM P w K mg base C a_BadText) (C_read_product : CalXN P w K mg base (3 * n + 11) "read_product" (spRdN K C a_BadText (fun ts m n => ProdR ts (LeafN ts m n)) n)) : FnG P w K mg base (L2N.CX P w) (3 * n + 12) f fd ["row", "deep"] (spRdN K C a_BadText SumN n) := by
 refine okXN F sc_read_sum (fun vs H Q E h => ?_) (fun cdv A outer s H vs Q E hr h tk => ?_)
 ·obtain ⟨r, tq, ts, i, m, pl, rfl, _⟩ := h
  rfl
 obtain ⟨r, tq, ts, i, m, pl, rfl, hR, g, hi, q, qe⟩ := h
 rw [sumN_eq] at q qe
 have M_is_sign_1 := M.is1
 have M_step_0 := M.st
 refine ⟨_, (pss_cons (ps_set (i := 2) sc_read_sum.nd rfl (.inl rfl) (pe_calXN C_read_product tk hr rfl (pa_cons (pv 0) (pa_cons (pv 1) pa_nil))))
 (pss_cons (ps_while (L2.passes_of rfl) (PW.pt (pw_or (pt_val (pe_metG M_is_sign_1 hr (pv 0) (pa_cons pe_str pa_nil))) (pw_or1 (pt_val (pe_metG M_is_sign_1 hr (pv 0) (pa_cons pe_str pa_nil)))))) (pss_cons (ps_set (i := 3) sc_read_sum.nd rfl (.inl rfl) (pe_metG0 M_step_0 hr (pv 0)))
 (pss_one (ps_set (i := 2) sc_read_sum.nd rfl (.inl rfl) (pe_tup (pa_cons (pv 3) (pa_cons (pv 2) (pa_cons (pe_calXN C_read_product tk hr rfl (pa_cons (pv 0) (pa_cons (pv 1) pa_nil))) pa_nil))))))))
 (pss_one (ps_ret (pv 2))))), rd_start (σ0 := [some (.ref r), some (.int ((12 : Int) - n)), none, none]) rfl ?_⟩
 repeat walk_at "rd"
 refine ⟨r, tq, ts, i, m, pl, rfl, hR, g, hi, fun d0 j0 v0 H1 hl hj e1 hR1 td => ?_, fun e dd H1 hl he e1 hd => qe e dd H1 (.inl ⟨e, hl, rfl⟩) he e1 hd⟩
 repeat walk_at "rd"
 refine g_while2 (fun σ H' => ∃ d j v z3, σ = [some (.ref r), some (.int ((12 : Int) - n)), some v, z3] ∧ RowAt K C H' r tq ts j m pl ∧ j < ts.length ∧ Td K H' v d ∧ Fr [r] H H' ∧ ∀ res, LoopR ts ["+", "-"] (ProdR ts (LeafN ts m n)) d j res → SumR ts (LeafN ts m n) i res) (fun _ H' => spotOf r ts.length H') ⟨d0, j0, v0, _, rfl, hR1, hj, td, e1, fun res h => .inr ⟨d0, j0, hl, h⟩⟩ (fun σ H2 h => ?_)
 obtain ⟨d, j, v, z3, rfl, hR2, hj2, td2, e2, hlo⟩ := h
 repeat walk_at "rd"
 cases c : isT ts j "sign" "+" with
 | true =>
  refine g_tt rfl ?_
  refine g_wt ?_
  rw [hR2.spot]
  repeat walk_at "rd"
  refine m_st rfl hR2 g hj2 fun H3 e3 hR3 => ?_
  have hn := g.next hj2 (by rw [(isT_s c hj2).1]; decide +kernel)
  rw [(isT_s c hj2).2]
  repeat walk_at "rd"
  refine ⟨r, tq, ts, j + 1, m, pl, rfl, hR3, g, hn, fun d4 j4 v4 H4 hl4 hj4 e4 hR4 td4 => ?_, fun e dd H4 hl4 he e4 hd => qe e dd H4 (hlo _ (.bad List.mem_cons_self c hl4)) he ((e2.trans e3).trans e4) hd⟩
  repeat walk_at "rd"
  refine ⟨le_of (by simp), fun t ht => ?_⟩
  have e5 : Fr [] H4 (upd H4 t (.tup [.str "+", v, v4])) := Fr.new ht
  have td5 := (td2.fr (e3.trans e4)).fr e5
  have fw := ChainR.fwd (leafN_fwd ts m n) _ _ _ hl4
  refine ⟨⟨_, j4, _, _, rfl, hR4.fr (M := []) e5, hj4, .tup (SqT.of upd_same) (.cons (.str _) (.cons td5 (.cons (td4.fr e5) .nil))), ((e2.trans e3).trans e4).trans e5.nil, fun res h => hlo res (.step List.mem_cons_self c hl4 h)⟩, ?_⟩
  rw [(hR4.fr (M := []) e5).spot]
  omega
 | false =>
  repeat walk_at "rd"
  cases c3 : isT ts j "sign" "-" with
  | true =>
   have c := c3
   refine g_tt rfl ?_
   refine g_wt ?_
   rw [hR2.spot]
   repeat walk_at "rd"
   refine m_st rfl hR2 g hj2 fun H3 e3 hR3 => ?_
   have hn := g.next hj2 (by rw [(isT_s c hj2).1]; decide +kernel)
   rw [(isT_s c hj2).2]
   repeat walk_at "rd"
   refine ⟨r, tq, ts, j + 1, m, pl, rfl, hR3, g, hn, fun d4 j4 v4 H4 hl4 hj4 e4 hR4 td4 => ?_, fun e dd H4 hl4 he e4 hd => qe e dd H4 (hlo _ (.bad (by simp) c hl4)) he ((e2.trans e3).trans e4) hd⟩
   repeat walk_at "rd"
   refine ⟨le_of (by simp), fun t ht => ?_⟩
   have e5 : Fr [] H4 (upd H4 t (.tup [.str "-", v, v4])) := Fr.new ht
   have td5 := (td2.fr (e3.trans e4)).fr e5
   have fw := ChainR.fwd (leafN_fwd ts m n) _ _ _ hl4
   refine ⟨⟨_, j4, _, _, rfl, hR4.fr (M := []) e5, hj4, .tup (SqT.of upd_same) (.cons (.str _) (.cons td5 (.cons (td4.fr e5) .nil))), ((e2.trans e3).trans e4).trans e5.nil, fun res h => hlo res (.step (by simp) c hl4 h)⟩, ?_⟩
   rw [(hR4.fr (M := []) e5).spot]
   omega
  | false =>
   refine g_ff rfl ?_
   repeat walk_at "rd"
   exact q d j v H2 (hlo _ (.stop fun s hs => by
    simp only [List.mem_cons, List.not_mem_nil, or_false] at hs
    rcases hs with rfl | rfl
    ·exact c
    ·exact c3)) hj2 e2 hR2 td2
end
def BindR (A : Nat → Res → Prop) (k : PyData → Nat → Res → Prop) (i : Nat) (r : Res) : Prop := (∃ e, A i (.error e) ∧ r = .error e) ∨ ∃ d j, A i (.ok (d, j)) ∧ k d j r
def testsW : List Str := ["=", "!=", "<", "<=", ">", ">="]
def isTest (t : Th) : Bool := decide (t.s = "sign") && decide (t.v ∈ testsW.map V.str)
def TestR (ts : List Th) (m : Bool) : Nat → Res → Prop := BindR (SumN ts m 12) fun d j r => if isTest (tkn ts j) = true then BindR (SumN ts m 12) (fun d2 j2 r => r = .ok (.tuple [.str "test", scD (tkn ts j).v, d, d2], j2)) (j + 1) r else r = .error j
theorem testR_e1 {ts : List Th} {m : Bool} {i e : Nat} (h : SumN ts m 12 i (.error e)) : TestR ts m i (.error e) := .inl ⟨e, h, rfl⟩
theorem testR_bad {ts : List Th} {m : Bool} {i j : Nat} {d : PyData} (h : SumN ts m 12 i (.ok (d, j))) (k : isTest (tkn ts j) = false) : TestR ts m i (.error j) := .inr ⟨d, j, h, by
 show if isTest (tkn ts j) = true then _ else _
 rw [if_neg (by rw [k]; exact Bool.false_ne_true)]⟩
theorem testR_e2 {ts : List Th} {m : Bool} {i j e : Nat} {d : PyData} (h : SumN ts m 12 i (.ok (d, j))) (k : isTest (tkn ts j) = true) (l : SumN ts m 12 (j + 1) (.error e)) : TestR ts m i (.error e) := .inr ⟨d, j, h, by
 show if isTest (tkn ts j) = true then _ else _
 rw [if_pos k]
 exact .inl ⟨e, l, rfl⟩⟩
theorem testR_ok {ts : List Th} {m : Bool} {i j j2 : Nat} {d d2 : PyData} (h : SumN ts m 12 i (.ok (d, j))) (k : isTest (tkn ts j) = true) (l : SumN ts m 12 (j + 1) (.ok (d2, j2))) : TestR ts m i (.ok (.tuple [.str "test", scD (tkn ts j).v, d, d2], j2)) := .inr ⟨d, j, h, by
 show if isTest (tkn ts j) = true then _ else _
 rw [if_pos k]
 exact .inr ⟨d2, j2, l, rfl⟩⟩
def TermR (ts : List Th) (i : Nat) (r : Res) : Prop := if isT ts i "sign" "_" = true then r = .ok (.tuple [.str "any"], i + 1) else if (tkn ts i).s = "value" then r = .ok (valD (tkn ts i), i + 1) else if (tkn ts i).s = "name" then r = .ok (varD (tkn ts i), i + 1) else r = .error i
abbrev ResL := Except Nat (List PyData × Nat)
inductive ManyR (ts : List Th) (item : List PyData → Nat → Res → Prop) (full : List PyData → Bool) : List PyData → Nat → ResL → Prop
 | stop {ds : List PyData} {i : Nat} : isT ts i "sign" "," = false → ManyR ts item full ds i (.ok (ds, i))
 | full {ds : List PyData} {i : Nat} : isT ts i "sign" "," = true → full ds = true → ManyR ts item full ds i (.error (i + 1))
 | bad {ds : List PyData} {i e : Nat} : isT ts i "sign" "," = true → full ds = false → item ds (i + 1) (.error e) → ManyR ts item full ds i (.error e)
 | step {ds : List PyData} {d : PyData} {i j : Nat} {r : ResL} : isT ts i "sign" "," = true → full ds = false → item ds (i + 1) (.ok (d, j)) → ManyR ts item full (ds ++ [d]) j r → ManyR ts item full ds i r
def SeqR (ts : List Th) (item : List PyData → Nat → Res → Prop) (full : List PyData → Bool) (i : Nat) (r : ResL) : Prop := (∃ e, item [] i (.error e) ∧ r = .error e) ∨ ∃ d j, item [] i (.ok (d, j)) ∧ ManyR ts item full [d] j r
def AtomR (ts : List Th) (pl : Bool) (x : Str) (i : Nat) (r : Res) : Prop := if ¬ ((tkn ts i).s = "full" ∨ ((tkn ts i).s = "name" ∧ pl = true)) then r = .error i else if isT ts (i + 1) "sign" "(" = false then r = .error (i + 1)
 else (∃ e, SeqR ts (fun _ => TermR ts) (fun ds => decide (ds.length = 4)) (i + 2) (.error e) ∧ r = .error e) ∨ ∃ ds j, SeqR ts (fun _ => TermR ts) (fun ds => decide (ds.length = 4)) (i + 2) (.ok (ds, j)) ∧ r = if isT ts j "sign" ")" = true then .ok (.tuple [.str x, scD (tkn ts i).v, .tuple ds], j + 1) else .error j
theorem termR_fwd (ts : List Th) : Fwd (TermR ts) := fun i d j h => by
 unfold TermR at h
 repeat' (split at h)
 all_goals first
  | (cases h; done)
  | (cases h; omega)
structure GlR (K : PySem.W.Frag) (mg : Str → Option Value) (a_TESTS a_FOLDS : Addr) : Prop where
 t : mg "TESTS" = some (.ref a_TESTS)
 tt : ∀ H, SqT K H a_TESTS (testsW.map V.str)
 f : mg "FOLDS" = some (.ref a_FOLDS)
 ft : ∀ H, SqT K H a_FOLDS ((["sum", "least", "most"] : List Str).map V.str)
 mt : ∃ t, mg "MOST_TERMS" = some (.int 4 t)
 mp : ∃ t, mg "MOST_PARTS" = some (.int 6 t)
def spRd (K : PySem.W.Frag) (C B : Addr) (R : List Th → Bool → Bool → Nat → Res → Prop) : Sp := fun vs H Q E => ∃ (r tq : Addr) (ts : List Th) (i : Nat) (m pl : Bool), vs = [.ref r] ∧ RowAt K C H r tq ts i m pl ∧ GoodTs ts ∧ i < ts.length ∧ RdOk K C B (R ts m pl) H r tq ts i m pl Q E
def spAtom (K : PySem.W.Frag) (C B : Addr) : Sp := fun vs H Q E => ∃ (r tq : Addr) (x : Str) (ts : List Th) (i : Nat) (m pl : Bool), vs = [.ref r, .str x] ∧ RowAt K C H r tq ts i m pl ∧ GoodTs ts ∧ i < ts.length ∧ RdOk K C B (AtomR ts pl x) H r tq ts i m pl Q E
theorem tda_len5 {K : PySem.W.Frag} {H : Hp} : ∀ {vs : List V} {ds : List PyData}, TdAll K H vs ds → vs.length = ds.length
 | _, _, .nil => rfl
 | _, _, .cons _ b => congrArg (· + 1) (tda_len5 b)
structure BiR2 (mg : Str → Option Value) : Prop where
 b_len : mg "len" = none
 b_tuple : mg "tuple" = none
 b_any : mg "any" = none
abbrev z_MOST_TERMS : Int := 4
abbrev z_MOST_PARTS : Int := 6
abbrev s_read_test : Stmt := topS 33
theorem sc_read_test : FnScope ["row", "one", "sign"] ["row"] (defScope s_read_test) := ⟨rfl, rfl, rfl, by decide +kernel, rfl, by decide +kernel, by decide +kernel⟩
abbrev s_read_term : Stmt := topS 34
theorem sc_read_term : FnScope ["row"] ["row"] (defScope s_read_term) := ⟨rfl, rfl, rfl, by decide +kernel, rfl, by decide +kernel, by decide +kernel⟩
abbrev s_read_atom : Stmt := topS 35
theorem sc_read_atom : FnScope ["row", "word", "name", "terms"] ["row", "word"] (defScope s_read_atom) := ⟨rfl, rfl, rfl, by decide +kernel, rfl, by decide +kernel, by decide +kernel⟩
section
variable {P : Program} {w : World} {K : PySem.W.Frag} {mg : Str → Option Value} {base : Heap} {a_BadText a_TESTS a_FOLDS C : Addr} {f : Addr} {fd : FuncData}
theorem ok_read_test (F : FnP K "read_test" s_read_test f fd) (G : GlR K mg a_TESTS a_FOLDS) (M : RowM P w K mg base C a_BadText) (C_read_sum : CalXN P w K mg base 48 "read_sum" (spRdN K C a_BadText SumN 12)) : FnG P w K mg base (L2N.CX P w) 50 f fd ["row"] (spRd K C a_BadText fun ts m _ => TestR ts m) := by
 refine okXN F sc_read_test (fun vs H Q E h => ?_) (fun cdv A outer s H vs Q E hr h tk => ?_)
 ·obtain ⟨r, tq, ts, i, m, pl, rfl, _⟩ := h
  rfl
 obtain ⟨r, tq, ts, i, m, pl, rfl, hR, g, hi, q, qe⟩ := h
 have M_sort_here_0 := M.sh0
 have M_thing_0 := M.th0
 have M_wrong_0 := M.wr
 have M_step_0 := M.st
 have g_TESTS := G.t
 refine ⟨_, (pss_cons (ps_set (i := 1) sc_read_test.nd rfl (.inl rfl) (pe_calXN C_read_sum tk hr rfl (pa_cons (pv 0) (pa_cons pe_int pa_nil))))
 (pss_cons (ps_if (PW.pt (pw_or (pt_cmpR (kOp (K := K) (r := uNe) rfl (opu_ne hr.units)) (pe_metG0 M_sort_here_0 hr (pv 0)) pe_str (nomark _)) (pw_or1 (pt_cmpR (kOp (K := K) (r := uNotIn) rfl opu_notIn) (pe_metG0 M_thing_0 hr (pv 0)) (pe_glob (v := .ref a_TESTS) rfl g_TESTS rfl) (by rfl))))) (pss_one (ps_expr (pe_metX0N M_wrong_0 tk hr (pv 0)))) pss_nil)
 (pss_cons (ps_set (i := 2) sc_read_test.nd rfl (.inl rfl) (pe_metG0 M_step_0 hr (pv 0)))
 (pss_one (ps_ret (pe_tup (pa_cons pe_str (pa_cons (pv 2) (pa_cons (pv 1) (pa_cons (pe_calXN C_read_sum tk hr rfl (pa_cons (pv 0) (pa_cons pe_int pa_nil))) pa_nil)))))))))), rd_start (σ0 := [some (.ref r), none, none]) rfl ?_⟩
 repeat walk_at "rd"
 refine ⟨r, tq, ts, i, m, pl, rfl, hR, g, hi, fun d j v H1 hl hj e1 hR1 td => ?_, fun e dd H1 hl he e1 hd => qe e dd H1 (.inl ⟨e, hl, rfl⟩) he e1 hd⟩
 have bad : isTest (tkn ts j) = false → ∀ dd H', Fr [] H1 H' → H' dd = some (.xd (badAt (tkn ts j).n)) → E (.ref a_BadText) (some dd) H' := fun ht dd H' e hd => qe j dd H' (testR_bad hl ht) hj (e1.trans e.nil) hd
 have et : isTest (tkn ts j) = (decide ((tkn ts j).s = "sign") && decide ((tkn ts j).v ∈ testsW.map V.str)) := rfl
 repeat walk_at "rd"
 cases c : decide ((tkn ts j).s = "sign") with
 | false =>
  rw [c] at et
  refine g_tt rfl ?_
  repeat walk_at "rd"
  exact m_wr rfl hR1 g hj (bad et)
 | true =>
  rw [c, Bool.true_and] at et
  refine g_ff rfl ?_
  repeat walk_at "rd"
  refine g_notInSc (g_sc g hj) (.inr (G.tt _)) ?_
  rw [← et]
  repeat walk_at "rd"
  cases c2 : isTest (tkn ts j) with
  | false =>
   refine g_tt rfl ?_
   repeat walk_at "rd"
   exact m_wr rfl hR1 g hj (bad c2)
  | true =>
   refine g_ff rfl ?_
   repeat walk_at "rd"
   refine m_st rfl hR1 g hj fun H2 e2 hR2 => ?_
   have hn := g.next hj (by rw [of_decide_eq_true c]; decide +kernel)
   repeat walk_at "rd"
   refine ⟨r, tq, ts, j + 1, m, pl, rfl, hR2, g, hn, fun d2 j2 v2 H3 hl2 hj2 e3 hR3 td2 => ?_, fun e dd H3 hl2 he e3 hd => qe e dd H3 (testR_e2 hl c2 hl2) he ((e1.trans e2).trans e3) hd⟩
   repeat walk_at "rd"
   refine ⟨le_of (by simp), fun t ht => ?_⟩
   have e4 := Fr.new (M := []) (o := .tup [.str "test", (tkn ts j).v, v, v2]) ht
   exact q _ j2 _ _ (testR_ok hl c2 hl2) hj2 (((e1.trans e2).trans e3).trans e4.nil) (hR3.fr (M := []) e4) (.tup (SqT.of upd_same) (.cons (.str _) (.cons (sc_td (g_sc g hj)) (.cons ((td.fr (e2.trans e3)).fr e4) (.cons (td2.fr e4) .nil)))))
theorem ok_read_term (F : FnP K "read_term" s_read_term f fd) (M : RowM P w K mg base C a_BadText) : FnG P w K mg base (L2N.CX P w) 8 f fd ["row"] (spRd K C a_BadText fun ts _ _ => TermR ts) := by
 refine okXN F sc_read_term (fun vs H Q E h => ?_) (fun cdv A outer s H vs Q E hr h tk => ?_)
 ·obtain ⟨r, tq, ts, i, m, pl, rfl, _⟩ := h
  rfl
 obtain ⟨r, tq, ts, i, m, pl, rfl, hR, g, hi, q, qe⟩ := h
 have M_sort_here_0 := M.sh0
 have M_is_sign_1 := M.is1
 have M_step_0 := M.st
 have M_need_name_0 := M.nn
 refine ⟨_, (pss_cons (ps_if (pt_val (pe_metG M_is_sign_1 hr (pv 0) (pa_cons pe_str pa_nil))) (pss_cons (ps_expr (pe_metG0 M_step_0 hr (pv 0)))
 (pss_one (ps_ret (pe_tup (pa_cons pe_str pa_nil))))) pss_nil)
 (pss_cons (ps_if (pt_cmpR (kOp (K := K) (r := uEq) rfl (opu_eq hr.units)) (pe_metG0 M_sort_here_0 hr (pv 0)) pe_str (nomark _)) (pss_one (ps_ret (pe_tup (pa_cons pe_str (pa_cons (pe_metG0 M_step_0 hr (pv 0)) pa_nil))))) pss_nil)
 (pss_one (ps_ret (pe_tup (pa_cons pe_str (pa_cons (pe_metX0N M_need_name_0 tk hr (pv 0)) pa_nil))))))), rd_start (σ0 := [some (.ref r)]) rfl ?_⟩
 repeat walk_at "rd"
 refine g_byB (fun c => ?_) (fun c => ?_)
 ·repeat walk_at "rd"
  refine m_st rfl hR g hi fun H1 e1 hR1 => ?_
  repeat walk_at "rd"
  refine ⟨le_of (by simp), fun t ht => ?_⟩
  have e2 := Fr.new (M := []) (o := .tup [.str "any"]) ht
  exact q _ (i + 1) _ _ (by show TermR ts i _; unfold TermR; rw [if_pos c]) (g.next hi (by rw [(isT_s c hi).1]; decide +kernel)) (e1.trans e2.nil) (hR1.fr (M := []) e2) (.tup (SqT.of upd_same) (.cons (.str _) .nil))
 ·have c' : ¬ isT ts i "sign" "_" = true := by rw [c]; exact Bool.false_ne_true
  repeat walk_at "rd"
  refine g_by (fun c2 => ?_) (fun c2 => ?_)
  ·repeat walk_at "rd"
   refine m_st rfl hR g hi fun H1 e1 hR1 => ?_
   repeat walk_at "rd"
   refine ⟨le_of (by simp), fun t ht => ?_⟩
   have e2 := Fr.new (M := []) (o := .tup [.str "value", (tkn ts i).v]) ht
   exact q _ (i + 1) _ _ (by show TermR ts i _; unfold TermR; rw [if_neg c', if_pos c2]; rfl) (g.next hi (by rw [c2]; decide +kernel)) (e1.trans e2.nil) (hR1.fr (M := []) e2) (.tup (SqT.of upd_same) (.cons (.str _) (.cons (sc_td (g_sc g hi)) .nil)))
  ·repeat walk_at "rd"
   refine m_nn rfl hR g hi (fun H1 c3 e1 hR1 => ?_) (fun dd H1 c3 e1 hd => ?_)
   ·repeat walk_at "rd"
    refine ⟨le_of (by simp), fun t ht => ?_⟩
    have e2 := Fr.new (M := []) (o := .tup [.str "var", (tkn ts i).v]) ht
    exact q _ (i + 1) _ _ (by show TermR ts i _; unfold TermR; rw [if_neg c', if_neg c2, if_pos c3]; rfl) (g.next hi (by rw [c3]; decide +kernel)) (e1.trans e2.nil) (hR1.fr (M := []) e2) (.tup (SqT.of upd_same) (.cons (.str _) (.cons (sc_td (g_sc g hi)) .nil)))
   ·exact qe i dd H1 (by show TermR ts i _; unfold TermR; rw [if_neg c', if_neg c2, if_neg c3]) hi e1.nil hd
theorem atomR_not {ts : List Th} {pl : Bool} {x : Str} {i : Nat} (h : ¬ ((tkn ts i).s = "full" ∨ ((tkn ts i).s = "name" ∧ pl = true))) : AtomR ts pl x i (.error i) := by
 unfold AtomR
 rw [if_pos h]
theorem atomR_open {ts : List Th} {pl : Bool} {x : Str} {i : Nat} (h : (tkn ts i).s = "full" ∨ ((tkn ts i).s = "name" ∧ pl = true)) (k : isT ts (i + 1) "sign" "(" = false) : AtomR ts pl x i (.error (i + 1)) := by
 unfold AtomR
 rw [if_neg (fun n => n h), if_pos k]
theorem atomR_in {ts : List Th} {pl : Bool} {x : Str} {i : Nat} {r : Res} (h : (tkn ts i).s = "full" ∨ ((tkn ts i).s = "name" ∧ pl = true)) (k : isT ts (i + 1) "sign" "(" = true)
  (l : (∃ e, SeqR ts (fun _ => TermR ts) (fun ds => decide (ds.length = 4)) (i + 2) (.error e) ∧ r = .error e) ∨ ∃ ds j, SeqR ts (fun _ => TermR ts) (fun ds => decide (ds.length = 4)) (i + 2) (.ok (ds, j)) ∧ r = if isT ts j "sign" ")" = true then .ok (.tuple [.str x, scD (tkn ts i).v, .tuple ds], j + 1) else .error j) : AtomR ts pl x i r := by
 unfold AtomR
 rw [if_neg (fun n => n h), if_neg (by rw [k]; exact Bool.noConfusion)]
 exact l
theorem ok_read_atom (F : FnP K "read_atom" s_read_atom f fd) (B : BiR2 mg) (R : RowC K C) (G : GlR K mg a_TESTS a_FOLDS) (M : RowM P w K mg base C a_BadText) (C_read_term : CalXN P w K mg base 8 "read_term" (spRd K C a_BadText fun ts _ _ => TermR ts)) : FnG P w K mg base (L2N.CX P w) 10 f fd ["row", "word"] (spAtom K C a_BadText) := by
 refine okXN F sc_read_atom (fun vs H Q E h => ?_) (fun cdv A outer s H vs Q E hr h tk => ?_)
 ·obtain ⟨r, tq, x, ts, i, m, pl, rfl, _⟩ := h
  rfl
 obtain ⟨r, tq, x, ts, i, m, pl, rfl, hR, g, hi, q, qe⟩ := h
 have M_sort_here_0 := M.sh0
 have M_is_sign_1 := M.is1
 have M_wrong_0 := M.wr
 have M_step_0 := M.st
 have M_need_sign_1 := M.ns
 obtain ⟨tM, g_MOST_TERMS⟩ := G.mt
 refine ⟨_, (pss_cons (ps_if (PW.pt (pw_and (pt_cmpR (kOp (K := K) (r := uNe) rfl (opu_ne hr.units)) (pe_metG0 M_sort_here_0 hr (pv 0)) pe_str (nomark _)) (pw_and1 (PW.pt (pw_or (pt_cmpR (kOp (K := K) (r := uNe) rfl (opu_ne hr.units)) (pe_metG0 M_sort_here_0 hr (pv 0)) pe_str (nomark _)) (pw_or1 (pt_not (pt_val (kFld (K := K) rfl (pe_fld (pv 0) (by rfl))))))))))) (pss_one (ps_expr (pe_metX0N M_wrong_0 tk hr (pv 0)))) pss_nil)
 (pss_cons (ps_set (i := 2) sc_read_atom.nd rfl (.inl rfl) (pe_metG0 M_step_0 hr (pv 0)))
 (pss_cons (ps_expr (pe_metXN M_need_sign_1 tk hr (pv 0) (pa_cons pe_str pa_nil)))
 (pss_cons (ps_set (i := 3) sc_read_atom.nd rfl (.inl rfl) (pe_lst (pa_cons (pe_calXN C_read_term tk hr rfl (pa_cons (pv 0) pa_nil)) pa_nil)))
 (pss_cons (ps_while (L2.passes_of rfl) (pt_val (pe_metG M_is_sign_1 hr (pv 0) (pa_cons pe_str pa_nil))) (pss_cons (ps_expr (pe_metG0 M_step_0 hr (pv 0)))
 (pss_cons (ps_if (pt_cmpR (kOp (K := K) (r := uEq) rfl (opu_eq hr.units)) (pe_callB (kCall (K := K) (r := uLen) rfl callu_len) (by rfl) B.b_len (by decide +kernel) (pa_cons (pv 3) pa_nil)) (pe_glob (v := .int z_MOST_TERMS) rfl g_MOST_TERMS ⟨_, rfl⟩) (nomark _)) (pss_one (ps_expr (pe_metX0N M_wrong_0 tk hr (pv 0)))) pss_nil)
 (pss_one (ps_expr (kBM (K := K) rfl (pe_bm PySem.F.plainAttrs_list PySem.F.slot_list_append PySem.F.type_list_append mt_append (pv 3) (pa_cons (pe_calXN C_read_term tk hr rfl (pa_cons (pv 0) pa_nil)) pa_nil))))))))
 (pss_cons (ps_expr (pe_metXN M_need_sign_1 tk hr (pv 0) (pa_cons pe_str pa_nil)))
 (pss_one (ps_ret (pe_tup (pa_cons (pv 1) (pa_cons (pv 2) (pa_cons (pe_callTy (kCall (K := K) (r := uTuple) rfl callu_tuple) (by rfl) B.b_tuple (by decide +kernel) (pa_cons (pv 3) pa_nil)) pa_nil)))))))))))), rd_start (σ0 := [some (.ref r), some (.str x), none, none]) rfl ?_⟩
 obtain ⟨dx, p, us, h1, _⟩ := hR.ex
 repeat walk_at "rdif"
 try dsimp only
 with_reducible refine g_cutS (fun σ' H' => σ' = [some (.ref r), some (.str x), none, none] ∧ ((tkn ts i).s = "full" ∨ ((tkn ts i).s = "name" ∧ pl = true)) ∧ H = H') (fun σ' H' h => ?_) (fun N k => ?_)
 rotate_left
 ·repeat walk_at "rd"
  refine g_byN (fun c => ?_) (fun c => ?_)
  ·repeat walk_at "rd"
   refine g_byN (fun c2 => ?_) (fun c2 => ?_)
   ·repeat walk_at "rd"
    exact m_wr rfl hR g hi fun dd H' e hd => qe i dd H' (atomR_not (fun z => z.elim c fun z => c2 z.1)) hi e.nil hd
   ·repeat walk_at "rd"
    refine ⟨r, C, dx, _, _, rfl, h1, R.cls, R.a4, rfl, ?_⟩
    repeat walk_at "rd"
    cases hp : pl with
    | false =>
     subst hp
     repeat walk_at "rd"
     exact m_wr rfl hR g hi fun dd H' e hd => qe i dd H' (atomR_not (fun z => z.elim c fun z => Bool.noConfusion z.2)) hi e.nil hd
    | true =>
     subst hp
     repeat walk_at "rd"
     exact k _ _ ⟨rfl, .inr ⟨c2, rfl⟩, rfl⟩
  ·repeat walk_at "rd"
   exact k _ _ ⟨rfl, .inl c, rfl⟩
 obtain ⟨rfl, hc, rfl⟩ := h
 have hne : (tkn ts i).s ≠ "end" := fun z => by
  rcases hc with h | h
  ·rw [h] at z; exact absurd z (by decide +kernel)
  ·rw [h.1] at z; exact absurd z (by decide +kernel)
 have hn := g.next hi hne
 repeat walk_at "rd"
 refine m_st rfl hR g hi fun H1 e1 hR1 => ?_
 repeat walk_at "rd"
 refine m_ns rfl (by decide +kernel) hR1 g hn (fun H2 c2 e2 hR2 => ?_) (fun dd H2 c2 e2 hd => qe (i + 1) dd H2 (atomR_open hc c2) hn (e1.trans e2.nil) hd)
 have hn2 := g.next hn (by rw [(isT_s c2 hn).1]; decide +kernel)
 have inn := fun {res : Res} => atomR_in (r := res) (x := x) hc c2
 repeat walk_at "rd"
 refine ⟨r, tq, ts, i + 2, m, pl, rfl, hR2, g, hn2, fun d0 j0 v0 H3 hl hj e3 hR3 td => ?_, fun e dd H3 hl he e3 hd => qe e dd H3 (inn (.inl ⟨e, .inl ⟨e, hl, rfl⟩, rfl⟩)) he ((e1.trans e2).trans e3) hd⟩
 repeat walk_at "rd"
 refine ⟨le_of (by simp), fun L hL => ?_⟩
 have e4 : Fr [] H3 (upd H3 L (.lst [v0])) := Fr.new hL
 obtain ⟨Lr, Lq⟩ := hR3.off hL
 have e13 := (e1.trans e2).trans e3
 have hLH : H L = none := e13.back (fun z => Lr (List.mem_singleton.mp z)) hL
 repeat walk_at "rd"
 refine g_while2 (fun σ H' => ∃ ds us j, σ = [some (.ref r), some (.str x), some (tkn ts i).v, some (.ref L)] ∧ RowAt K C H' r tq ts j m pl ∧ j < ts.length ∧ H' L = some (.lst us) ∧ TdAll K H' us ds ∧ Fr [r] H H' ∧ ds.length ≤ 4 ∧ ∀ res, ManyR ts (fun _ => TermR ts) (fun ds => decide (ds.length = 4)) ds j res → SeqR ts (fun _ => TermR ts) (fun ds => decide (ds.length = 4)) (i + 2) res) (fun _ H' => spotOf r ts.length H')
  ⟨[d0], [v0], j0, rfl, hR3.fr (M := []) e4, hj, upd_same, .cons (td.fr e4) .nil, e13.trans e4.nil, by simp, fun res h => .inr ⟨d0, j0, hl, h⟩⟩ (fun σ H5 h => ?_)
 obtain ⟨ds, us, j, rfl, hR5, hj5, hL5, td5, e5, hdl, hlo⟩ := h
 have ul := tda_len5 td5
 repeat walk_at "rd"
 cases c : isT ts j "sign" "," with
 | true =>
  refine g_tt rfl ?_
  refine g_wt ?_
  rw [hR5.spot]
  have hn6 := g.next hj5 (by rw [(isT_s c hj5).1]; decide +kernel)
  repeat walk_at "rd"
  refine m_st rfl hR5 g hj5 fun H6 e6 hR6 => ?_
  have hL6 := e6.at hL5 (fun z => Lr (List.mem_singleton.mp z))
  repeat walk_at "rd"
  refine g_by (fun c6 => ?_) (fun c6 => ?_)
  ·have c7 : (us.length : Int) = 4 := c6
   repeat walk_at "rd"
   exact m_wr rfl hR6 g hn6 fun dd H' e hd => qe (j + 1) dd H' (inn (.inl ⟨j + 1, hlo _ (.full c (decide_eq_true (by omega))), rfl⟩)) hn6 ((e5.trans e6).trans e.nil) hd
  ·have c7 : ¬ (us.length : Int) = 4 := c6
   have c6' : decide (ds.length = 4) = false := decide_eq_false (by omega)
   repeat walk_at "rd"
   refine ⟨r, tq, ts, j + 1, m, pl, rfl, hR6, g, hn6, fun d7 j7 v7 H7 hl7 hj7 e7 hR7 td7 => ?_, fun e dd H7 hl7 he e7 hd => qe e dd H7 (inn (.inl ⟨e, hlo _ (.bad c c6' hl7), rfl⟩)) he ((e5.trans e6).trans e7) hd⟩
   have hL7 := e7.at hL6 (fun z => Lr (List.mem_singleton.mp z))
   have fw := termR_fwd ts _ _ _ hl7
   refine ⟨L, us, v7, rfl, rfl, hL7, lt_of (by omega), ?_⟩
   have e8 : Fr [L] H7 (upd H7 L (.lst (us ++ [v7]))) := Fr.mut (List.mem_singleton.mpr rfl) hL7 nofix_lst
   have hR8 := hR7.frL e8 Lr Lq
   refine ⟨⟨ds ++ [d7], us ++ [v7], j7, rfl, hR8, hj7, upd_same, (tda_snoc4 (td5.fr (e6.trans e7)) td7).fr e8, ((e5.trans e6).trans e7).over hLH, by rw [List.length_append]; simp; omega, fun res h => hlo res (.step c c6' hl7 h)⟩, ?_⟩
   rw [hR8.spot]
   omega
 | false =>
  refine g_ff rfl ?_
  repeat walk_at "rd"
  refine m_ns rfl (by decide +kernel) hR5 g hj5 (fun H6 c6 e6 hR6 => ?_) (fun dd H6 c6 e6 hd => qe j dd H6 (inn (.inr ⟨ds, j, hlo _ (.stop c), by rw [if_neg (by rw [c6]; exact Bool.false_ne_true)]⟩)) hj5 (e5.trans e6.nil) hd)
  have hL6 := e6.at hL5 (fun z => Lr (List.mem_singleton.mp z))
  repeat walk_at "rd"
  refine g_tupleL (SqL.of hL6) fun t ht => ?_
  have e7 : Fr [] H6 (upd H6 t (.tup us)) := Fr.new ht
  have h7 : SqT K (upd H6 t (.tup us)) t us := SqT.of upd_same
  repeat walk_at "rd"
  refine ⟨le_of (by simp), fun t2 ht2 => ?_⟩
  have e8 := Fr.new (M := []) (o := .tup [.str x, (tkn ts i).v, .ref t]) ht2
  exact q _ (j + 1) _ _ (inn (.inr ⟨ds, j, hlo _ (.stop c), by rw [if_pos c6]⟩)) (g.next hj5 (by rw [(isT_s c6 hj5).1]; decide +kernel)) (((e5.trans e6).trans e7.nil).trans e8.nil) ((hR6.fr (M := []) e7).fr (M := []) e8)
   (.tup (SqT.of upd_same) (.cons (.str _) (.cons (sc_td (g_sc g hi)) (.cons (.tup (e8.tup h7) ((td5.fr (e6.trans (e7.nil.trans e8.nil))))) .nil))))
end
def PartR (ts : List Th) (m pl : Bool) (i : Nat) (r : Res) : Prop := if isT ts i "kept" "not" = true then AtomR ts pl "not" (i + 1) r
 else if (tkn ts i).s ∈ (["full", "name"] : List Str) ∧ isT ts (i + 1) "sign" "(" = true then AtomR ts pl "atom" i r
 else if (tkn ts i).s = "name" ∧ isT ts (i + 1) "kept" "is" = true then BindR (SumN ts m 12) (fun d j r => r = .ok (.tuple [.str "let", scD (tkn ts i).v, d], j)) (i + 2) r
 else TestR ts m i r
abbrev s_read_part : Stmt := topS 36
theorem sc_read_part : FnScope ["row", "name"] ["row"] (defScope s_read_part) := ⟨rfl, rfl, rfl, by decide +kernel, rfl, by decide +kernel, by decide +kernel⟩
section
variable {P : Program} {w : World} {K : PySem.W.Frag} {mg : Str → Option Value} {base : Heap} {a_BadText a_TESTS a_FOLDS C : Addr} {f : Addr} {fd : FuncData}
theorem ok_read_part (F : FnP K "read_part" s_read_part f fd) (M : RowM P w K mg base C a_BadText) (C_read_sum : CalXN P w K mg base 48 "read_sum" (spRdN K C a_BadText SumN 12)) (C_read_test : CalXN P w K mg base 50 "read_test" (spRd K C a_BadText fun ts m _ => TestR ts m)) (C_read_atom : CalXN P w K mg base 10 "read_atom" (spAtom K C a_BadText)) :
  FnG P w K mg base (L2N.CX P w) 52 f fd ["row"] (spRd K C a_BadText PartR) := by
 refine okXN F sc_read_part (fun vs H Q E h => ?_) (fun cdv A outer s H vs Q E hr h tk => ?_)
 ·obtain ⟨r, tq, ts, i, m, pl, rfl, _⟩ := h
  rfl
 obtain ⟨r, tq, ts, i, m, pl, rfl, hR, g, hi, q, qe⟩ := h
 have M_sort_here_0 := M.sh0
 have M_is_sign_2 := M.is2
 have M_is_kept_1 := M.ik1
 have M_is_kept_2 := M.ik2
 have M_step_0 := M.st
 refine ⟨_, (pss_cons (ps_if (pt_val (pe_metG M_is_kept_1 hr (pv 0) (pa_cons pe_str pa_nil))) (pss_cons (ps_expr (pe_metG0 M_step_0 hr (pv 0)))
 (pss_one (ps_ret (pe_calXN C_read_atom tk hr rfl (pa_cons (pv 0) (pa_cons pe_str pa_nil)))))) pss_nil)
 (pss_cons (ps_if (PW.pt (pw_and (pt_cmpR (kOp (K := K) (r := uIn) rfl opu_in) (pe_metG0 M_sort_here_0 hr (pv 0)) (pe_tup (pa_cons pe_str (pa_cons pe_str pa_nil))) (by rfl)) (pw_and1 (pt_val (pe_metG M_is_sign_2 hr (pv 0) (pa_cons pe_str (pa_cons pe_int pa_nil))))))) (pss_one (ps_ret (pe_calXN C_read_atom tk hr rfl (pa_cons (pv 0) (pa_cons pe_str pa_nil))))) pss_nil)
 (pss_cons (ps_if (PW.pt (pw_and (pt_cmpR (kOp (K := K) (r := uEq) rfl (opu_eq hr.units)) (pe_metG0 M_sort_here_0 hr (pv 0)) pe_str (nomark _)) (pw_and1 (pt_val (pe_metG M_is_kept_2 hr (pv 0) (pa_cons pe_str (pa_cons pe_int pa_nil))))))) (pss_cons (ps_set (i := 1) sc_read_part.nd rfl (.inl rfl) (pe_metG0 M_step_0 hr (pv 0)))
 (pss_cons (ps_expr (pe_metG0 M_step_0 hr (pv 0)))
 (pss_one (ps_ret (pe_tup (pa_cons pe_str (pa_cons (pv 1) (pa_cons (pe_calXN C_read_sum tk hr rfl (pa_cons (pv 0) (pa_cons pe_int pa_nil))) pa_nil)))))))) pss_nil)
 (pss_one (ps_ret (pe_calXN C_read_test tk hr rfl (pa_cons (pv 0) pa_nil))))))), rd_start (σ0 := [some (.ref r), none]) rfl ?_⟩
 repeat walk_at "rd"
 refine g_byB (fun c => ?_) (fun c => ?_)
 ·have ep : PartR ts m pl i = AtomR ts pl "not" (i + 1) := by funext r; unfold PartR; rw [if_pos c]
  rw [ep] at q qe
  repeat walk_at "rd"
  refine m_st rfl hR g hi fun H1 e1 hR1 => ?_
  repeat walk_at "rd"
  exact ⟨r, tq, "not", ts, i + 1, m, pl, rfl, hR1, g, g.next hi (by rw [(isT_s c hi).1]; decide +kernel), fun d j v H' a b c d e => q _ j _ H' a b (e1.trans c) d e, fun e dd H' a b c d => qe e dd H' a b (e1.trans c) d⟩
 ·have c' : ¬ isT ts i "kept" "not" = true := by rw [c]; exact Bool.false_ne_true
  repeat walk_at "rdif"
  try dsimp only
  with_reducible refine g_cutS (fun σ' H' => σ' = [some (.ref r), none] ∧ ¬ ((tkn ts i).s ∈ (["full", "name"] : List Str) ∧ isT ts (i + 1) "sign" "(" = true) ∧ Fr [] H H') (fun σ' H' h => ?_) (fun N k => ?_)
  rotate_left
  ·repeat walk_at "rd"
   refine ⟨le_of (by simp), two_in _ _ _ _ _ fun H1 e1 => ?_⟩
   have hR1 := hR.fr (M := []) e1
   repeat walk_at "rd"
   refine g_by (fun c2 => ?_) (fun c2 => ?_)
   ·repeat walk_at "rd"
    refine g_byB (fun c3 => ?_) (fun c3 => ?_)
    ·have ep : PartR ts m pl i = AtomR ts pl "atom" i := by funext r; unfold PartR; rw [if_neg c', if_pos ⟨c2, c3⟩]
     rw [ep] at q qe
     repeat walk_at "rd"
     exact ⟨r, tq, "atom", ts, i, m, pl, rfl, hR1, g, hi, fun d j v H' a b c d e => q _ j _ H' a b (e1.nil.trans c) d e, fun e dd H' a b c d => qe e dd H' a b (e1.nil.trans c) d⟩
    ·repeat walk_at "rd"
     exact k _ _ ⟨rfl, fun z => by rw [c3] at z; exact Bool.noConfusion z.2, e1⟩
   ·repeat walk_at "rd"
    exact k _ _ ⟨rfl, fun z => c2 z.1, e1⟩
  obtain ⟨rfl, c2, e1⟩ := h
  have hR1 := hR.fr (M := []) e1
  repeat walk_at "rdif"
  try dsimp only
  with_reducible refine g_cutS (fun σ' H'' => σ' = [some (.ref r), none] ∧ ¬ ((tkn ts i).s = "name" ∧ isT ts (i + 1) "kept" "is" = true) ∧ H' = H'') (fun σ' H'' h => ?_) (fun N k => ?_)
  rotate_left
  ·repeat walk_at "rd"
   refine g_by (fun c3 => ?_) (fun c3 => ?_)
   ·repeat walk_at "rd"
    refine g_byB (fun c4 => ?_) (fun c4 => ?_)
    ·have ep : PartR ts m pl i = BindR (SumN ts m 12) (fun d j r => r = .ok (.tuple [.str "let", scD (tkn ts i).v, d], j)) (i + 2) := by funext r; unfold PartR; rw [if_neg c', if_neg c2, if_pos ⟨c3, c4⟩]
     rw [ep] at q qe
     have hn := g.next hi (by rw [c3]; decide +kernel)
     have hn2 := g.next hn (by rw [(isT_s c4 hn).1]; decide +kernel)
     repeat walk_at "rd"
     refine m_st rfl hR1 g hi fun H2 e2 hR2 => ?_
     repeat walk_at "rd"
     refine m_st rfl hR2 g hn fun H3 e3 hR3 => ?_
     repeat walk_at "rd"
     refine ⟨r, tq, ts, i + 2, m, pl, rfl, hR3, g, hn2, fun d j v H4 hl hj e4 hR4 td => ?_, fun e dd H4 hl he e4 hd => qe e dd H4 (.inl ⟨e, hl, rfl⟩) he (((e1.nil.trans e2).trans e3).trans e4) hd⟩
     repeat walk_at "rd"
     refine ⟨le_of (by simp), fun t ht => ?_⟩
     have e5 := Fr.new (M := []) (o := .tup [.str "let", (tkn ts i).v, v]) ht
     exact q _ j _ _ (.inr ⟨d, j, hl, rfl⟩) hj ((((e1.nil.trans e2).trans e3).trans e4).trans e5.nil) (hR4.fr (M := []) e5) (.tup (SqT.of upd_same) (.cons (.str _) (.cons (sc_td (g_sc g hi)) (.cons (td.fr e5) .nil))))
    ·repeat walk_at "rd"
     exact k _ _ ⟨rfl, fun z => by rw [c4] at z; exact Bool.noConfusion z.2, rfl⟩
   ·repeat walk_at "rd"
    exact k _ _ ⟨rfl, fun z => c3 z.1, rfl⟩
  obtain ⟨rfl, c3, rfl⟩ := h
  have ep : PartR ts m pl i = TestR ts m i := by funext r; unfold PartR; rw [if_neg c', if_neg c2, if_neg c3]
  rw [ep] at q qe
  repeat walk_at "rd"
  exact ⟨r, tq, ts, i, m, pl, rfl, hR1, g, hi, fun d j v H' a b c d e => q _ j _ H' a b (e1.nil.trans c) d e, fun e dd H' a b c d => qe e dd H' a b (e1.nil.trans c) d⟩
end
theorem many_fwd {ts : List Th} {item : List PyData → Nat → Res → Prop} {full : List PyData → Bool} (hf : ∀ ds, Fwd (item ds)) {ds : List PyData} {i : Nat} {r : ResL} (h : ManyR ts item full ds i r) : ∀ ds' j, r = .ok (ds', j) → i ≤ j := by
 induction h with
 | stop _ => intro ds' j e; cases e; exact Nat.le_refl _
 | full _ _ => intro ds' j e; cases e
 | bad _ _ _ => intro ds' j e; cases e
 | step a b c k ih =>
  intro ds' j e
  have := ih ds' j e
  have := hf _ _ _ _ c
  omega
theorem seq_fwd {ts : List Th} {item : List PyData → Nat → Res → Prop} {full : List PyData → Bool} (hf : ∀ ds, Fwd (item ds)) {i j : Nat} {ds : List PyData} (h : SeqR ts item full i (.ok (ds, j))) : i < j := by
 rcases h with ⟨e, _, h⟩ | ⟨d, j0, h1, h2⟩
 ·cases h
 ·have := hf _ _ _ _ h1
  have := many_fwd hf h2 ds j rfl
  omega
theorem bind_fwd {A : Nat → Res → Prop} {k : PyData → Nat → Res → Prop} (hA : Fwd A) (hk : ∀ d j d' j', k d j (.ok (d', j')) → j ≤ j') : Fwd (BindR A k) := fun i d j h => by
 rcases h with ⟨e, _, h⟩ | ⟨d0, j0, h1, h2⟩
 ·cases h
 ·have := hA _ _ _ h1
  have := hk _ _ _ _ h2
  omega
theorem testR_fwd (ts : List Th) (m : Bool) : Fwd (TestR ts m) := bind_fwd (sumN_fwd ts m 12) fun d j d' j' h => by
 split at h
 ·have := bind_fwd (sumN_fwd ts m 12) (fun d j d' j' h => by cases h; exact Nat.le_refl _) _ _ _ h
  omega
 ·cases h
theorem atomR_fwd (ts : List Th) (pl : Bool) (x : Str) : Fwd (AtomR ts pl x) := fun i d j h => by
 unfold AtomR at h
 split at h
 ·cases h
 ·split at h
  ·cases h
  ·rcases h with ⟨e, _, h⟩ | ⟨ds, j0, h1, h2⟩
   ·cases h
   ·have := seq_fwd (fun _ => termR_fwd ts) h1
    split at h2 <;> cases h2
    omega
theorem partR_fwd (ts : List Th) (m pl : Bool) : Fwd (PartR ts m pl) := fun i d j h => by
 unfold PartR at h
 split at h
 ·have := atomR_fwd _ _ _ _ _ _ h; omega
 ·split at h
  ·exact atomR_fwd _ _ _ _ _ _ h
  ·split at h
   ·have := bind_fwd (sumN_fwd ts m 12) (fun d j d' j' h => by cases h; exact Nat.le_refl _) _ _ _ h
    omega
   ·exact testR_fwd _ _ _ _ _ h
def SeqT (ts : List Th) (item : List PyData → Nat → Res → Prop) (full : List PyData → Bool) (i : Nat) (r : Res) : Prop := (∃ e, SeqR ts item full i (.error e) ∧ r = .error e) ∨ ∃ ds j, SeqR ts item full i (.ok (ds, j)) ∧ r = .ok (.tuple ds, j)
def PartsR (ts : List Th) (m pl : Bool) (most : Nat) : Nat → Res → Prop := SeqT ts (fun _ => PartR ts m pl) (fun ds => decide (ds.length = most))
def isFold : PyData → Bool
 | .tuple (.str s :: _) => decide (s = "fold")
 | _ => false
def foldsW : List Str := ["sum", "least", "most"]
def ArgR (ts : List Th) (folded : Bool) (i : Nat) (r : Res) : Prop := if (tkn ts i).s = "value" then r = .ok (valD (tkn ts i), i + 1)
 else if (tkn ts i).s ≠ "kept" then (if (tkn ts i).s = "name" then r = .ok (varD (tkn ts i), i + 1) else r = .error i)
 else if folded = true ∨ (¬ (tkn ts i).v = .str "count" ∧ ¬ (tkn ts i).v ∈ foldsW.map V.str) then r = .error i
 else if (tkn ts i).v = .str "count" then r = .ok (.tuple [.str "fold", scD (tkn ts i).v, .none], i + 1)
 else if (tkn ts (i + 1)).s = "name" then r = .ok (.tuple [.str "fold", scD (tkn ts i).v, scD (tkn ts (i + 1)).v], i + 2) else r = .error (i + 1)
theorem argR_fwd (ts : List Th) (b : Bool) : Fwd (ArgR ts b) := fun i d j h => by
 unfold ArgR at h
 repeat' (split at h)
 all_goals first
  | (cases h; done)
  | (cases h; omega)
def ArgsR (ts : List Th) : Nat → Res → Prop := SeqT ts (fun ds => ArgR ts (ds.any isFold)) (fun ds => decide (ds.length = 4))
def spParts (K : PySem.W.Frag) (C B : Addr) : Sp := fun vs H Q E => ∃ (r tq : Addr) (most : Nat) (ts : List Th) (i : Nat) (m pl : Bool), vs = [.ref r, .int (most : Int)] ∧ 1 ≤ most ∧ most ≤ 100 ∧ RowAt K C H r tq ts i m pl ∧ GoodTs ts ∧ i < ts.length ∧ RdOk K C B (PartsR ts m pl most) H r tq ts i m pl Q E
def spArg (K : PySem.W.Frag) (C B : Addr) : Sp := fun vs H Q E => ∃ (r tq : Addr) (b : Bool) (ts : List Th) (i : Nat) (m pl : Bool), vs = [.ref r, .bl b] ∧ RowAt K C H r tq ts i m pl ∧ GoodTs ts ∧ i < ts.length ∧ RdOk K C B (ArgR ts b) H r tq ts i m pl Q E
abbrev s_read_parts : Stmt := topS 37
theorem sc_read_parts : FnScope ["row", "most", "found"] ["row", "most"] (defScope s_read_parts) := ⟨rfl, rfl, rfl, by decide +kernel, rfl, by decide +kernel, by decide +kernel⟩
abbrev s_read_arg : Stmt := topS 38
theorem sc_read_arg : FnScope ["row", "folded", "how"] ["row", "folded"] (defScope s_read_arg) := ⟨rfl, rfl, rfl, by decide +kernel, rfl, by decide +kernel, by decide +kernel⟩
abbrev s_read_args : Stmt := topS 39
theorem sc_read_args : FnScope ["row", "found", "arg"] ["row"] (defScope s_read_args) := ⟨rfl, rfl, rfl, by decide +kernel, rfl, by decide +kernel, by decide +kernel⟩
section
variable {P : Program} {w : World} {K : PySem.W.Frag} {mg : Str → Option Value} {base : Heap} {a_BadText a_TESTS a_FOLDS C : Addr} {f : Addr} {fd : FuncData}
theorem ok_read_parts (F : FnP K "read_parts" s_read_parts f fd) (B : BiR2 mg) (M : RowM P w K mg base C a_BadText) (C_read_part : CalXN P w K mg base 52 "read_part" (spRd K C a_BadText PartR)) : FnG P w K mg base (L2N.CX P w) 54 f fd ["row", "most"] (spParts K C a_BadText) := by
 refine okXN F sc_read_parts (fun vs H Q E h => ?_) (fun cdv A outer s H vs Q E hr h tk => ?_)
 ·obtain ⟨r, tq, most, ts, i, m, pl, rfl, _⟩ := h
  rfl
 obtain ⟨r, tq, most, ts, i, m, pl, rfl, hm1, hm2, hR, g, hi, q, qe⟩ := h
 have M_is_sign_1 := M.is1
 have M_wrong_0 := M.wr
 have M_step_0 := M.st
 refine ⟨_, (pss_cons (ps_set (i := 2) sc_read_parts.nd rfl (.inl rfl) (pe_lst (pa_cons (pe_calXN C_read_part tk hr rfl (pa_cons (pv 0) pa_nil)) pa_nil)))
 (pss_cons (ps_while (L2.passes_of rfl) (pt_val (pe_metG M_is_sign_1 hr (pv 0) (pa_cons pe_str pa_nil))) (pss_cons (ps_expr (pe_metG0 M_step_0 hr (pv 0)))
 (pss_cons (ps_if (pt_cmpR (kOp (K := K) (r := uEq) rfl (opu_eq hr.units)) (pe_callB (kCall (K := K) (r := uLen) rfl callu_len) (by rfl) B.b_len (by decide +kernel) (pa_cons (pv 2) pa_nil)) (pv 1) (nomark _)) (pss_one (ps_expr (pe_metX0N M_wrong_0 tk hr (pv 0)))) pss_nil)
 (pss_one (ps_expr (kBM (K := K) rfl (pe_bm PySem.F.plainAttrs_list PySem.F.slot_list_append PySem.F.type_list_append mt_append (pv 2) (pa_cons (pe_calXN C_read_part tk hr rfl (pa_cons (pv 0) pa_nil)) pa_nil))))))))
 (pss_one (ps_ret (pe_callTy (kCall (K := K) (r := uTuple) rfl callu_tuple) (by rfl) B.b_tuple (by decide +kernel) (pa_cons (pv 2) pa_nil)))))), rd_start (σ0 := [some (.ref r), some (.int (most : Int)), none]) rfl ?_⟩
 repeat walk_at "rd"
 refine ⟨r, tq, ts, i, m, pl, rfl, hR, g, hi, fun d0 j0 v0 H3 hl hj e3 hR3 td => ?_, fun e dd H3 hl he e3 hd => qe e dd H3 (.inl ⟨e, .inl ⟨e, hl, rfl⟩, rfl⟩) he (e3) hd⟩
 repeat walk_at "rd"
 refine ⟨le_of (by simp), fun L hL => ?_⟩
 have e4 : Fr [] H3 (upd H3 L (.lst [v0])) := Fr.new hL
 obtain ⟨Lr, Lq⟩ := hR3.off hL
 have e13 := e3
 have hLH : H L = none := e13.back (fun z => Lr (List.mem_singleton.mp z)) hL
 repeat walk_at "rd"
 refine g_while2 (fun σ H' => ∃ ds us j, σ = [some (.ref r), some (.int (most : Int)), some (.ref L)] ∧ RowAt K C H' r tq ts j m pl ∧ j < ts.length ∧ H' L = some (.lst us) ∧ TdAll K H' us ds ∧ Fr [r] H H' ∧ ds.length ≤ most ∧ ∀ res, ManyR ts (fun _ => PartR ts m pl) (fun ds => decide (ds.length = most)) ds j res → SeqR ts (fun _ => PartR ts m pl) (fun ds => decide (ds.length = most)) i res) (fun _ H' => spotOf r ts.length H')
  ⟨[d0], [v0], j0, rfl, hR3.fr (M := []) e4, hj, upd_same, .cons (td.fr e4) .nil, e13.trans e4.nil, by simp; omega, fun res h => .inr ⟨d0, j0, hl, h⟩⟩ (fun σ H5 h => ?_)
 obtain ⟨ds, us, j, rfl, hR5, hj5, hL5, td5, e5, hdl, hlo⟩ := h
 have ul := tda_len5 td5
 repeat walk_at "rd"
 cases c : isT ts j "sign" "," with
 | true =>
  refine g_tt rfl ?_
  refine g_wt ?_
  rw [hR5.spot]
  have hn6 := g.next hj5 (by rw [(isT_s c hj5).1]; decide +kernel)
  repeat walk_at "rd"
  refine m_st rfl hR5 g hj5 fun H6 e6 hR6 => ?_
  have hL6 := e6.at hL5 (fun z => Lr (List.mem_singleton.mp z))
  repeat walk_at "rd"
  refine g_by (fun c6 => ?_) (fun c6 => ?_)
  ·have c7 : (us.length : Int) = most := c6
   repeat walk_at "rd"
   exact m_wr rfl hR6 g hn6 fun dd H' e hd => qe (j + 1) dd H' (.inl ⟨j + 1, hlo _ (.full c (decide_eq_true (by omega))), rfl⟩) hn6 ((e5.trans e6).trans e.nil) hd
  ·have c7 : ¬ (us.length : Int) = most := c6
   have c6' : (fun ds => decide (ds.length = most)) ds = false := decide_eq_false (by omega)
   repeat walk_at "rd"
   refine ⟨r, tq, ts, j + 1, m, pl, rfl, hR6, g, hn6, fun d7 j7 v7 H7 hl7 hj7 e7 hR7 td7 => ?_, fun e dd H7 hl7 he e7 hd => qe e dd H7 (.inl ⟨e, hlo _ (.bad c c6' hl7), rfl⟩) he ((e5.trans e6).trans e7) hd⟩
   have hL7 := e7.at hL6 (fun z => Lr (List.mem_singleton.mp z))
   have fw := partR_fwd ts m pl _ _ _ hl7
   refine ⟨L, us, v7, rfl, rfl, hL7, lt_of (by omega), ?_⟩
   have e8 : Fr [L] H7 (upd H7 L (.lst (us ++ [v7]))) := Fr.mut (List.mem_singleton.mpr rfl) hL7 nofix_lst
   have hR8 := hR7.frL e8 Lr Lq
   refine ⟨⟨ds ++ [d7], us ++ [v7], j7, rfl, hR8, hj7, upd_same, (tda_snoc4 (td5.fr (e6.trans e7)) td7).fr e8, ((e5.trans e6).trans e7).over hLH, by rw [List.length_append]; simp; omega, fun res h => hlo res (.step c c6' hl7 h)⟩, ?_⟩
   rw [hR8.spot]
   omega
 | false =>
  refine g_ff rfl ?_
  repeat walk_at "rd"
  refine g_tupleL (SqL.of hL5) fun t ht => ?_
  have e7 : Fr [] H5 (upd H5 t (.tup us)) := Fr.new ht
  exact q _ j _ _ (.inr ⟨ds, j, hlo _ (.stop c), rfl⟩) hj5 (e5.trans e7.nil) (hR5.fr (M := []) e7) (.tup (SqT.of upd_same) (td5.fr e7))
end
theorem g_neSc {K : PySem.W.Frag} {H : Hp} {Q : VK} {v : V} {z : Str} (hz : PyData.strOk z = true) (h : isSc v = true) (q : Q (.bl (!decide (v = .str z))) H) : uNe K v (.str z) H Q := by
 cases v with
 | str a => exact .inl ⟨rfl, q⟩
 | int i => exact g_neD (.int i) (.str z) (by simp [SeqAt.shaped, PyData.canLay0, PyData.depth, hz]) (by simp [SeqAt.shaped, PyData.canLay0, PyData.depth, hz]) (by rw [decide_eq_false (fun e => nomatch e)] at q; exact q)
 | bl b => exact g_neD (.bl b) (.str z) (by simp [SeqAt.shaped, PyData.canLay0, PyData.depth, hz]) (by simp [SeqAt.shaped, PyData.canLay0, PyData.depth, hz]) (by rw [decide_eq_false (fun e => nomatch e)] at q; exact q)
 | non => exact g_neD .non (.str z) (by simp [SeqAt.shaped, PyData.canLay0, PyData.depth, hz]) (by simp [SeqAt.shaped, PyData.canLay0, PyData.depth, hz]) (by rw [decide_eq_false (fun e => nomatch e)] at q; exact q)
 | _ => cases h
section
variable {P : Program} {w : World} {K : PySem.W.Frag} {mg : Str → Option Value} {base : Heap} {a_BadText a_TESTS a_FOLDS C : Addr} {f : Addr} {fd : FuncData}
theorem ok_read_arg (F : FnP K "read_arg" s_read_arg f fd) (G : GlR K mg a_TESTS a_FOLDS) (M : RowM P w K mg base C a_BadText) : FnG P w K mg base (L2N.CX P w) 8 f fd ["row", "folded"] (spArg K C a_BadText) := by
 refine okXN F sc_read_arg (fun vs H Q E h => ?_) (fun cdv A outer s H vs Q E hr h tk => ?_)
 ·obtain ⟨r, tq, b, ts, i, m, pl, rfl, _⟩ := h
  rfl
 obtain ⟨r, tq, b, ts, i, m, pl, rfl, hR, g, hi, q, qe⟩ := h
 have M_sort_here_0 := M.sh0
 have M_thing_0 := M.th0
 have M_wrong_0 := M.wr
 have M_step_0 := M.st
 have M_need_name_0 := M.nn
 have g_FOLDS := G.f
 refine ⟨_, (pss_cons (ps_if (pt_cmpR (kOp (K := K) (r := uEq) rfl (opu_eq hr.units)) (pe_metG0 M_sort_here_0 hr (pv 0)) pe_str (nomark _)) (pss_one (ps_ret (pe_tup (pa_cons pe_str (pa_cons (pe_metG0 M_step_0 hr (pv 0)) pa_nil))))) pss_nil)
 (pss_cons (ps_if (pt_cmpR (kOp (K := K) (r := uNe) rfl (opu_ne hr.units)) (pe_metG0 M_sort_here_0 hr (pv 0)) pe_str (nomark _)) (pss_one (ps_ret (pe_tup (pa_cons pe_str (pa_cons (pe_metX0N M_need_name_0 tk hr (pv 0)) pa_nil))))) pss_nil)
 (pss_cons (ps_if (PW.pt (pw_or (pt_val (pv 1)) (pw_or1 (PW.pt (pw_and (pt_cmpR (kOp (K := K) (r := uNe) rfl (opu_ne hr.units)) (pe_metG0 M_thing_0 hr (pv 0)) pe_str (nomark _)) (pw_and1 (pt_cmpR (kOp (K := K) (r := uNotIn) rfl opu_notIn) (pe_metG0 M_thing_0 hr (pv 0)) (pe_glob (v := .ref a_FOLDS) rfl g_FOLDS rfl) (by rfl)))))))) (pss_one (ps_expr (pe_metX0N M_wrong_0 tk hr (pv 0)))) pss_nil)
 (pss_cons (ps_set (i := 2) sc_read_arg.nd rfl (.inl rfl) (pe_metG0 M_step_0 hr (pv 0)))
 (pss_one (ps_ret (pe_tup (pa_cons pe_str (pa_cons (pv 2) (pa_cons (pe_ifExp (pt_cmpR (kOp (K := K) (r := uEq) rfl (opu_eq hr.units)) (pv 2) pe_str (nomark _)) pe_non (pe_metX0N M_need_name_0 tk hr (pv 0))) pa_nil)))))))))), rd_start (σ0 := [some (.ref r), some (.bl b), none]) rfl ?_⟩
 repeat walk_at "rd"
 refine g_by (fun c => ?_) (fun c => ?_)
 ·repeat walk_at "rd"
  refine m_st rfl hR g hi fun H1 e1 hR1 => ?_
  repeat walk_at "rd"
  refine ⟨le_of (by simp), fun t ht => ?_⟩
  have e2 := Fr.new (M := []) (o := .tup [.str "value", (tkn ts i).v]) ht
  exact q _ (i + 1) _ _ (by unfold ArgR; rw [if_pos c]; rfl) (g.next hi (by rw [c]; decide +kernel)) (e1.trans e2.nil) (hR1.fr (M := []) e2) (.tup (SqT.of upd_same) (.cons (.str _) (.cons (sc_td (g_sc g hi)) .nil)))
 ·repeat walk_at "rd"
  refine g_byN (fun c2 => ?_) (fun c2 => ?_)
  ·repeat walk_at "rd"
   refine m_nn rfl hR g hi (fun H1 c3 e1 hR1 => ?_) (fun dd H1 c3 e1 hd => ?_)
   ·repeat walk_at "rd"
    refine ⟨le_of (by simp), fun t ht => ?_⟩
    have e2 := Fr.new (M := []) (o := .tup [.str "var", (tkn ts i).v]) ht
    exact q _ (i + 1) _ _ (by unfold ArgR; rw [if_neg c, if_pos c2, if_pos c3]; rfl) (g.next hi (by rw [c3]; decide +kernel)) (e1.trans e2.nil) (hR1.fr (M := []) e2) (.tup (SqT.of upd_same) (.cons (.str _) (.cons (sc_td (g_sc g hi)) .nil)))
   ·exact qe i dd H1 (by unfold ArgR; rw [if_neg c, if_pos c2, if_neg c3]) hi e1.nil hd
  ·have c2' : ¬ (tkn ts i).s ≠ "kept" := fun z => z c2
   repeat walk_at "rdif"
   try dsimp only
   with_reducible refine g_cutS (fun σ' H' => σ' = [some (.ref r), some (.bl b), none] ∧ ¬ (b = true ∨ (¬ (tkn ts i).v = .str "count" ∧ ¬ (tkn ts i).v ∈ foldsW.map V.str)) ∧ H = H') (fun σ' H' h => ?_) (fun N k => ?_)
   rotate_left
   ·repeat walk_at "rd"
    refine g_byB (fun c3 => ?_) (fun c3 => ?_)
    ·repeat walk_at "rd"
     exact m_wr rfl hR g hi fun dd H' e hd => qe i dd H' (by unfold ArgR; rw [if_neg c, if_neg c2', if_pos (.inl c3)]) hi e.nil hd
    ·have c3' : ¬ b = true := by rw [c3]; exact Bool.false_ne_true
     repeat walk_at "rd"
     refine g_neSc (by decide +kernel) (g_sc g hi) ?_
     repeat walk_at "rd"
     refine g_byN (fun c4 => ?_) (fun c4 => ?_)
     ·repeat walk_at "rd"
      refine g_notInSc (ws := foldsW) (g_sc g hi) (.inr (G.ft _)) ?_
      repeat walk_at "rd"
      refine g_byN (fun c5 => ?_) (fun c5 => ?_)
      ·repeat walk_at "rd"
       exact m_wr rfl hR g hi fun dd H' e hd => qe i dd H' (by unfold ArgR; rw [if_neg c, if_neg c2', if_pos (.inr ⟨c4, c5⟩)]) hi e.nil hd
      ·repeat walk_at "rd"
       exact k _ _ ⟨rfl, fun z => z.elim c3' fun z => z.2 c5, rfl⟩
     ·repeat walk_at "rd"
      exact k _ _ ⟨rfl, fun z => z.elim c3' fun z => z.1 c4, rfl⟩
   obtain ⟨rfl, c3, rfl⟩ := h
   have hn := g.next hi (by rw [c2]; decide +kernel)
   repeat walk_at "rd"
   refine m_st rfl hR g hi fun H1 e1 hR1 => ?_
   repeat walk_at "rd"
   refine g_eqSc (by decide +kernel) (g_sc g hi) ?_
   repeat walk_at "rd"
   refine g_by (fun c4 => ?_) (fun c4 => ?_)
   ·repeat walk_at "rd"
    refine ⟨le_of (by simp), fun t ht => ?_⟩
    have e2 := Fr.new (M := []) (o := .tup [.str "fold", (tkn ts i).v, .non]) ht
    exact q _ (i + 1) _ _ (by unfold ArgR; rw [if_neg c, if_neg c2', if_neg c3, if_pos c4]) hn (e1.trans e2.nil) (hR1.fr (M := []) e2) (.tup (SqT.of upd_same) (.cons (.str _) (.cons (sc_td (g_sc g hi)) (.cons .non .nil))))
   ·repeat walk_at "rd"
    refine m_nn rfl hR1 g hn (fun H2 c5 e2 hR2 => ?_) (fun dd H2 c5 e2 hd => ?_)
    ·repeat walk_at "rd"
     refine ⟨le_of (by simp), fun t ht => ?_⟩
     have e3 := Fr.new (M := []) (o := .tup [.str "fold", (tkn ts i).v, (tkn ts (i + 1)).v]) ht
     exact q _ (i + 2) _ _ (by unfold ArgR; rw [if_neg c, if_neg c2', if_neg c3, if_neg c4, if_pos c5]) (g.next hn (by rw [c5]; decide +kernel)) ((e1.trans e2).trans e3.nil) (hR2.fr (M := []) e3) (.tup (SqT.of upd_same) (.cons (.str _) (.cons (sc_td (g_sc g hi)) (.cons (sc_td (g_sc g hn)) .nil))))
    ·exact qe (i + 1) dd H2 (by unfold ArgR; rw [if_neg c, if_neg c2', if_neg c3, if_neg c4, if_neg c5]) hn (e1.trans e2.nil) hd
end
theorem argR_shape {ts : List Th} {b : Bool} {i j : Nat} {d : PyData} (h : ArgR ts b i (.ok (d, j))) : ∃ s l, d = .tuple (.str s :: l) := by
 unfold ArgR at h
 repeat' (split at h)
 all_goals first
  | (cases h; done)
  | (cases h; exact ⟨_, _, rfl⟩)
section
variable {P : Program} {w : World} {K : PySem.W.Frag} {mg : Str → Option Value} {base : Heap} {a_BadText a_TESTS a_FOLDS C : Addr} {f : Addr} {fd : FuncData}
theorem ok_read_args (F : FnP K "read_args" s_read_args f fd) (B : BiR2 mg) (G : GlR K mg a_TESTS a_FOLDS) (M : RowM P w K mg base C a_BadText) (C_read_arg : CalXN P w K mg base 8 "read_arg" (spArg K C a_BadText)) : FnG P w K mg base (L2N.CX P w) 10 f fd ["row"] (spRd K C a_BadText fun ts _ _ => ArgsR ts) := by
 refine okXN F sc_read_args (fun vs H Q E h => ?_) (fun cdv A outer s H vs Q E hr h tk => ?_)
 ·obtain ⟨r, tq, ts, i, m, pl, rfl, _⟩ := h
  rfl
 obtain ⟨r, tq, ts, i, m, pl, rfl, hR, g, hi, q, qe⟩ := h
 have M_is_sign_1 := M.is1
 have M_wrong_0 := M.wr
 have M_step_0 := M.st
 obtain ⟨tM, g_MOST_TERMS⟩ := G.mt
 refine ⟨_, (pss_cons (ps_set (i := 1) sc_read_args.nd rfl (.inl rfl) (pe_lst (pa_cons (pe_calXN C_read_arg tk hr rfl (pa_cons (pv 0) (pa_cons pe_bl pa_nil))) pa_nil)))
 (pss_cons (ps_while (L2.passes_of rfl) (pt_val (pe_metG M_is_sign_1 hr (pv 0) (pa_cons pe_str pa_nil))) (pss_cons (ps_expr (pe_metG0 M_step_0 hr (pv 0)))
 (pss_cons (ps_if (pt_cmpR (kOp (K := K) (r := uEq) rfl (opu_eq hr.units)) (pe_callB (kCall (K := K) (r := uLen) rfl callu_len) (by rfl) B.b_len (by decide +kernel) (pa_cons (pv 1) pa_nil)) (pe_glob (v := .int z_MOST_TERMS) rfl g_MOST_TERMS ⟨_, rfl⟩) (nomark _)) (pss_one (ps_expr (pe_metX0N M_wrong_0 tk hr (pv 0)))) pss_nil)
 (pss_one (ps_expr (kBM (K := K) rfl (pe_bm PySem.F.plainAttrs_list PySem.F.slot_list_append PySem.F.type_list_append mt_append (pv 1) (pa_cons (pe_calXN C_read_arg tk hr rfl (pa_cons (pv 0) (pa_cons (pe_callB (kCall (K := K) (r := rAny) rfl (cr_any rfl)) (by rfl) B.b_any (by decide +kernel) (pa_cons (pe_lc (own := [("arg", 2)]) (g := gName 2) (tt := tYes) rfl sc_read_args.nd (pi_listK (K := K) rfl (pv 1)) (blkOk_by (own := [("arg", 2)]) (N := ["row", "found", "arg"]) (sc := defScope s_read_args) (by decide +kernel)) (fun _ _ _ _ _ => (by exact (pg_name (i := 2) sc_read_args.nd rfl (by first | exact Or.inl rfl | exact Or.inr rfl)))) (fun _ _ _ _ _ => pts_nil) (fun _ _ _ _ _ => (by exact (pe_cmpR (kOp (K := K) (r := uEq) rfl (opu_eq hr.units)) (pe_ix (kIx (K := K) (r := rIx) rfl ix_seq) (pv 2) pe_int (fun _ _ => rfl)) pe_str (nomark _))))) pa_nil)) pa_nil))) pa_nil))))))))
 (pss_one (ps_ret (pe_callTy (kCall (K := K) (r := uTuple) rfl callu_tuple) (by rfl) B.b_tuple (by decide +kernel) (pa_cons (pv 1) pa_nil)))))), rd_start (σ0 := [some (.ref r), none, none]) rfl ?_⟩
 repeat walk_at "rd"
 refine ⟨r, tq, false, ts, i, m, pl, rfl, hR, g, hi, fun d0 j0 v0 H3 hl hj e3 hR3 td => ?_, fun e dd H3 hl he e3 hd => qe e dd H3 (.inl ⟨e, .inl ⟨e, hl, rfl⟩, rfl⟩) he (e3) hd⟩
 repeat walk_at "rd"
 refine ⟨le_of (by simp), fun L hL => ?_⟩
 have e4 : Fr [] H3 (upd H3 L (.lst [v0])) := Fr.new hL
 obtain ⟨Lr, Lq⟩ := hR3.off hL
 have hLH : H L = none := e3.back (fun z => Lr (List.mem_singleton.mp z)) hL
 repeat walk_at "rd"
 refine g_while2 (fun σ H' => ∃ ds us j, σ = [some (.ref r), some (.ref L), none] ∧ RowAt K C H' r tq ts j m pl ∧ j < ts.length ∧ H' L = some (.lst us) ∧ TdAll K H' us ds ∧ Fr [r] H H' ∧ ds.length ≤ 4 ∧ (∀ d ∈ ds, ∃ s l, d = .tuple (.str s :: l)) ∧ ∀ res, ManyR ts (fun ds => ArgR ts (ds.any isFold)) (fun ds => decide (ds.length = 4)) ds j res → SeqR ts (fun ds => ArgR ts (ds.any isFold)) (fun ds => decide (ds.length = 4)) i res) (fun _ H' => spotOf r ts.length H')
  ⟨[d0], [v0], j0, rfl, hR3.fr (M := []) e4, hj, upd_same, .cons (td.fr e4) .nil, e3.trans e4.nil, by simp, fun d hd => by rw [List.mem_singleton.mp hd]; exact argR_shape hl, fun res h => .inr ⟨d0, j0, hl, h⟩⟩ (fun σ H5 h => ?_)
 obtain ⟨ds, us, j, rfl, hR5, hj5, hL5, td5, e5, hdl, hsh, hlo⟩ := h
 have ul := tda_len5 td5
 repeat walk_at "rd"
 cases c : isT ts j "sign" "," with
 | true =>
  refine g_tt rfl ?_
  refine g_wt ?_
  rw [hR5.spot]
  have hn6 := g.next hj5 (by rw [(isT_s c hj5).1]; decide +kernel)
  repeat walk_at "rd"
  refine m_st rfl hR5 g hj5 fun H6 e6 hR6 => ?_
  have hL6 := e6.at hL5 (fun z => Lr (List.mem_singleton.mp z))
  have td6 := td5.fr e6
  repeat walk_at "rd"
  refine g_by (fun c6 => ?_) (fun c6 => ?_)
  ·have c7 : (us.length : Int) = 4 := c6
   repeat walk_at "rd"
   exact m_wr rfl hR6 g hn6 fun dd H' e hd => qe (j + 1) dd H' (.inl ⟨j + 1, hlo _ (.full c (decide_eq_true (by omega))), rfl⟩) hn6 ((e5.trans e6).trans e.nil) hd
  ·have c7 : ¬ (us.length : Int) = 4 := c6
   have c6' : decide (ds.length = 4) = false := decide_eq_false (by omega)
   repeat walk_at "rd"
   refine ⟨L, rfl, ⟨_, SqL.of hL6⟩, fun D hD => lc_it (walk_list (xs := us)) (fun i H' => Fr [] H6 H' ∧ H' D = some (.lst (((ds.take i).map isFold).map V.bl))) ⟨Fr.new hD, upd_same⟩ (fun i H' _ h => SqL.of (h.1.at hL6 (fun z => nomatch z))) (fun i' y H7 H8 hi' h yy => ?_) (fun H7 h => ?_)⟩
   ·obtain ⟨rfl, hy⟩ := yy
    obtain ⟨e7, h7⟩ := h
    obtain ⟨d, hd, tdd⟩ := (tda_get (f := id) (show TdAll K H6 us (ds.map id) by rw [List.map_id]; exact td6)).2 i' y hy
    obtain ⟨s0, l0, rfl⟩ := hsh d (List.mem_of_getElem? hd)
    obtain ⟨a0, xs0, rfl, hx0, hxs0⟩ := Td.tuple_inv tdd
    obtain ⟨x0, xr, rfl, hx1⟩ : ∃ x0 xr, xs0 = x0 :: xr ∧ Td K H6 x0 (.str s0) := by
     cases hxs0 with
     | cons a b => exact ⟨_, _, rfl, a⟩
    cases hx1.str_inv
    repeat walk_at "rd"
    refine ⟨rfl, ?_⟩
    repeat walk_at "rd"
    refine g_ixT (e7.tup hx0) (atI_nat (j := 0) rfl) ?_
    repeat walk_at "rd"
    refine ⟨_, h7, lt_of (by rw [List.length_map, List.length_map, List.length_take]; omega), e7.over hD, ?_⟩
    rw [upd_same, List.take_add_one, hd, List.map_append, List.map_append]
    rfl
   ·obtain ⟨e7, h7⟩ := h
    rw [show us.length = ds.length from ul, List.take_length] at h7
    have hR7 := hR6.fr (M := []) e7
    have hL7 := e7.at hL6 (fun z => nomatch z)
    repeat walk_at "rd"
    refine ⟨D, _, rfl, SqL.of h7, ?_⟩
    have ea : (ds.map isFold).any id = ds.any isFold := by rw [List.any_map]; rfl
    rw [ea]
    repeat walk_at "rd"
    refine ⟨r, tq, ds.any isFold, ts, j + 1, m, pl, rfl, hR7, g, hn6, fun d8 j8 v8 H8 hl8 hj8 e8 hR8 td8 => ?_, fun e dd H8 hl8 he e8 hd => qe e dd H8 (.inl ⟨e, hlo _ (.bad c c6' hl8), rfl⟩) he (((e5.trans e6).trans e7.nil).trans e8) hd⟩
    have hL8 := e8.at hL7 (fun z => Lr (List.mem_singleton.mp z))
    have fw := argR_fwd ts _ _ _ _ hl8
    refine ⟨L, us, v8, rfl, rfl, hL8, lt_of (by omega), ?_⟩
    have e9 : Fr [L] H8 (upd H8 L (.lst (us ++ [v8]))) := Fr.mut (List.mem_singleton.mpr rfl) hL8 nofix_lst
    have hR9 := hR8.frL e9 Lr Lq
    refine ⟨⟨ds ++ [d8], us ++ [v8], j8, rfl, hR9, hj8, upd_same, (tda_snoc4 (td6.fr (e7.nil.trans e8)) td8).fr e9, (((e5.trans e6).trans e7.nil).trans e8).over hLH, by rw [List.length_append]; simp; omega, fun d hd => ?_, fun res h => hlo res (.step c c6' hl8 h)⟩, ?_⟩
    ·rcases List.mem_append.mp hd with hd | hd
     ·exact hsh d hd
     ·rw [List.mem_singleton.mp hd]; exact argR_shape hl8
    ·rw [hR9.spot]
     omega
 | false =>
  refine g_ff rfl ?_
  repeat walk_at "rd"
  refine g_tupleL (SqL.of hL5) fun t ht => ?_
  have e7 : Fr [] H5 (upd H5 t (.tup us)) := Fr.new ht
  exact q _ j _ _ (.inr ⟨ds, j, hlo _ (.stop c), rfl⟩) hj5 (e5.trans e7.nil) (hR5.fr (M := []) e7) (.tup (SqT.of upd_same) (td5.fr e7))
end
abbrev s_Row_ini : Stmt := methS 29 0
theorem sc_Row_ini : FnScope ["self", "text", "mine", "plain"] ["self", "text", "mine", "plain"] (defScope s_Row_ini) := ⟨rfl, rfl, rfl, by decide +kernel, rfl, by decide +kernel, by decide +kernel⟩
def spRowI (K : PySem.W.Frag) (C B : Addr) : Sp := fun vs H Q E => ∃ (x : Addr) (z : Str) (m pl : Bool) (dx : Addr), vs = [.ref x, .str z, .bl m, .bl pl] ∧ H x = some (.ins C dx []) ∧ Tx 9000 z ∧ (∀ ts tq H', Cuts z 0 [] (.ok ts) → Fr [x] H H' → RowAt K C H' x tq ts 0 m pl → Q .non H') ∧
 ∀ n d H', Cuts z 0 [] (.error n) → Fr [x] H H' → H' d = some (.xd (badAt n)) → E (.ref B) (some d) H'
section
variable {P : Program} {w : World} {K : PySem.W.Frag} {mg : Str → Option Value} {base : Heap} {a_BadText C : Addr} {f : Addr} {fd : FuncData}
theorem ok_Row_ini (F : FnMd K "__init__" "Row.__init__" s_Row_ini [] [("mine", .bl false), ("plain", .bl true)] f fd) (R : RowC K C) (C_things_of : CalXN P w K mg base 28 "things_of" (spThings a_BadText K)) : FnG P w K mg base (L2N.CX P w) 30 f fd ["self", "text", "mine", "plain"] (spRowI K C a_BadText) := by
 refine okXN F sc_Row_ini (fun vs H Q E h => ?_) (fun cdv A outer s H vs Q E hr h tk => ?_)
 ·obtain ⟨x, z, m, pl, dx, rfl, _⟩ := h
  rfl
 obtain ⟨x, z, m, pl, dx, rfl, hx, hz, q, qe⟩ := h
 refine ⟨_, (pss_cons (kSFld (K := K) rfl (ps_fld (pv 0) (pe_calXN C_things_of tk hr rfl (pa_cons (pv 1) pa_nil)) (by rfl)))
 (pss_cons (kSFld (K := K) rfl (ps_fld (pv 0) pe_int (by rfl)))
 (pss_cons (kSFld (K := K) rfl (ps_fld (pv 0) (pv 2) (by rfl)))
 (pss_one (kSFld (K := K) rfl (ps_fld (pv 0) (pv 3) (by rfl))))))), rd_start (σ0 := [some (.ref x), some (.str z), some (.bl m), some (.bl pl)]) rfl ?_⟩
 repeat walk_at "rd"
 refine ⟨z, rfl, hz, fun ts p H1 hc e1 hp h1 => ?_, fun n d H1 hc e1 hd => qe n d H1 hc e1.nil hd⟩
 obtain ⟨us, u1, u2⟩ := h1
 have hx1 := e1.at hx (fun z => nomatch z)
 have px : p ≠ x := fun z => by rw [z, hx] at hp; cases hp
 repeat walk_at "rd"
 refine ⟨x, C, dx, _, rfl, hx1, R.cls, R.a1, (by decide), ?_⟩
 repeat walk_at "rd"
 refine ⟨x, C, dx, _, rfl, upd_same, R.cls, R.a2, Nat.le_of_ble_eq_true rfl, ?_⟩
 rw [upd_upd]
 repeat walk_at "rd"
 refine ⟨x, C, dx, _, rfl, upd_same, R.cls, R.a3, Nat.le_of_ble_eq_true rfl, ?_⟩
 rw [upd_upd]
 repeat walk_at "rd"
 refine ⟨x, C, dx, _, rfl, upd_same, R.cls, R.a4, Nat.le_of_ble_eq_true rfl, ?_⟩
 rw [upd_upd]
 have e2 : Fr [x] H1 (upd H1 x (.ins C dx (rowFs p 0 m pl))) := Fr.mut (List.mem_singleton.mpr rfl) hx1 (fun z => z)
 refine q ts p _ hc (e1.nil.trans e2) ⟨⟨dx, p, us, upd_same, e2.at u1 (fun z => px (List.mem_singleton.mp z)), u2.fr e2⟩, fun dx' p' i' m' pl' h' => ?_⟩
 rw [upd_same] at h'
 injection h' with h'
 injection h' with _ _ h'
 exact (rowFs_inj (i := 0) (m := m) (pl := pl) h').symm
end
theorem Cuts.len {z : Str} {n : Nat} {ts ts' : List Th} {r : Except Nat (List Th)} (h : Cuts z n ts r) (e : r = .ok ts') (hn : n ≤ z.length + 1) (hl : ts.length ≤ n) : ts'.length ≤ z.length + 2 := by
 induction h with
 | stop l => cases e; rw [List.length_append]; simp; omega
 | skip a b c ih => exact ih e (by omega) (by omega)
 | bad a b c => cases e
 | step a b c d ih =>
  have := nextT_lt c
  refine ih e (by omega) ?_
  rw [List.length_append]; simp; omega
theorem Cuts.goodTs {z : Str} {ts : List Th} (h : Cuts z 0 [] (.ok ts)) (hz : z.length ≤ 8999) : GoodTs ts := by
 obtain ⟨b, rfl, hb⟩ := Cuts.good h rfl (fun _ z => nomatch z)
 have hl := Cuts.len h rfl (by omega) (by simp)
 refine ⟨fun t ht => ?_, by rw [List.length_append]; simp, fun i t ht => ?_, by omega⟩
 ·rcases List.mem_append.mp ht with h1 | h1
  ·exact (hb t h1).1
  ·rw [List.mem_singleton.mp h1]; rfl
 ·rw [List.length_append]
  by_cases c : i < b.length
  ·rw [List.getElem?_append_left c] at ht
   refine ⟨fun e => absurd e (hb t (List.mem_of_getElem? ht)).2, fun e => ?_⟩
   simp at e
   omega
  ·rw [List.getElem?_append_right (by omega)] at ht
   have hi : i - b.length = 0 := by
    have := (List.getElem?_eq_some_iff.mp ht).1
    simp at this
    omega
   rw [hi] at ht
   obtain rfl : endT z = t := Option.some.inj ht
   refine ⟨fun _ => ?_, fun _ => rfl⟩
   simp
   omega
def EndR (ts : List Th) (d : PyData) (k : Nat) (r : Res) : Prop := if (tkn ts k).s = "end" then r = .ok (d, k) else r = .error k
def RuleR (ts : List Th) (r : Res) : Prop := if (tkn ts 0).s = "name" then (if isT ts 1 "sign" "(" = true then BindR (ArgsR ts) (fun d j r => if isT ts j "sign" ")" = true then
 (if isT ts (j + 1) "kept" "if" = true then BindR (PartsR ts false true 6) (fun d2 k r => EndR ts (.tuple [scD (tkn ts 0).v, d, d2]) k r) (j + 1 + 1) r else EndR ts (.tuple [scD (tkn ts 0).v, d, .tuple []]) (j + 1) r) else r = .error j) 2 r else r = .error 1) else r = .error 0
def QuestionR (ts : List Th) (r : Res) : Prop := BindR (ArgsR ts) (fun d j r => if isT ts j "kept" "if" = true then BindR (PartsR ts false false 8) (fun d2 k r => EndR ts (.tuple [d, d2]) k r) (j + 1) r else r = .error j) 0 r
def TestsR (ts : List Th) (r : Res) : Prop := if (tkn ts 0).s = "end" then r = .ok (.tuple [], 0) else BindR (SeqT ts (fun _ => TestR ts true) (fun _ => false)) (fun d k r => EndR ts d k r) 0 r
def ReadR (z : Str) (F : List Th → Res → Prop) (r : Except Nat PyData) : Prop := (∃ n, Cuts z 0 [] (.error n) ∧ r = .error n) ∨ ∃ ts, Cuts z 0 [] (.ok ts) ∧ ((∃ d j, F ts (.ok (d, j)) ∧ r = .ok d) ∨ ∃ e, F ts (.error e) ∧ r = .error (tkn ts e).n)
def spRead (K : PySem.W.Frag) (B : Addr) (F : List Th → Res → Prop) : Sp := fun vs H Q E => ∃ z : Str, vs = [.str z] ∧ Tx 8999 z ∧ (∀ d v H', ReadR z F (.ok d) → Fr [] H H' → Td K H' v d → Q v H') ∧ ∀ n dd H', ReadR z F (.error n) → Fr [] H H' → H' dd = some (.xd (badAt n)) → E (.ref B) (some dd) H'
abbrev s_read_rule : Stmt := topS 40
theorem sc_read_rule : FnScope ["text", "row", "head", "args", "parts"] ["text"] (defScope s_read_rule) := ⟨rfl, rfl, rfl, by decide +kernel, rfl, by decide +kernel, by decide +kernel⟩
theorem Fr.made {H H' : Hp} {x dx C : Addr} {o : HO} (hx : H x = none) (hdx : H dx = none) (hne : dx ≠ x) (e : Fr [x] (upd (upd H dx o) x (.ins C dx [])) H') : Fr [] H H' := by
 have e1 : Fr [] H (upd H dx o) := Fr.new hdx
 have e2 : Fr [] (upd H dx o) (upd (upd H dx o) x (.ins C dx [])) := Fr.new (by rw [upd_ne (Ne.symm hne)]; exact hx)
 intro a u ha z
 refine e a u ((e1.trans e2) a u ha (.inl fun z => nomatch z)) (.inl fun hm => ?_)
 rw [List.mem_singleton.mp hm, hx] at ha
 cases ha
theorem Tx.mono2 {a b : Nat} {z : Str} (h : Tx a z) (l : a ≤ b) : Tx b z := ⟨Nat.le_trans h.len l, h.ok⟩
section
variable {P : Program} {w : World} {K : PySem.W.Frag} {mg : Str → Option Value} {base : Heap} {a_BadText a_TESTS a_FOLDS C : Addr} {f : Addr} {fd : FuncData}
theorem ok_read_rule (F : FnP K "read_rule" s_read_rule f fd) (G : GlR K mg a_TESTS a_FOLDS) (M : RowM P w K mg base C a_BadText) (N_Row : MkXN P w K mg base 30 "Row" C 1 [] (fun vs zs => vs ++ [.bl false, .bl true]) (spRowI K C a_BadText))
  (C_read_args : CalXN P w K mg base 10 "read_args" (spRd K C a_BadText fun ts _ _ => ArgsR ts)) (C_read_parts : CalXN P w K mg base 54 "read_parts" (spParts K C a_BadText)) : FnG P w K mg base (L2N.CX P w) 56 f fd ["text"] (spRead K a_BadText RuleR) := by
 refine okXN F sc_read_rule (fun vs H Q E h => ?_) (fun cdv A outer s H vs Q E hr h tk => ?_)
 ·obtain ⟨z, rfl, _⟩ := h
  rfl
 obtain ⟨z, rfl, hz, q, qe⟩ := h
 have M_is_kept_1 := M.ik1
 have M_step_0 := M.st
 have M_need_name_0 := M.nn
 have M_need_sign_1 := M.ns
 have M_need_end_0 := M.ne
 obtain ⟨tM, g_MOST_PARTS⟩ := G.mp
 refine ⟨_, (pss_cons (ps_set (i := 1) sc_read_rule.nd rfl (.inl rfl) (pe_makeXN N_Row tk hr rfl (pa_cons (pv 0) pa_nil) pk_nil))
 (pss_cons (ps_set (i := 2) sc_read_rule.nd rfl (.inl rfl) (pe_metX0N M_need_name_0 tk hr (pv 1)))
 (pss_cons (ps_expr (pe_metXN M_need_sign_1 tk hr (pv 1) (pa_cons pe_str pa_nil)))
 (pss_cons (ps_set (i := 3) sc_read_rule.nd rfl (.inl rfl) (pe_calXN C_read_args tk hr rfl (pa_cons (pv 1) pa_nil)))
 (pss_cons (ps_expr (pe_metXN M_need_sign_1 tk hr (pv 1) (pa_cons pe_str pa_nil)))
 (pss_cons (ps_set (i := 4) sc_read_rule.nd rfl (.inl rfl) (pe_tup pa_nil))
 (pss_cons (ps_if (pt_val (pe_metG M_is_kept_1 hr (pv 1) (pa_cons pe_str pa_nil))) (pss_cons (ps_expr (pe_metG0 M_step_0 hr (pv 1)))
 (pss_one (ps_set (i := 4) sc_read_rule.nd rfl (.inl rfl) (pe_calXN C_read_parts tk hr rfl (pa_cons (pv 1) (pa_cons (pe_glob (v := .int z_MOST_PARTS) rfl g_MOST_PARTS ⟨_, rfl⟩) pa_nil)))))) pss_nil)
 (pss_cons (ps_expr (pe_metX0N M_need_end_0 tk hr (pv 1)))
 (pss_one (ps_ret (pe_tup (pa_cons (pv 2) (pa_cons (pv 3) (pa_cons (pv 4) pa_nil)))))))))))))), rd_start (σ0 := [some (.str z), none, none, none, none]) rfl ?_⟩
 repeat walk_at "rd"
 refine ⟨rfl, rfl, fun r dx hx hdx hne => ⟨r, z, false, true, dx, rfl, upd_same, hz.mono2 (by omega), fun ts tq H1 hc e1 hR => ⟨rfl, ?_⟩, fun n d H1 hc e1 hd => qe n d H1 (.inl ⟨n, hc, rfl⟩) (Fr.made hx hdx hne e1) hd⟩⟩
 have e0 := Fr.made hx hdx hne e1
 have g := hc.goodTs hz.len
 have bad : ∀ {i dd H'}, RuleR ts (.error i) → Fr [r] H1 H' → H' dd = some (.xd (badAt (tkn ts i).n)) → E (.ref a_BadText) (some dd) H' := fun h e2 hd => qe _ _ _ (.inr ⟨ts, hc, .inr ⟨_, h, rfl⟩⟩) (Fr.made hx hdx hne (e1.trans e2)) hd
 have good : ∀ {d j v H'}, RuleR ts (.ok (d, j)) → Fr [r] H1 H' → Td K H' v d → Q v H' := fun h e2 hd => q _ _ _ (.inr ⟨ts, hc, .inl ⟨_, _, h, rfl⟩⟩) (Fr.made hx hdx hne (e1.trans e2)) hd
 have h0 := g.ne
 repeat walk_at "rd"
 refine m_nn rfl hR g h0 (fun H2 c2 e2 hR2 => ?_) (fun dd H2 c2 e2 hd => bad (by unfold RuleR; rw [if_neg c2]) e2.nil hd)
 have h1 := g.next h0 (by rw [c2]; decide +kernel)
 repeat walk_at "rd"
 refine m_ns rfl (by decide +kernel) hR2 g h1 (fun H3 c3 e3 hR3 => ?_) (fun dd H3 c3 e3 hd => bad (by unfold RuleR; rw [if_pos c2, if_neg (by rw [c3]; exact Bool.false_ne_true)]) (e2.trans e3.nil) hd)
 have h2 := g.next h1 (by rw [(isT_s c3 h1).1]; decide +kernel)
 have lo : ∀ {r}, BindR (ArgsR ts) (fun d j r => if isT ts j "sign" ")" = true then
 (if isT ts (j + 1) "kept" "if" = true then BindR (PartsR ts false true 6) (fun d2 k r => EndR ts (.tuple [scD (tkn ts 0).v, d, d2]) k r) (j + 1 + 1) r else EndR ts (.tuple [scD (tkn ts 0).v, d, .tuple []]) (j + 1) r) else r = .error j) 2 r → RuleR ts r := fun h => by unfold RuleR; rw [if_pos c2, if_pos c3]; exact h
 repeat walk_at "rd"
 refine ⟨r, tq, ts, 2, false, true, rfl, hR3, g, h2, fun da j va H4 ha hj e4 hR4 tda => ?_, fun e dd H4 ha he e4 hd => bad (lo (.inl ⟨e, ha, rfl⟩)) ((e2.trans e3).trans e4) hd⟩
 have lo2 : ∀ {r}, _ → RuleR ts r := fun h => lo (.inr ⟨da, j, ha, h⟩)
 repeat walk_at "rd"
 refine m_ns rfl (by decide +kernel) hR4 g hj (fun H5 c5 e5 hR5 => ?_) (fun dd H5 c5 e5 hd => bad (lo2 (Eq.mpr (if_neg (by rw [c5]; exact Bool.false_ne_true)) rfl)) (((e2.trans e3).trans e4).trans e5.nil) hd)
 have hj1 := g.next hj (by rw [(isT_s c5 hj).1]; decide +kernel)
 have lo3 : ∀ {r}, _ → RuleR ts r := fun h => lo2 (Eq.mpr (if_pos c5) h)
 have e15 := ((e2.trans e3).trans e4).trans e5
 have td5 := tda.fr e5
 repeat walk_at "rd"
 refine ⟨le_of (by simp), fun t0 ht0 => ?_⟩
 have e6 : Fr [] H5 (upd H5 t0 (.tup [])) := Fr.new ht0
 have s6 : SqT K (upd H5 t0 (.tup [])) t0 [] := SqT.of upd_same
 have hR6 := hR5.fr (M := []) e6
 have e16 := e15.trans e6.nil
 have td6 := td5.fr e6
 generalize upd H5 t0 (.tup []) = H6 at *
 repeat walk_at "rdif"
 try dsimp only
 with_reducible refine g_cutS (fun σ' H' => ∃ d2 v2 k, σ' = [some (.str z), some (.ref r), some (tkn ts 0).v, some va, some v2] ∧ RowAt K C H' r tq ts k false true ∧ k < ts.length ∧ Td K H' va da ∧ Td K H' v2 d2 ∧ Fr [r] H1 H' ∧ ∀ res, EndR ts (.tuple [scD (tkn ts 0).v, da, d2]) k res → RuleR ts res) (fun σ' H' h => ?_) (fun N k => ?_)
 ·obtain ⟨d2, v2, k, rfl, hR7, hk, t7, t8, e7, hlo⟩ := h
  repeat walk_at "rd"
  refine m_ne rfl hR7 g hk (fun H8 c8 e8 => ?_) (fun dd H8 c8 e8 hd => bad (hlo _ (by unfold EndR; rw [if_neg c8])) (e7.trans e8.nil) hd)
  repeat walk_at "rd"
  refine ⟨le_of (by simp), fun t ht => ?_⟩
  have e9 := Fr.new (M := []) (o := .tup [(tkn ts 0).v, va, v2]) ht
  exact good (hlo _ (by unfold EndR; rw [if_pos c8])) ((e7.trans e8.nil).trans e9.nil) (.tup (SqT.of upd_same) (.cons (sc_td (g_sc g h0)) (.cons (t7.fr (e8.trans e9)) (.cons (t8.fr (e8.trans e9)) .nil))))
 ·repeat walk_at "rd"
  refine g_byB (fun c7 => ?_) (fun c7 => ?_)
  ·have hn7 := g.next hj1 (by rw [(isT_s c7 hj1).1]; decide +kernel)
   repeat walk_at "rd"
   refine m_st rfl hR6 g hj1 fun H7 e7 hR7 => ?_
   repeat walk_at "rd"
   refine ⟨r, tq, 6, ts, j + 1 + 1, false, true, rfl, by decide, by decide, hR7, g, hn7, fun d2 k2 v2 H8 h8 hk2 e8 hR8 t8 => ?_, fun e dd H8 h8 he e8 hd => bad (lo3 (Eq.mpr (if_pos c7) (.inl ⟨e, h8, rfl⟩))) ((e16.trans e7).trans e8) hd⟩
   repeat walk_at "rd"
   exact k _ _ ⟨d2, v2, k2, rfl, hR8, hk2, td6.fr (e7.trans e8), t8, (e16.trans e7).trans e8, fun res h => lo3 (Eq.mpr (if_pos c7) (.inr ⟨d2, k2, h8, h⟩))⟩
  ·repeat walk_at "rd"
   exact k _ _ ⟨.tuple [], .ref t0, j + 1, rfl, hR6, hj1, td6, .tup s6 .nil, e16, fun res h => lo3 (Eq.mpr (if_neg (by rw [c7]; exact Bool.false_ne_true)) h)⟩
end
def goodV : V → Prop
 | .str a => Tx 9000 a
 | .int i => i.natAbs < 10 ^ 30
 | .bl _ => True
 | _ => False
def Det {α : Type} (lf : Nat → α → Prop) : Prop := ∀ i r r', lf i r → lf i r' → r = r'
theorem LoopR.det {ts : List Th} {sg : List Str} {lf : Nat → Res → Prop} (hf : Det lf) {d : PyData} {i : Nat} {r r' : Res} (h : LoopR ts sg lf d i r) (h' : LoopR ts sg lf d i r') : r = r' := by
 have one : ∀ {i : Nat} {s s' : Str}, isT ts i "sign" s = true → isT ts i "sign" s' = true → s = s' := fun h h' => by
  unfold isT at h h'
  have a := of_decide_eq_true (Bool.and_eq_true_iff.mp h).2
  have b := of_decide_eq_true (Bool.and_eq_true_iff.mp h').2
  rw [a] at b
  injection b
 induction h generalizing r' with
 | stop a =>
  cases h' with
  | stop _ => rfl
  | bad hs hi _ => rw [a _ hs] at hi; cases hi
  | step hs hi _ _ => rw [a _ hs] at hi; cases hi
 | bad hs hi hl =>
  cases h' with
  | stop a => rw [a _ hs] at hi; cases hi
  | bad hs' hi' hl' => exact hf _ _ _ hl hl'
  | step hs' hi' hl' _ => exact absurd (hf _ _ _ hl hl') (fun z => nomatch z)
 | step hs hi hl hr ih =>
  cases h' with
  | stop a => rw [a _ hs] at hi; cases hi
  | bad hs' hi' hl' => exact absurd (hf _ _ _ hl hl') (fun z => nomatch z)
  | step hs' hi' hl' hr' =>
   have e := hf _ _ _ hl hl'
   cases e
   cases one hi hi'
   exact ih hr'
theorem ChainR.det {ts : List Th} {sg : List Str} {lf : Nat → Res → Prop} (hf : Det lf) : Det (ChainR ts sg lf) := fun i r r' h h' => by
 rcases h with ⟨e, h1, rfl⟩ | ⟨d, j, h1, h2⟩
 ·rcases h' with ⟨e', h1', rfl⟩ | ⟨d', j', h1', h2'⟩
  ·exact hf _ _ _ h1 h1'
  ·exact absurd (hf _ _ _ h1 h1') (fun z => nomatch z)
 ·rcases h' with ⟨e', h1', rfl⟩ | ⟨d', j', h1', h2'⟩
  ·exact absurd (hf _ _ _ h1 h1') (fun z => nomatch z)
  ·cases hf _ _ _ h1 h1'
   exact h2.det hf h2'
theorem BindR.det {A : Nat → Res → Prop} {k : PyData → Nat → Res → Prop} (hA : Det A) (hk : ∀ d j r r', k d j r → k d j r' → r = r') : Det (BindR A k) := fun i r r' h h' => by
 rcases h with ⟨e, h1, rfl⟩ | ⟨d, j, h1, h2⟩
 ·rcases h' with ⟨e', h1', rfl⟩ | ⟨d', j', h1', h2'⟩
  ·exact hA _ _ _ h1 h1'
  ·exact absurd (hA _ _ _ h1 h1') (fun z => nomatch z)
 ·rcases h' with ⟨e', h1', rfl⟩ | ⟨d', j', h1', h2'⟩
  ·exact absurd (hA _ _ _ h1 h1') (fun z => nomatch z)
  ·cases hA _ _ _ h1 h1'
   exact hk _ _ _ _ h2 h2'
theorem LeafR.det {ts : List Th} {m ok : Bool} {rc : Nat → Res → Prop} (hf : Det rc) : Det (LeafR ts m ok rc) := fun i r r' h h' => by
 unfold LeafR at h h'
 split at h
 ·rename_i c; rw [if_pos c] at h'; rw [h, h']
 ·rename_i c
  rw [if_neg c] at h'
  split at h
  ·rename_i c; rw [if_pos c] at h'; rw [h, h']
  ·rename_i c
   rw [if_neg c] at h'
   split at h
   ·rename_i c; rw [if_pos c] at h'; rw [h, h']
   ·rename_i c
    rw [if_neg c] at h'
    rcases h with ⟨e, h1, rfl⟩ | ⟨d, j, h1, rfl⟩
    ·rcases h' with ⟨e', h1', rfl⟩ | ⟨d', j', h1', rfl⟩
     ·exact hf _ _ _ h1 h1'
     ·exact absurd (hf _ _ _ h1 h1') (fun z => nomatch z)
    ·rcases h' with ⟨e', h1', rfl⟩ | ⟨d', j', h1', rfl⟩
     ·exact absurd (hf _ _ _ h1 h1') (fun z => nomatch z)
     ·cases hf _ _ _ h1 h1'
      rfl
theorem SumN.det (ts : List Th) (m : Bool) : ∀ n, Det (SumN ts m n)
 | 0 => ChainR.det (ChainR.det (LeafR.det fun _ _ _ h => h.elim))
 | n + 1 => ChainR.det (ChainR.det (LeafR.det (SumN.det ts m n)))
theorem TestR.det (ts : List Th) (m : Bool) : Det (TestR ts m) := BindR.det (SumN.det ts m 12) fun d j r r' h h' => by
 split at h
 ·rename_i c
  rw [if_pos c] at h'
  exact BindR.det (SumN.det ts m 12) (fun d j r r' h h' => h.trans h'.symm) _ _ _ h h'
 ·rename_i c
  rw [if_neg c] at h'
  exact h.trans h'.symm
theorem TermR.det (ts : List Th) : Det (TermR ts) := fun i r r' h h' => by
 unfold TermR at h h'
 repeat' (split at h)
 all_goals (simp only [*, if_true, if_false, ite_true, ite_false] at h'; rw [h]; first | (exact h'.symm) | (rw [h']))
theorem ManyR.det {ts : List Th} {item : List PyData → Nat → Res → Prop} {full : List PyData → Bool} (hf : ∀ ds, Det (item ds)) {ds : List PyData} {i : Nat} {r r' : ResL} (h : ManyR ts item full ds i r) (h' : ManyR ts item full ds i r') : r = r' := by
 induction h generalizing r' with
 | stop a =>
  cases h' with
  | stop _ => rfl
  | full b => rw [a] at b; cases b
  | bad b => rw [a] at b; cases b
  | step b => rw [a] at b; cases b
 | full a b =>
  cases h' with
  | stop c => rw [a] at c; cases c
  | full _ _ => rfl
  | bad _ c => rw [b] at c; cases c
  | step _ c => rw [b] at c; cases c
 | bad a b c =>
  cases h' with
  | stop d => rw [a] at d; cases d
  | full _ d => rw [b] at d; cases d
  | bad _ _ d =>
   have := hf _ _ _ _ c d
   cases this
   rfl
  | step _ _ d => exact absurd (hf _ _ _ _ c d) (fun z => nomatch z)
 | step a b c d ih =>
  cases h' with
  | stop e => rw [a] at e; cases e
  | full _ e => rw [b] at e; cases e
  | bad _ _ e => exact absurd (hf _ _ _ _ c e) (fun z => nomatch z)
  | step _ _ e f =>
   cases hf _ _ _ _ c e
   exact ih f
theorem SeqR.det {ts : List Th} {item : List PyData → Nat → Res → Prop} {full : List PyData → Bool} (hf : ∀ ds, Det (item ds)) : Det (SeqR ts item full) := fun i r r' h h' => by
 rcases h with ⟨e, h1, rfl⟩ | ⟨d, j, h1, h2⟩
 ·rcases h' with ⟨e', h1', rfl⟩ | ⟨d', j', h1', h2'⟩
  ·have := hf _ _ _ _ h1 h1'
   cases this
   rfl
  ·exact absurd (hf _ _ _ _ h1 h1') (fun z => nomatch z)
 ·rcases h' with ⟨e', h1', rfl⟩ | ⟨d', j', h1', h2'⟩
  ·exact absurd (hf _ _ _ _ h1 h1') (fun z => nomatch z)
  ·cases hf _ _ _ _ h1 h1'
   exact h2.det hf h2'
theorem SeqT.det {ts : List Th} {item : List PyData → Nat → Res → Prop} {full : List PyData → Bool} (hf : ∀ ds, Det (item ds)) : Det (SeqT ts item full) := fun i r r' h h' => by
 rcases h with ⟨e, h1, rfl⟩ | ⟨d, j, h1, rfl⟩
 ·rcases h' with ⟨e', h1', rfl⟩ | ⟨d', j', h1', rfl⟩
  ·cases SeqR.det hf _ _ _ h1 h1'
   rfl
  ·exact absurd (SeqR.det hf _ _ _ h1 h1') (fun z => nomatch z)
 ·rcases h' with ⟨e', h1', rfl⟩ | ⟨d', j', h1', rfl⟩
  ·exact absurd (SeqR.det hf _ _ _ h1 h1') (fun z => nomatch z)
  ·cases SeqR.det hf _ _ _ h1 h1'
   rfl
theorem AtomR.det (ts : List Th) (pl : Bool) (x : Str) : Det (AtomR ts pl x) := fun i r r' h h' => by
 unfold AtomR at h h'
 split at h
 ·rename_i c; rw [if_pos c] at h'; rw [h, h']
 ·rename_i c
  rw [if_neg c] at h'
  split at h
  ·rename_i c; rw [if_pos c] at h'; rw [h, h']
  ·rename_i c
   rw [if_neg c] at h'
   have dt := SeqR.det (ts := ts) (item := fun _ => TermR ts) (full := fun ds => decide (ds.length = 4)) fun _ => TermR.det ts
   rcases h with ⟨e, h1, rfl⟩ | ⟨d, j, h1, rfl⟩
   ·rcases h' with ⟨e', h1', rfl⟩ | ⟨d', j', h1', rfl⟩
    ·cases dt _ _ _ h1 h1'
     rfl
    ·exact absurd (dt _ _ _ h1 h1') (fun z => nomatch z)
   ·rcases h' with ⟨e', h1', rfl⟩ | ⟨d', j', h1', rfl⟩
    ·exact absurd (dt _ _ _ h1 h1') (fun z => nomatch z)
    ·cases dt _ _ _ h1 h1'
     rfl
theorem PartR.det (ts : List Th) (m pl : Bool) : Det (PartR ts m pl) := fun i r r' h h' => by
 unfold PartR at h h'
 split at h
 ·rename_i c; rw [if_pos c] at h'; exact AtomR.det ts pl _ _ _ _ h h'
 ·rename_i c
  rw [if_neg c] at h'
  split at h
  ·rename_i c; rw [if_pos c] at h'; exact AtomR.det ts pl _ _ _ _ h h'
  ·rename_i c
   rw [if_neg c] at h'
   split at h
   ·rename_i c; rw [if_pos c] at h'; exact BindR.det (SumN.det ts m 12) (fun d j r r' h h' => h.trans h'.symm) _ _ _ h h'
   ·rename_i c; rw [if_neg c] at h'; exact TestR.det ts m _ _ _ h h'
theorem ArgR.det (ts : List Th) (b : Bool) : Det (ArgR ts b) := fun i r r' h h' => by
 unfold ArgR at h h'
 split at h
 ·rename_i c; rw [if_pos c] at h'; rw [h, h']
 ·rename_i c
  rw [if_neg c] at h'
  split at h
  ·rename_i c
   rw [if_pos c] at h'
   split at h
   ·rename_i c; rw [if_pos c] at h'; rw [h, h']
   ·rename_i c; rw [if_neg c] at h'; rw [h, h']
  ·rename_i c
   rw [if_neg c] at h'
   split at h
   ·rename_i c; rw [if_pos c] at h'; rw [h, h']
   ·rename_i c
    rw [if_neg c] at h'
    split at h
    ·rename_i c; rw [if_pos c] at h'; rw [h, h']
    ·rename_i c
     rw [if_neg c] at h'
     split at h
     ·rename_i c; rw [if_pos c] at h'; rw [h, h']
     ·rename_i c; rw [if_neg c] at h'; rw [h, h']
theorem EndR.det {ts : List Th} {d : PyData} {k : Nat} {r r' : Res} (h : EndR ts d k r) (h' : EndR ts d k r') : r = r' := by
 unfold EndR at h h'
 split at h
 ·rename_i c; rw [if_pos c] at h'; rw [h, h']
 ·rename_i c; rw [if_neg c] at h'; rw [h, h']
theorem ArgsR.det (ts : List Th) : Det (ArgsR ts) := SeqT.det fun ds => ArgR.det ts (ds.any isFold)
theorem PartsR.det (ts : List Th) (m pl : Bool) (most : Nat) : Det (PartsR ts m pl most) := SeqT.det fun _ => PartR.det ts m pl
theorem RuleR.det {ts : List Th} {r r' : Res} (h : RuleR ts r) (h' : RuleR ts r') : r = r' := by
 unfold RuleR at h h'
 split at h
 ·rename_i c
  rw [if_pos c] at h'
  split at h
  ·rename_i c
   rw [if_pos c] at h'
   refine BindR.det (ArgsR.det ts) (fun d j r r' h h' => ?_) _ _ _ h h'
   split at h
   ·rename_i c
    rw [if_pos c] at h'
    split at h
    ·rename_i c
     rw [if_pos c] at h'
     exact BindR.det (k := fun d2 k r => EndR ts (.tuple [scD (tkn ts 0).v, d, d2]) k r) (PartsR.det ts false true 6) (fun d j r r' h h' => EndR.det h h') _ _ _ h h'
    ·rename_i c; rw [if_neg c] at h'; exact EndR.det h h'
   ·rename_i c; rw [if_neg c] at h'; rw [h, h']
  ·rename_i c; rw [if_neg c] at h'; rw [h, h']
 ·rename_i c; rw [if_neg c] at h'; rw [h, h']
theorem QuestionR.det {ts : List Th} {r r' : Res} (h : QuestionR ts r) (h' : QuestionR ts r') : r = r' := by
 refine BindR.det (ArgsR.det ts) (fun d j r r' h h' => ?_) _ _ _ h h'
 split at h
 ·rename_i c
  rw [if_pos c] at h'
  exact BindR.det (k := fun d2 k r => EndR ts (.tuple [d, d2]) k r) (PartsR.det ts false false 8) (fun d j r r' h h' => EndR.det h h') _ _ _ h h'
 ·rename_i c; rw [if_neg c] at h'; rw [h, h']
theorem TestsR.det {ts : List Th} {r r' : Res} (h : TestsR ts r) (h' : TestsR ts r') : r = r' := by
 unfold TestsR at h h'
 split at h
 ·rename_i c; rw [if_pos c] at h'; rw [h, h']
 ·rename_i c; rw [if_neg c] at h'; exact BindR.det (A := SeqT ts (fun _ => TestR ts true) (fun _ => false)) (k := fun d k r => EndR ts d k r) (SeqT.det fun _ => TestR.det ts true) (fun d j r r' h h' => EndR.det h h') 0 _ _ h h'
theorem ReadR.det {z : Str} {F : List Th → Res → Prop} (hF : ∀ ts r r', F ts r → F ts r' → r = r') {r r' : Except Nat PyData} (h : ReadR z F r) (h' : ReadR z F r') : r = r' := by
 rcases h with ⟨n, h1, rfl⟩ | ⟨ts, h1, h2⟩
 ·rcases h' with ⟨n', h1', rfl⟩ | ⟨ts', h1', h2'⟩
  ·cases h1.det h1'
   rfl
  ·exact absurd (h1.det h1') (fun z => nomatch z)
 ·rcases h' with ⟨n', h1', rfl⟩ | ⟨ts', h1', h2'⟩
  ·exact absurd (h1.det h1') (fun z => nomatch z)
  ·cases h1.det h1'
   rcases h2 with ⟨d, j, h3, rfl⟩ | ⟨e, h3, rfl⟩
   ·rcases h2' with ⟨d', j', h3', rfl⟩ | ⟨e', h3', rfl⟩
    ·cases hF _ _ _ h3 h3'
     rfl
    ·exact absurd (hF _ _ _ h3 h3') (fun z => nomatch z)
   ·rcases h2' with ⟨d', j', h3', rfl⟩ | ⟨e', h3', rfl⟩
    ·exact absurd (hF _ _ _ h3 h3') (fun z => nomatch z)
    ·cases hF _ _ _ h3 h3'
     rfl
theorem sm_mono : ∀ {n m : Nat} {d : PyData}, Sm n d → n ≤ m → Sm m d
 | 0, _, _, h, _ => (sm_zero h).elim
 | n + 1, 0, _, _, l => absurd l (by omega)
 | n + 1, m + 1, d, h, l => by
  cases d with
  | list ds => exact ⟨h.1, fun d hd => sm_mono (h.2 d hd) (by omega)⟩
  | tuple ds => exact ⟨h.1, fun d hd => sm_mono (h.2 d hd) (by omega)⟩
  | int i => simp only [Sm] at h ⊢; exact h
  | str z => simp only [Sm] at h ⊢; exact h
  | bool b => simp only [Sm]
  | none => simp only [Sm]
  | dict _ => simp only [Sm] at h
theorem sm_tup {n : Nat} {ds : List PyData} (hl : ds.length ≤ 10000) (h : ∀ d ∈ ds, Sm n d) : Sm (n + 1) (.tuple ds) := ⟨hl, h⟩
theorem sm_str {n : Nat} {z : Str} (h : Tx 9000 z) : Sm (n + 1) (.str z) := by
 simp only [Sm]
 exact h.short (by omega)
theorem sm_lit {n : Nat} {z : Str} (h : txB 9000 z = true) : Sm (n + 1) (.str z) := sm_str (Tx.lit h)
theorem sm_v {n : Nat} {v : V} (h : goodV v) : Sm (n + 1) (scD v) := by
 cases v with
 | str a => exact sm_str h
 | int i =>
  show Sm (n + 1) (.int i)
  simp only [Sm]
  by_cases z : i.natAbs = 0
  ·rw [z]; decide
  ·exact Nat.lt_of_lt_of_le ((Nat.log2_lt z).mpr (Nat.lt_of_lt_of_le h (by decide : 10 ^ 30 ≤ 2 ^ 100))) (by decide)
 | bl b => show Sm (n + 1) (.bool b); simp only [Sm]
 | _ => cases h
def isOpV (v : V) : Bool := decide (v ∈ (["+", "-", "*"] : List Str).map V.str)
def opC (ts : List Th) (i : Nat) : Nat := (ts.take i).countP fun t => isOpV t.v && decide (t.s = ("sign" : Str))
theorem opC_le (ts : List Th) {i j : Nat} (h : i ≤ j) : opC ts i ≤ opC ts j := by
 unfold opC
 refine List.Sublist.countP_le ?_
 exact (List.take_sublist_take_left h)
theorem opC_all (ts : List Th) (i : Nat) : opC ts i ≤ ts.countP fun t => isOpV t.v && decide (t.s = ("sign" : Str)) := List.Sublist.countP_le (List.take_sublist i ts)
theorem opC_step {ts : List Th} {i : Nat} {s : Str} (hi : i < ts.length) (h : isT ts i "sign" s = true) (hs : s ∈ (["+", "-", "*"] : List Str)) : opC ts (i + 1) = opC ts i + 1 := by
 obtain ⟨h1, h2⟩ := isT_s h hi
 have e1 : ts[i]? = some ts[i] := List.getElem?_eq_getElem hi
 have et : tkn ts i = ts[i] := by unfold tkn; rw [List.getD_eq_getElem?_getD, e1]; rfl
 unfold opC
 rw [List.take_add_one, e1, List.countP_append]
 rw [et] at h1 h2
 simp only [Option.toList_some, List.countP_cons, List.countP_nil, h1, h2, isOpV]
 rw [decide_eq_true (List.mem_map_of_mem hs)]
 rfl
def Bd (ts : List Th) (k : Nat) (lf : Nat → Res → Prop) : Prop := ∀ i d j, i < ts.length → lf i (.ok (d, j)) → i < j ∧ j < ts.length ∧ Sm (k + (opC ts j - opC ts i)) d
structure OkTs (ts : List Th) : Prop where
 v : ∀ i, goodV (tkn ts i).v
 g : GoodTs ts
theorem OkTs.nx {ts : List Th} (g : OkTs ts) {i : Nat} {s z : Str} (hi : i < ts.length) (h : isT ts i s z = true) (hs : s ≠ "end") : i + 1 < ts.length := g.g.next hi (by rw [(isT_s h hi).1]; exact hs)
theorem sm2 {ts : List Th} (g : OkTs ts) {i n : Nat} {s : Str} (h : txB 9000 s = true) : Sm (n + 2) (.tuple [.str s, scD (tkn ts i).v]) := sm_tup (by simp) fun d hd => by
 rcases List.mem_cons.mp hd with rfl | hd
 ·exact sm_lit h
 ·rw [List.mem_singleton.mp hd]; exact sm_v (g.v i)
theorem leaf_bd {ts : List Th} {m ok : Bool} {rc : Nat → Res → Prop} (g : OkTs ts) (hf : Bd ts 2 rc) : Bd ts 2 (LeafR ts m ok rc) := fun i d j hi h => by
 have two : ∀ {s : Str}, txB 9000 s = true → Sm (2 + (opC ts (i + 1) - opC ts i)) (.tuple [.str s, scD (tkn ts i).v]) := fun h => by
  rw [Nat.add_comm]
  exact sm2 g h
 unfold LeafR at h
 split at h
 ·rename_i c
  cases h
  exact ⟨by omega, g.g.next hi (by rw [c]; decide +kernel), two (by decide +kernel)⟩
 ·split at h
  ·rename_i c
   cases h
   refine ⟨by omega, g.g.next hi (fun z => ?_), two (by decide +kernel)⟩
   rcases c with c | c
   ·rw [c] at z; exact absurd z (by decide +kernel)
   ·rw [(isT_s c.2 hi).1] at z; exact absurd z (by decide +kernel)
  ·split at h
   ·cases h
   ·rename_i c
    have c1 : isT ts i "sign" "(" = true := by
     cases h : isT ts i "sign" "(" with
     | true => rfl
     | false => exact absurd (.inl h) c
    have hn := g.nx hi c1 (by decide +kernel)
    rcases h with ⟨e, _, h⟩ | ⟨d0, j0, h1, h2⟩
    ·cases h
    ·obtain ⟨a1, a2, a3⟩ := hf _ _ _ hn h1
     split at h2
     ·rename_i c2
      cases h2
      have l1 := opC_le ts (show i ≤ i + 1 by omega)
      have l2 := opC_le ts (show j0 ≤ j0 + 1 by omega)
      exact ⟨by omega, g.nx a2 c2 (by decide +kernel), sm_mono a3 (by omega)⟩
     ·cases h2
theorem loop_bd {ts : List Th} {sg : List Str} {lf : Nat → Res → Prop} (g : OkTs ts) (hs : ∀ s ∈ sg, s ∈ (["+", "-", "*"] : List Str) ∧ txB 9000 s = true) (hf : Bd ts 2 lf) {d : PyData} {i i0 : Nat} {r : Res} (h : LoopR ts sg lf d i r) (h0 : i0 ≤ i) (hi : i < ts.length) (hd : Sm (2 + (opC ts i - opC ts i0)) d) :
  ∀ d' j, r = .ok (d', j) → i ≤ j ∧ j < ts.length ∧ Sm (2 + (opC ts j - opC ts i0)) d' := by
 induction h with
 | stop _ => intro d' j e; cases e; exact ⟨Nat.le_refl _, hi, hd⟩
 | bad _ _ _ => intro d' j e; cases e
 | @step d d2 i j s r a b c k ih =>
  intro d' j' e
  have hn := g.nx hi b (by decide +kernel)
  obtain ⟨a1, a2, a3⟩ := hf _ _ _ hn c
  have st := opC_step hi b (hs s a).1
  have l1 := opC_le ts h0
  have l2 := opC_le ts (show i + 1 ≤ j by omega)
  obtain ⟨b1, b2, b3⟩ := ih (by omega) a2 (by
   have e : 2 + (opC ts j - opC ts i0) = (1 + (opC ts j - opC ts i0)) + 1 := by omega
   rw [e]
   refine sm_tup (by simp) fun x hx => ?_
   rcases List.mem_cons.mp hx with rfl | hx
   ·rw [Nat.add_comm]; exact sm_str (Tx.lit (hs s a).2)
   ·rcases List.mem_cons.mp hx with rfl | hx
    ·exact sm_mono hd (by omega)
    ·rw [List.mem_singleton.mp hx]; exact sm_mono a3 (by omega)) d' j' e
  exact ⟨by omega, b2, b3⟩
theorem chain_bd {ts : List Th} {sg : List Str} {lf : Nat → Res → Prop} (g : OkTs ts) (hs : ∀ s ∈ sg, s ∈ (["+", "-", "*"] : List Str) ∧ txB 9000 s = true) (hf : Bd ts 2 lf) : Bd ts 2 (ChainR ts sg lf) := fun i d j hi h => by
 rcases h with ⟨e, _, h⟩ | ⟨d0, j0, h1, h2⟩
 ·cases h
 ·obtain ⟨a1, a2, a3⟩ := hf _ _ _ hi h1
  obtain ⟨b1, b2, b3⟩ := loop_bd g hs hf h2 (by omega) a2 a3 d j rfl
  exact ⟨by omega, b2, b3⟩
theorem sum_bd {ts : List Th} (g : OkTs ts) (m : Bool) : ∀ n, Bd ts 2 (SumN ts m n)
 | 0 => chain_bd g (by decide +kernel) (chain_bd g (by decide +kernel) (leaf_bd g fun _ _ _ _ h => h.elim))
 | n + 1 => chain_bd g (by decide +kernel) (chain_bd g (by decide +kernel) (leaf_bd g (sum_bd g m n)))
theorem test_bd {ts : List Th} (g : OkTs ts) (m : Bool) : Bd ts 3 (TestR ts m) := fun i d j hi h => by
 rcases h with ⟨e, _, h⟩ | ⟨d0, j0, h1, h2⟩
 ·cases h
 ·obtain ⟨a1, a2, a3⟩ := sum_bd g m 12 _ _ _ hi h1
  split at h2
  ·rename_i c
   have hn := g.g.next a2 (fun z => by
    unfold isTest at c
    have := of_decide_eq_true (Bool.and_eq_true_iff.mp c).1
    rw [this] at z
    exact absurd z (by decide +kernel))
   rcases h2 with ⟨e, _, h⟩ | ⟨d2, j2, h3, h4⟩
   ·cases h
   ·obtain ⟨b1, b2, b3⟩ := sum_bd g m 12 _ _ _ hn h3
    cases h4
    have l1 := opC_le ts (show i ≤ j0 by omega)
    have l2 := opC_le ts (show j0 ≤ j0 + 1 by omega)
    have l3 := opC_le ts (show j0 + 1 ≤ j by omega)
    refine ⟨by omega, b2, ?_⟩
    rw [show 3 + (opC ts j - opC ts i) = (2 + (opC ts j - opC ts i)) + 1 by omega]
    refine sm_tup (by simp) fun x hx => ?_
    simp only [List.mem_cons, List.not_mem_nil, or_false] at hx
    rcases hx with rfl | rfl | rfl | rfl
    ·rw [Nat.add_comm]; exact sm_lit (by decide +kernel)
    ·rw [Nat.add_comm]; exact sm_v (g.v _)
    ·exact sm_mono a3 (by omega)
    ·exact sm_mono b3 (by omega)
  ·cases h2
theorem term_bd {ts : List Th} (g : OkTs ts) : Bd ts 2 (TermR ts) := fun i d j hi h => by
 unfold TermR at h
 split at h
 ·rename_i c
  cases h
  refine ⟨by omega, g.nx hi c (by decide +kernel), ?_⟩
  rw [Nat.add_comm]
  exact sm_tup (by simp) fun x hx => by rw [List.mem_singleton.mp hx]; exact sm_lit (by decide +kernel)
 ·split at h
  ·rename_i c
   cases h
   refine ⟨by omega, g.g.next hi (by rw [c]; decide +kernel), ?_⟩
   rw [Nat.add_comm]
   exact sm2 g (by decide +kernel)
  ·split at h
   ·rename_i c
    cases h
    refine ⟨by omega, g.g.next hi (by rw [c]; decide +kernel), ?_⟩
    rw [Nat.add_comm]
    exact sm2 g (by decide +kernel)
   ·cases h
theorem many_bd {ts : List Th} {k : Nat} {item : List PyData → Nat → Res → Prop} {full : List PyData → Bool} (g : OkTs ts) (hf : ∀ ds, Bd ts k (item ds)) {ds : List PyData} {i i0 : Nat} {r : ResL} (h : ManyR ts item full ds i r) (h0 : i0 ≤ i) (hi : i < ts.length) (hl : ds.length ≤ i) (hd : ∀ d ∈ ds, Sm (k + (opC ts i - opC ts i0)) d) :
  ∀ ds' j, r = .ok (ds', j) → i ≤ j ∧ j < ts.length ∧ ds'.length ≤ j ∧ ∀ d ∈ ds', Sm (k + (opC ts j - opC ts i0)) d := by
 induction h with
 | stop _ => intro ds' j e; cases e; exact ⟨Nat.le_refl _, hi, hl, hd⟩
 | full _ _ => intro ds' j e; cases e
 | bad _ _ _ => intro ds' j e; cases e
 | @step ds d i j r a b c k ih =>
  intro ds' j' e
  have hn := g.nx hi a (by decide +kernel)
  obtain ⟨a1, a2, a3⟩ := hf _ _ _ _ hn c
  have l1 := opC_le ts h0
  have l2 := opC_le ts (show i + 1 ≤ j by omega)
  have l3 := opC_le ts (show i ≤ i + 1 by omega)
  obtain ⟨b1, b2, b3, b4⟩ := ih (by omega) a2 (by rw [List.length_append, List.length_singleton]; omega) (fun x hx => by
   rcases List.mem_append.mp hx with hx | hx
   ·exact sm_mono (hd x hx) (by omega)
   ·rw [List.mem_singleton.mp hx]; exact sm_mono a3 (by omega)) ds' j' e
  exact ⟨by omega, b2, b3, b4⟩
theorem seqR_bd {ts : List Th} {k : Nat} {item : List PyData → Nat → Res → Prop} {full : List PyData → Bool} (g : OkTs ts) (hf : ∀ ds, Bd ts k (item ds)) {i j : Nat} {ds : List PyData} (hi : i < ts.length) (h : SeqR ts item full i (.ok (ds, j))) : i < j ∧ j < ts.length ∧ ds.length ≤ j ∧ ∀ d ∈ ds, Sm (k + (opC ts j - opC ts i)) d := by
 rcases h with ⟨e, _, h⟩ | ⟨d0, j0, h1, h2⟩
 ·cases h
 ·obtain ⟨a1, a2, a3⟩ := hf _ _ _ _ hi h1
  obtain ⟨b1, b2, b3, b4⟩ := many_bd g hf h2 (show i ≤ j0 by omega) a2 (by simp; omega) (fun d hd => by rw [List.mem_singleton.mp hd]; exact a3) ds j rfl
  exact ⟨by omega, b2, b3, b4⟩
theorem seqT_bd {ts : List Th} {k : Nat} {item : List PyData → Nat → Res → Prop} {full : List PyData → Bool} (g : OkTs ts) (hf : ∀ ds, Bd ts k (item ds)) : Bd ts (k + 1) (SeqT ts item full) := fun i d j hi h => by
 have gz := g.g.sz
 rcases h with ⟨e, _, h⟩ | ⟨ds, j0, h1, h2⟩
 ·cases h
 ·cases h2
  obtain ⟨b1, b2, b3, b4⟩ := seqR_bd g hf hi h1
  refine ⟨b1, b2, ?_⟩
  rw [show k + 1 + (opC ts j - opC ts i) = (k + (opC ts j - opC ts i)) + 1 by omega]
  exact sm_tup (by omega) b4
theorem atom_bd {ts : List Th} (g : OkTs ts) (pl : Bool) {x : Str} (hx : txB 9000 x = true) : Bd ts 4 (AtomR ts pl x) := fun i d j hi h => by
 have gz := g.g.sz
 unfold AtomR at h
 split at h
 ·cases h
 ·rename_i c
  split at h
  ·cases h
  ·rename_i c1
   have hn := g.g.next hi (fun z => c (fun y => by
    rcases y with y | ⟨y, _⟩ <;> (rw [y] at z; exact absurd z (by decide +kernel))))
   have c1' : isT ts (i + 1) "sign" "(" = true := by
    cases h : isT ts (i + 1) "sign" "(" with
    | true => rfl
    | false => exact absurd h c1
   have hn2 : i + 2 < ts.length := g.nx hn c1' (by decide +kernel)
   rcases h with ⟨e, _, h⟩ | ⟨ds, j0, h1, h2⟩
   ·cases h
   ·obtain ⟨b1, b2, b3, b4⟩ := seqR_bd (k := 2) g (fun _ => term_bd g) hn2 h1
    split at h2
    ·rename_i c2
     cases h2
     have hn3 := g.nx b2 c2 (by decide +kernel)
     have l1 := opC_le ts (show i ≤ i + 2 by omega)
     have l2 := opC_le ts (show j0 ≤ j0 + 1 by omega)
     have l3 := opC_le ts (show i + 2 ≤ j0 by omega)
     refine ⟨by omega, hn3, ?_⟩
     rw [show 4 + (opC ts (j0 + 1) - opC ts i) = (2 + (opC ts (j0 + 1) - opC ts i)) + 1 + 1 by omega]
     refine sm_tup (by simp) fun y hy => ?_
     simp only [List.mem_cons, List.not_mem_nil, or_false] at hy
     rcases hy with rfl | rfl | rfl
     ·exact sm_lit hx
     ·exact sm_v (g.v _)
     ·exact sm_tup (by omega) fun d hd => sm_mono (b4 d hd) (by omega)
    ·cases h2
theorem bd_mono {ts : List Th} {k k' : Nat} {lf : Nat → Res → Prop} (h : Bd ts k lf) (l : k ≤ k') : Bd ts k' lf := fun i d j hi h1 => by
 obtain ⟨a, b, c⟩ := h i d j hi h1
 exact ⟨a, b, sm_mono c (by omega)⟩
theorem part_bd {ts : List Th} (g : OkTs ts) (m pl : Bool) : Bd ts 4 (PartR ts m pl) := fun i d j hi h => by
 unfold PartR at h
 split at h
 ·rename_i c
  have hn := g.nx hi c (by decide +kernel)
  obtain ⟨a1, a2, a3⟩ := atom_bd g pl (by decide +kernel) _ _ _ hn h
  have l1 := opC_le ts (show i ≤ i + 1 by omega)
  exact ⟨by omega, a2, sm_mono a3 (by omega)⟩
 ·split at h
  ·exact atom_bd g pl (by decide +kernel) _ _ _ hi h
  ·split at h
   ·rename_i c
    have hn := g.g.next hi (by rw [c.1]; decide +kernel)
    have hn2 : i + 2 < ts.length := g.nx hn c.2 (by decide +kernel)
    rcases h with ⟨e, _, h⟩ | ⟨d0, j0, h1, h2⟩
    ·cases h
    ·obtain ⟨a1, a2, a3⟩ := sum_bd g m 12 _ _ _ hn2 h1
     cases h2
     have l1 := opC_le ts (show i ≤ i + 2 by omega)
     have l2 := opC_le ts (show i + 2 ≤ j by omega)
     refine ⟨by omega, a2, ?_⟩
     rw [show 4 + (opC ts j - opC ts i) = (3 + (opC ts j - opC ts i)) + 1 by omega]
     refine sm_tup (by simp) fun y hy => ?_
     simp only [List.mem_cons, List.not_mem_nil, or_false] at hy
     rcases hy with rfl | rfl | rfl
     ·rw [Nat.add_comm]; exact sm_lit (by decide +kernel)
     ·rw [Nat.add_comm]; exact sm_v (g.v _)
     ·exact sm_mono a3 (by omega)
   ·exact bd_mono (test_bd g m) (by omega) _ _ _ hi h
theorem arg_bd {ts : List Th} (g : OkTs ts) (b : Bool) : Bd ts 2 (ArgR ts b) := fun i d j hi h => by
 have nx : ∀ {s : Str}, (tkn ts i).s = s → s ≠ "end" → i + 1 < ts.length := fun h z => g.g.next hi (by rw [h]; exact z)
 unfold ArgR at h
 split at h
 ·rename_i c
  cases h
  refine ⟨by omega, nx c (by decide +kernel), ?_⟩
  rw [Nat.add_comm]
  exact sm2 g (by decide +kernel)
 ·split at h
  ·split at h
   ·rename_i c
    cases h
    refine ⟨by omega, nx c (by decide +kernel), ?_⟩
    rw [Nat.add_comm]
    exact sm2 g (by decide +kernel)
   ·cases h
  ·rename_i c
   have hn := nx (Decidable.not_not.mp c) (by decide +kernel)
   split at h
   ·cases h
   ·split at h
    ·cases h
     refine ⟨by omega, hn, ?_⟩
     rw [Nat.add_comm]
     refine sm_tup (by simp) fun y hy => ?_
     simp only [List.mem_cons, List.not_mem_nil, or_false] at hy
     rcases hy with rfl | rfl | rfl
     ·exact sm_lit (by decide +kernel)
     ·exact sm_v (g.v _)
     ·simp only [Sm]
    ·split at h
     ·rename_i c2
      cases h
      refine ⟨by omega, g.g.next hn (by rw [c2]; decide +kernel), ?_⟩
      rw [Nat.add_comm]
      refine sm_tup (by simp) fun y hy => ?_
      simp only [List.mem_cons, List.not_mem_nil, or_false] at hy
      rcases hy with rfl | rfl | rfl
      ·exact sm_lit (by decide +kernel)
      ·exact sm_v (g.v _)
      ·exact sm_v (g.v _)
     ·cases h
def isOpT (t : Th) : Bool := isOpV t.v && decide (t.s = ("sign" : Str))
theorem end_ok {ts : List Th} {d d' : PyData} {k j : Nat} (h : EndR ts d k (.ok (d', j))) : d' = d ∧ j = k := by
 unfold EndR at h
 split at h
 ·cases h; exact ⟨rfl, rfl⟩
 ·cases h
theorem rule_bd {ts : List Th} (g : OkTs ts) {d : PyData} {j : Nat} (h : RuleR ts (.ok (d, j))) : Sm (6 + ts.countP isOpT) d := by
 have top : ∀ i, opC ts i ≤ ts.countP isOpT := opC_all ts
 have h0 := g.g.ne
 unfold RuleR at h
 split at h
 ·rename_i c0
  have h1 := g.g.next h0 (by rw [c0]; decide +kernel)
  split at h
  ·rename_i c1
   have h2 := g.nx h1 c1 (by decide +kernel)
   rcases h with ⟨e, _, h⟩ | ⟨da, ja, ha, h⟩
   ·cases h
   ·obtain ⟨a1, a2, a3⟩ := seqT_bd (k := 2) g (fun ds => arg_bd g (ds.any isFold)) _ _ _ h2 ha
    have fin : ∀ d2 j2, Sm (5 + ts.countP isOpT) d2 → EndR ts (.tuple [scD (tkn ts 0).v, da, d2]) j2 (.ok (d, j)) → Sm (6 + ts.countP isOpT) d := fun d2 j2 hd he => by
     obtain ⟨rfl, rfl⟩ := end_ok he
     have := top ja
     rw [show 6 + ts.countP isOpT = (5 + ts.countP isOpT) + 1 by omega]
     refine sm_tup (by simp) fun y hy => ?_
     simp only [List.mem_cons, List.not_mem_nil, or_false] at hy
     rcases hy with rfl | rfl | rfl
     ·rw [Nat.add_comm]; exact sm_v (g.v _)
     ·exact sm_mono a3 (by omega)
     ·exact hd
    split at h
    ·rename_i c2
     have hn := g.nx a2 c2 (by decide +kernel)
     split at h
     ·rename_i c3
      have hn3 := g.nx hn c3 (by decide +kernel)
      rcases h with ⟨e, _, h⟩ | ⟨dp, jp, hp, h⟩
      ·cases h
      ·obtain ⟨b1, b2, b3⟩ := seqT_bd (k := 4) g (fun _ => part_bd g false true) _ _ _ hn3 hp
       have := top jp
       exact fin dp jp (sm_mono b3 (by omega)) h
     ·exact fin _ _ (by rw [Nat.add_comm]; exact sm_tup (by simp) (fun _ z => nomatch z)) h
    ·cases h
  ·cases h
 ·cases h
theorem question_bd {ts : List Th} (g : OkTs ts) {d : PyData} {j : Nat} (h : QuestionR ts (.ok (d, j))) : Sm (6 + ts.countP isOpT) d := by
 have top : ∀ i, opC ts i ≤ ts.countP isOpT := opC_all ts
 have h0 := g.g.ne
 rcases h with ⟨e, _, h⟩ | ⟨da, ja, ha, h⟩
 ·cases h
 ·obtain ⟨a1, a2, a3⟩ := seqT_bd (k := 2) g (fun ds => arg_bd g (ds.any isFold)) _ _ _ h0 ha
  split at h
  ·rename_i c2
   have hn := g.nx a2 c2 (by decide +kernel)
   rcases h with ⟨e, _, h⟩ | ⟨dp, jp, hp, h⟩
   ·cases h
   ·obtain ⟨b1, b2, b3⟩ := seqT_bd (k := 4) g (fun _ => part_bd g false false) _ _ _ hn hp
    have t1 := top jp
    have t2 := top ja
    obtain ⟨rfl, rfl⟩ := end_ok h
    rw [show 6 + ts.countP isOpT = (5 + ts.countP isOpT) + 1 by omega]
    refine sm_tup (by simp) fun y hy => ?_
    simp only [List.mem_cons, List.not_mem_nil, or_false] at hy
    rcases hy with rfl | rfl
    ·exact sm_mono a3 (by omega)
    ·exact sm_mono b3 (by omega)
  ·cases h
theorem tests_bd {ts : List Th} (g : OkTs ts) {d : PyData} {j : Nat} (h : TestsR ts (.ok (d, j))) : Sm (6 + ts.countP isOpT) d := by
 have top : ∀ i, opC ts i ≤ ts.countP isOpT := opC_all ts
 have h0 := g.g.ne
 unfold TestsR at h
 split at h
 ·cases h
  rw [Nat.add_comm]
  exact sm_tup (by simp) (fun _ z => nomatch z)
 ·rcases h with ⟨e, _, h⟩ | ⟨dp, jp, hp, h⟩
  ·cases h
  ·obtain ⟨b1, b2, b3⟩ := seqT_bd (k := 3) g (fun _ => test_bd g true) _ _ _ h0 hp
   have t1 := top jp
   obtain ⟨rfl, rfl⟩ := end_ok h
   exact sm_mono b3 (by omega)
def isOpc (c : Nat) : Bool := decide (c = 43 ∨ c = 45 ∨ c = 42)
theorem op_char {z : Str} {n m : Nat} {l : Option Th} {t : Th} (h : nextT z n l = some (t, m)) (ho : isOpT t = true) : ∃ c, z.cps.toList[n]? = some c ∧ isOpc c = true := by
 unfold isOpT isOpV at ho
 obtain ⟨ho, hs⟩ := Bool.and_eq_true_iff.mp ho
 have ho := of_decide_eq_true ho
 have hs := of_decide_eq_true hs
 unfold nextT at h
 split at h
 ·cases h
 ·rename_i c hc
  refine ⟨c, hc, ?_⟩
  split at h
  ·cases hw : wordT z n with
   | none => rw [hw] at h; cases h
   | some q => rw [hw] at h; cases h; exact absurd (show ("value" : Str) = "sign" from hs) (by decide +kernel)
  ·split at h
   ·cases hw : runT (cutS z (some (n : Int)) (some ((runE z.cps.toList (n + 1) : Nat) : Int))) with
    | none => rw [hw] at h; cases h
    | some q =>
     rw [hw] at h
     cases h
     obtain ⟨s, v⟩ := q
     have hs : s = "sign" := hs
     unfold runT at hw
     repeat' (split at hw)
     all_goals first
      | (cases hw; done)
      | (injection hw with hw; injection hw with hw1 _; rw [hs] at hw1; exact absurd hw1 (by decide +kernel))
   ·split at h
    ·rename_i c3
     cases h
     obtain ⟨s, hs1, hs2⟩ := List.mem_map.mp ho
     injection hs2 with hs2
     rw [← hs2] at c3
     have : ∀ s ∈ (["+", "-", "*"] : List Str), s ∉ (["!=", "<=", ">="] : List Str) := by decide +kernel
     exact absurd c3 (this s hs1)
    ·split at h
     ·cases h
      obtain ⟨s, hs1, hs2⟩ := List.mem_map.mp ho
      injection hs2 with hs2
      have hl : s.cps.toList = [c] := by rw [hs2]
      unfold isOpc
      refine decide_eq_true ?_
      simp only [List.mem_cons, List.not_mem_nil, or_false] at hs1
      rcases hs1 with rfl | rfl | rfl
      ·have e : (("+" : Str).cps.toList) = [43] := by decide +kernel
       rw [e] at hl; injection hl with hl; exact .inl hl.symm
      ·have e : (("-" : Str).cps.toList) = [45] := by decide +kernel
       rw [e] at hl; injection hl with hl; exact .inr (.inl hl.symm)
      ·have e : (("*" : Str).cps.toList) = [42] := by decide +kernel
       rw [e] at hl; injection hl with hl; exact .inr (.inr hl.symm)
     ·cases h
def opz (z : Str) : Nat := z.cps.toList.countP isOpc
theorem cuts_ops {z : Str} {n : Nat} {ts ts' : List Th} {r : Except Nat (List Th)} (h : Cuts z n ts r) (e : r = .ok ts') : ts'.countP isOpT ≤ ts.countP isOpT + (z.cps.toList.drop n).countP isOpc := by
 induction h with
 | stop l =>
  cases e
  rw [List.countP_append]
  have : [endT z].countP isOpT = 0 := by
   rw [List.countP_eq_zero]
   intro t ht
   rw [List.mem_singleton.mp ht]
   have e : isOpT (endT z) = (isOpV (endT z).v && decide ((endT z).s = ("sign" : Str))) := rfl
   rw [e, show decide ((endT z).s = ("sign" : Str)) = false from by show decide (("end" : Str) = "sign") = false; decide +kernel, Bool.and_false]
   exact Bool.false_ne_true
  omega
 | @skip n ts r a b c ih =>
  have := ih e
  have l : ((z.cps.toList.drop (n + 1)).countP isOpc) ≤ (z.cps.toList.drop n).countP isOpc := List.Sublist.countP_le (List.drop_sublist_drop_left _ (by omega))
  omega
 | bad a b c => cases e
 | @step n m t ts r a b c d ih =>
  have i1 := ih e
  have hm := nextT_lt c
  rw [List.countP_append, List.countP_singleton] at i1
  by_cases ho : isOpT t = true
  ·rw [if_pos ho] at i1
   obtain ⟨x, hx, hox⟩ := op_char c ho
   have hl := (List.getElem?_eq_some_iff.mp hx)
   obtain ⟨hl, hx⟩ := hl
   have e1 : (z.cps.toList.drop n).countP isOpc = (z.cps.toList.drop (n + 1)).countP isOpc + 1 := by
    rw [List.drop_eq_getElem_cons hl, hx, List.countP_cons, if_pos hox]
   have l : ((z.cps.toList.drop m).countP isOpc) ≤ (z.cps.toList.drop (n + 1)).countP isOpc := List.Sublist.countP_le (List.drop_sublist_drop_left _ (by omega))
   omega
  ·rw [if_neg ho] at i1
   have l : ((z.cps.toList.drop m).countP isOpc) ≤ (z.cps.toList.drop n).countP isOpc := List.Sublist.countP_le (List.drop_sublist_drop_left _ (by omega))
   omega
abbrev s__law_barred : Stmt := topS 47
theorem sc__law_barred : FnScope ["_law_word_here"] ["_law_word_here"] (defScope s__law_barred) := ⟨rfl, rfl, rfl, by decide +kernel, rfl, by decide +kernel, by decide +kernel⟩
abbrev s__law_run : Stmt := topS 49
theorem sc__law_run : FnScope ["_law_text", "_law_spot", "_law_end"] ["_law_text", "_law_spot"] (defScope s__law_run) := ⟨rfl, rfl, rfl, by decide +kernel, rfl, by decide +kernel, by decide +kernel⟩
abbrev s__law_is_word : Stmt := topS 50
theorem sc__law_is_word : FnScope ["_law_text", "_law_sign"] ["_law_text"] (defScope s__law_is_word) := ⟨rfl, rfl, rfl, by decide +kernel, rfl, by decide +kernel, by decide +kernel⟩
abbrev s__law_is_name : Stmt := topS 51
theorem sc__law_is_name : FnScope ["_law_text"] ["_law_text"] (defScope s__law_is_name) := ⟨rfl, rfl, rfl, by decide +kernel, rfl, by decide +kernel, by decide +kernel⟩
abbrev s__law_figures : Stmt := topS 52
theorem sc__law_figures : FnScope ["_law_text", "_law_sign"] ["_law_text"] (defScope s__law_figures) := ⟨rfl, rfl, rfl, by decide +kernel, rfl, by decide +kernel, by decide +kernel⟩
abbrev s__law_run_thing : Stmt := topS 53
theorem sc__law_run_thing : FnScope ["_law_run_here", "_law_spot", "_law_names", "_law_figures_here", "_law_name"] ["_law_run_here", "_law_spot"] (defScope s__law_run_thing) := ⟨rfl, rfl, rfl, by decide +kernel, rfl, by decide +kernel, by decide +kernel⟩
abbrev s__law_thing : Stmt := topS 54
theorem sc__law_thing : FnScope ["_law_text", "_law_spot", "_law_things_here", "_law_here", "_law_end", "_law_good", "_law_free", "_law_minus"] ["_law_text", "_law_spot", "_law_things_here"] (defScope s__law_thing) := ⟨rfl, rfl, rfl, by decide +kernel, rfl, by decide +kernel, by decide +kernel⟩
abbrev s__law_things : Stmt := topS 55
theorem sc__law_things : FnScope ["_law_text", "_law_things_here", "_law_spot", "_law_thing_here", "_law_end"] ["_law_text"] (defScope s__law_things) := ⟨rfl, rfl, rfl, by decide +kernel, rfl, by decide +kernel, by decide +kernel⟩
def leC (a c : Nat) : Bool := !decide (c < a)
theorem let_le (c : Nat) : (leC 97 c && leC c 122) = isLet c := by
 unfold leC isLet
 rw [Bool.eq_iff_iff]
 simp
theorem fig_le (c : Nat) : (leC 48 c && leC c 57) = isFig c := by
 unfold leC isFig
 rw [Bool.eq_iff_iff]
 simp
theorem leL (a c : Nat) {t : Str} (h : t.cps.toList = [a]) : (!decide ((⟨#[c]⟩ : Str).cps.toList < t.cps.toList)) = leC a c := by
 rw [h]
 have := sg_lt c a
 unfold leC
 rw [← this]
theorem leR (a c : Nat) {t : Str} (h : t.cps.toList = [a]) : (!decide (t.cps.toList < (⟨#[c]⟩ : Str).cps.toList)) = leC c a := by
 rw [h]
 have := sg_lt a c
 unfold leC
 rw [← this]
theorem g_letC {c : Nat} {σ : L2.St} {H : Hp} {A : VK} {a b : Str} {x y : Nat} {p : Nat → Bool} (ha : a.cps.toList = [x]) (hb : b.cps.toList = [y]) (hp : ∀ c, (leC x c && leC c y) = p c) (q : A (.bl (p c)) H) :
  if (!decide ((⟨#[c]⟩ : Str).cps.toList < a.cps.toList)) = true then tC (.str b) σ H fun w' H4 => uLe (.str ⟨#[c]⟩) w' H4 A else A (.bl false) H := by
 rw [leL x c ha]
 have e := hp c
 cases h : leC x c with
 | false =>
  rw [h] at e
  rw [if_neg Bool.false_ne_true]
  rw [← e] at q
  exact q
 | true =>
  rw [h, Bool.true_and] at e
  rw [if_pos rfl]
  refine g_c (g_leS ?_)
  rw [leR y c hb, e]
  exact q
theorem g_let {c : Nat} {σ : L2.St} {H : Hp} {A : VK} {a b : Str} {x y : Nat} {p : Nat → Bool} (ha : a.cps.toList = [x]) (hb : b.cps.toList = [y]) (hp : ∀ c, (leC x c && leC c y) = p c) (q : A (.bl (p c)) H) :
  ∃ k, V.bl (!decide ((⟨#[c]⟩ : Str).cps.toList < a.cps.toList)) = .bl k ∧ (if k = true then tC (.str b) σ H fun w' H4 => uLe (.str ⟨#[c]⟩) w' H4 A else A (.bl false) H) :=
 ⟨_, rfl, g_letC ha hb hp q⟩
section
variable {P : Program} {w : World} {K : PySem.W.Frag} {mg : Str → Option Value} {base : Heap} {f : Addr} {fd : FuncData}
theorem ok__law_barred (F : FnP K "_law_barred" s__law_barred f fd) : FnG P w K mg base CX0 1 f fd ["_law_word_here"] (spB fun z => decide (z ∈ keptW)) := by
 refine okG F sc__law_barred (fun vs H Q E h => ?_) (fun cdv A outer s H vs Q E hr h => ?_)
 ·obtain ⟨z, rfl, _⟩ := h
  rfl
 obtain ⟨z, rfl, hz, q⟩ := h
 refine ⟨_, PSs.nox (pss_one (ps_ret (pe_cmpR (kOp (K := K) (r := uIn) rfl opu_in) (pv 0) (pe_tup (pa_cons pe_str (pa_cons pe_str (pa_cons pe_str (pa_cons pe_str (pa_cons pe_str (pa_cons pe_str (pa_cons pe_str (pa_cons pe_str (pa_cons pe_str (pa_cons pe_str pa_nil))))))))))) (by rfl)))), rd_start (σ0 := [some (.str z)]) rfl ?_⟩
 repeat walk_at "rd"
 refine ⟨le_of (by simp), fun p hp => ?_⟩
 refine g_inT (xs := keptW.map V.str) (.inr (SqT.of upd_same)) (flat_strs _) ?_
 rw [inV_str]
 exact q _ (Fr.new hp)
theorem ok__law_run (F : FnP K "_law_run" s__law_run f fd) (B : BiR mg) : FnG P w K mg base CX0 3 f fd ["_law_text", "_law_spot"] spRunE := by
 refine okG F sc__law_run (fun vs H Q E h => ?_) (fun cdv A outer s H vs Q E hr h => ?_)
 ·obtain ⟨z, n, rfl, _⟩ := h
  rfl
 obtain ⟨z, n, rfl, hz, q⟩ := h
 have zl := hz.len
 have zs : z.length ≤ sizeLine := le_of (by omega)
 have ll := len_l z
 refine ⟨_, PSs.nox (pss_cons (ps_set (i := 2) sc__law_run.nd rfl (.inl rfl) (pv 1))
 (pss_cons (ps_while PassesOwn.never (PW.pt (pw_and (pt_cmpR (kOp (K := K) (r := uLt) rfl opu_lt) (pv 2) (pe_callB (kCall (K := K) (r := uLen) rfl callu_len) (by rfl) B.b_len (by decide +kernel) (pa_cons (pv 0) pa_nil)) (nomark _)) (pw_and1 (pt_cmpR (kOp (K := K) (r := uIn) rfl opu_in) (pe_ix (kIx (K := K) (r := rIx) rfl ix_seq) (pv 0) (pv 2) (fun _ _ => rfl)) pe_str (by rfl))))) (pss_one (ps_set (i := 2) sc__law_run.nd rfl (.inl rfl) (pe_op (kOp (K := K) (r := uAdd) rfl opu_add) (pv 2) pe_int))))
 (pss_one (ps_ret (pv 2))))), rd_start (σ0 := [some (.str z), some (.int (n : Int)), none]) rfl ?_⟩
 repeat walk_at "rd"
 refine g_while2 (fun σ H' => ∃ m : Nat, σ = [some (.str z), some (.int (n : Int)), some (.int (m : Int))] ∧ H' = H ∧ runE z.cps.toList m = runE z.cps.toList n) (fun σ H' => match σ with | [_, _, some (.int m)] => z.length - m.toNat | _ => 0) ⟨n, rfl, rfl, rfl⟩ (fun σ H' h => ?_)
 obtain ⟨m, rfl, rfl, e⟩ := h
 repeat walk_at "rd"
 refine g_lenS zs ?_
 repeat walk_at "rd"
 refine g_by (fun c => ?_) (fun c => ?_)
 ·have hm : m < z.cps.toList.length := by omega
  have hc : z.cps.toList[m]? = some z.cps.toList[m] := List.getElem?_eq_getElem hm
  have st := runE_step hc
  repeat walk_at "rd"
  refine g_ixS zs (atI_nat hc) ?_
  repeat walk_at "rd"
  refine g_inS ?_
  rw [in_run]
  generalize z.cps.toList[m] = d at *
  repeat walk_at "rd"
  refine g_byB (fun k => ?_) (fun k => ?_)
  ·rw [if_pos k] at st
   refine g_wt ?_
   repeat walk_at "rd"
   refine ⟨⟨m + 1, rfl, rfl, st.symm.trans e⟩, ?_⟩
   show z.length - ((m : Int) + 1).toNat < z.length - ((m : Int)).toNat
   omega
  ·rw [if_neg (by rw [k]; exact Bool.false_ne_true)] at st
   repeat walk_at "rd"
   rw [← e, st] at q
   exact q
 ·repeat walk_at "rd"
  rw [← e, runE_end (by omega)] at q
  exact q
theorem ok__law_is_word (F : FnP K "_law_is_word" s__law_is_word f fd) (B : BiR mg) : FnG P w K mg base CX0 20 f fd ["_law_text"] (spB goodW) := by
 refine okG F sc__law_is_word (fun vs H Q E h => ?_) (fun cdv A outer s H vs Q E hr h => ?_)
 ·obtain ⟨z, rfl, _⟩ := h
  rfl
 obtain ⟨z, rfl, hz, q⟩ := h
 have zl := hz.len
 have zs : z.length ≤ sizeLine := le_of (by omega)
 have ll := len_l z
 refine ⟨_, PSs.nox (pss_cons (ps_if (PW.pt (pw_or (pt_not (pt_chain opu_le opu_le pe_int (pe_callB (kCall (K := K) (r := uLen) rfl callu_len) (by rfl) B.b_len (by decide +kernel) (pa_cons (pv 0) pa_nil)) pe_int)) (pw_or1 (pt_not (pt_chain opu_le opu_le pe_str (pe_ix (kIx (K := K) (r := rIx) rfl ix_seq) (pv 0) pe_int (fun _ _ => rfl)) pe_str))))) (pss_one (ps_ret pe_bl)) pss_nil)
 (pss_one (ps_ret (pe_callB (kCall (K := K) (r := rAll) rfl (cr_all rfl)) (by rfl) B.b_all (by decide +kernel) (pa_cons (pe_lc (own := [("_law_sign", 1)]) (g := gName 1) (tt := tYes) rfl sc__law_is_word.nd (pi_str (pv 0)) (blkOk_by (own := [("_law_sign", 1)]) (N := ["_law_text", "_law_sign"]) (sc := defScope s__law_is_word) (by decide +kernel)) (fun _ _ _ _ _ => (by exact (pg_name (i := 1) sc__law_is_word.nd rfl (by first | exact Or.inl rfl | exact Or.inr rfl)))) (fun _ _ _ _ _ => pts_nil) (fun _ _ _ _ _ => (by exact (pe_orTK (K := K) rfl (pe_chain opu_le opu_le pe_str (pv 1) pe_str) (pe_one (pe_chain opu_le opu_le pe_str (pv 1) pe_str)))))) pa_nil))))), rd_start (σ0 := [some (.str z), none]) rfl ?_⟩
 repeat walk_at "rd"
 refine g_lenS zs ?_
 repeat walk_at "rd"
 have no : goodW z = false → Q (.bl false) H := fun e => by
  have z1 := q H Fr.refl
  rw [e] at z1
  exact z1
 refine g_by (fun c1 => ?_) (fun c1 => ?_)
 ·obtain ⟨c, r, ez⟩ : ∃ c r, z.cps.toList = c :: r := by
   cases e : z.cps.toList with
   | nil => rw [e] at ll; simp at ll; omega
   | cons c r => exact ⟨c, r, rfl⟩
  have lr : r.length + 1 = z.length := by rw [ll, ez]; rfl
  have eg : goodW z = (decide (r.length ≤ 11) && (isLet c && (c :: r).all (fun d => isLet d || isFig d))) := by
   unfold goodW
   rw [ez]
   rfl
  repeat walk_at "rd"
  refine g_byN (fun c2 => ?_) (fun c2 => ?_)
  ·repeat walk_at "rd"
   refine no ?_
   have h : ¬ r.length ≤ 11 := fun h => c2 (by show (z.length : Int) ≤ 12; omega)
   rw [eg, decide_eq_false h]
   rfl
  ·repeat walk_at "rd"
   refine g_ixS zs (at0 ez) ?_
   refine g_leS ?_
   refine g_let (x := 97) (y := 122) (by rfl) (by rfl) let_le ?_
   have h : r.length ≤ 11 := by
    have c3 : (z.length : Int) ≤ 12 := c2
    omega
   rw [decide_eq_true h, Bool.true_and] at eg
   repeat walk_at "rd"
   cases hc : isLet c with
   | false =>
    refine g_tt rfl ?_
    repeat walk_at "rd"
    refine no ?_
    rw [eg, hc]
    rfl
   | true =>
    refine g_ff rfl ?_
    repeat walk_at "rd"
    refine ⟨z, rfl, fun D hD => lc_sg (p := fun d => isLet d || isFig d) (by omega) hD (fun d H' A e k => ?_) (fun H' e hl => ?_)⟩
    ·repeat walk_at "rd"
     refine ⟨rfl, ?_⟩
     repeat walk_at "rd"
     refine g_letC (x := 97) (y := 122) (by rfl) (by rfl) let_le ?_
     repeat walk_at "rd"
     cases hd : isLet d with
     | true =>
      refine g_tt rfl ?_
      have z1 := k H' Fr.refl
      simp only [hd, Bool.true_or] at z1
      exact z1
     | false =>
      refine g_ff rfl ?_
      repeat walk_at "rd"
      refine g_letC (x := 48) (y := 57) (by rfl) (by rfl) fig_le ?_
      have z1 := k H' Fr.refl
      simp only [hd, Bool.false_or] at z1
      exact z1
    ·repeat walk_at "rd"
     refine ⟨D, _, rfl, SqL.of hl, ?_⟩
     have z1 := q H' e
     rw [eg, hc, Bool.true_and, ← ez] at z1
     rw [List.all_map]
     exact z1
 ·repeat walk_at "rd"
  refine no ?_
  unfold goodW
  have e : z.cps.toList = [] := by
   cases e : z.cps.toList with
   | nil => rfl
   | cons c r => rw [e] at ll; simp at ll; omega
  rw [e]
  rfl
theorem ok__law_is_name (F : FnP K "_law_is_name" s__law_is_name f fd) (C__law_is_word : CalG P w K mg base 20 "_law_is_word" (spB goodW)) (C__law_barred : CalG P w K mg base 1 "_law_barred" (spB fun z => decide (z ∈ keptW))) : FnG P w K mg base CX0 21 f fd ["_law_text"] (spB nameB) := by
 refine okG F sc__law_is_name (fun vs H Q E h => ?_) (fun cdv A outer s H vs Q E hr h => ?_)
 ·obtain ⟨z, rfl, _⟩ := h
  rfl
 obtain ⟨z, rfl, hz, q⟩ := h
 refine ⟨_, PSs.nox (pss_one (ps_ret (pe_andTK (K := K) rfl (pe_calG C__law_is_word hr rfl (pa_cons (pv 0) pa_nil)) (pe_one (pe_notTK (K := K) rfl (pe_calG C__law_barred hr rfl (pa_cons (pv 0) pa_nil)) ))))), rd_start (σ0 := [some (.str z)]) rfl ?_⟩
 repeat walk_at "rd"
 refine ⟨z, rfl, hz, fun H1 f1 => ?_⟩
 repeat walk_at "rd"
 have z1 := q H1 f1
 unfold nameB at z1
 refine g_byB (fun c => ?_) (fun c => ?_)
 ·repeat walk_at "rd"
  refine ⟨z, rfl, hz, fun H2 f2 => ?_⟩
  have z2 := q H2 (f1.trans f2)
  unfold nameB at z2
  simp only [c, Bool.true_and] at z2
  repeat walk_at "rd"
  exact z2
 ·simp only [c, Bool.false_and] at z1
  rw [c]
  exact z1
end
def figsB (l : List Nat) : Bool := decide (1 ≤ l.length ∧ l.length ≤ 30) && (l.all isFig && (decide (l = [48]) || !decide (l.head? = some 48)))
theorem numB_figs (z : Str) : numB z = (figsB (figL z.cps.toList) && !decide (z = "-0")) := by
 unfold numB figsB
 generalize decide (1 ≤ (figL z.cps.toList).length ∧ (figL z.cps.toList).length ≤ 30) = a
 generalize (figL z.cps.toList).all isFig = b
 generalize decide (figL z.cps.toList = [48]) = c
 generalize decide ((figL z.cps.toList).head? = some 48) = d
 generalize decide (z = "-0") = e
 cases a <;> cases b <;> cases c <;> cases d <;> cases e <;> rfl
def spLRunT (K : PySem.W.Frag) : Sp := fun vs H Q _ => ∃ (z : Str) (n : Nat), vs = [.str z, .int (n : Int)] ∧ Tx 9000 z ∧ (∀ s v p H', runT z = some (s, v) → Fr [] H H' → SqT K H' p [.str s, v, .int (n : Int)] → Q (.ref p) H') ∧ ∀ H', runT z = none → Fr [] H H' → Q .non H'
section
variable {P : Program} {w : World} {K : PySem.W.Frag} {mg : Str → Option Value} {base : Heap} {f : Addr} {fd : FuncData}
theorem ok__law_figures (F : FnP K "_law_figures" s__law_figures f fd) (B : BiR mg) : FnG P w K mg base CX0 20 f fd ["_law_text"] (spB fun z => figsB z.cps.toList) := by
 refine okG F sc__law_figures (fun vs H Q E h => ?_) (fun cdv A outer s H vs Q E hr h => ?_)
 ·obtain ⟨z, rfl, _⟩ := h
  rfl
 obtain ⟨z, rfl, hz, q⟩ := h
 have zl := hz.len
 have zs : z.length ≤ sizeLine := le_of (by omega)
 have ll := len_l z
 refine ⟨_, PSs.nox (pss_cons (ps_if (PW.pt (pw_or (pt_not (pt_chain opu_le opu_le pe_int (pe_callB (kCall (K := K) (r := uLen) rfl callu_len) (by rfl) B.b_len (by decide +kernel) (pa_cons (pv 0) pa_nil)) pe_int)) (pw_or1 (pt_not (pt_val (pe_callB (kCall (K := K) (r := rAll) rfl (cr_all rfl)) (by rfl) B.b_all (by decide +kernel) (pa_cons (pe_lc (own := [("_law_sign", 1)]) (g := gName 1) (tt := tYes) rfl sc__law_figures.nd (pi_str (pv 0)) (blkOk_by (own := [("_law_sign", 1)]) (N := ["_law_text", "_law_sign"]) (sc := defScope s__law_figures) (by decide +kernel)) (fun _ _ _ _ _ => (by exact (pg_name (i := 1) sc__law_figures.nd rfl (by first | exact Or.inl rfl | exact Or.inr rfl)))) (fun _ _ _ _ _ => pts_nil) (fun _ _ _ _ _ => (by exact (pe_chain opu_le opu_le pe_str (pv 1) pe_str)))) pa_nil))))))) (pss_one (ps_ret pe_bl)) pss_nil)
 (pss_one (ps_ret (pe_orTK (K := K) rfl (pe_cmpR (kOp (K := K) (r := uEq) rfl (opu_eq hr.units)) (pv 0) pe_str (nomark _)) (pe_one (pe_cmpR (kOp (K := K) (r := uNe) rfl (opu_ne hr.units)) (pe_ix (kIx (K := K) (r := rIx) rfl ix_seq) (pv 0) pe_int (fun _ _ => rfl)) pe_str (nomark _))))))), rd_start (σ0 := [some (.str z), none]) rfl ?_⟩
 repeat walk_at "rdif"
 try dsimp only
 with_reducible refine g_cutS (fun σ' H' => σ' = [some (.str z), none] ∧ 1 ≤ z.length ∧ z.length ≤ 30 ∧ z.cps.toList.all isFig = true ∧ Fr [] H H') (fun σ' H' h => ?_) (fun N k => ?_)
 ·obtain ⟨rfl, h1, h2, h3, e1⟩ := h
  obtain ⟨c, r, ez⟩ : ∃ c r, z.cps.toList = c :: r := by
   cases e : z.cps.toList with
   | nil => rw [e] at ll; simp at ll; omega
   | cons c r => exact ⟨c, r, rfl⟩
  have eg : figsB z.cps.toList = (decide (z.cps.toList = [48]) || !decide (z.cps.toList.head? = some 48)) := by
   unfold figsB
   rw [h3, decide_eq_true ⟨by omega, by omega⟩]
   rfl
  have q1 : Q (.bl (figsB z.cps.toList)) H' := q _ e1
  rw [eg] at q1
  have e0 : decide (z = "0") = decide (z.cps.toList = [48]) := dec_str z "0"
  repeat walk_at "rd"
  rw [e0]
  refine g_byB (fun c4 => ?_) (fun c4 => ?_)
  ·rw [c4] at q1 ⊢
   exact q1
  ·rw [c4, Bool.false_or, ez] at q1
   repeat walk_at "rd"
   refine g_ixS zs (at0 ez) ?_
   repeat walk_at "rd"
   rw [sg_lit (t := "0") (d := 48) rfl]
   have e6 : decide ((c :: r).head? = some 48) = decide (c = 48) := decide_eq_decide.mpr (by simp)
   rw [e6] at q1
   exact q1
 ·have no : figsB z.cps.toList = false → ∀ H', Fr [] H H' → Q (.bl false) H' := fun e H' e1 => by
   have z1 : Q (.bl (figsB z.cps.toList)) H' := q H' e1
   rw [e] at z1
   exact z1
  repeat walk_at "rd"
  refine g_lenS zs ?_
  repeat walk_at "rd"
  refine g_by (fun c1 => ?_) (fun c1 => ?_)
  ·repeat walk_at "rd"
   refine g_byN (fun c2 => ?_) (fun c2 => ?_)
   ·have c3 : ¬ (z.length : Int) ≤ 30 := c2
    repeat walk_at "rd"
    exact no (by unfold figsB; rw [decide_eq_false (by omega)]; rfl) _ Fr.refl
   ·have c3 : (z.length : Int) ≤ 30 := c2
    repeat walk_at "rd"
    refine ⟨z, rfl, fun D hD => lc_sg (p := isFig) (by omega) hD (fun d H' A e k => ?_) (fun H' e hl => ?_)⟩
    ·repeat walk_at "rd"
     refine ⟨rfl, ?_⟩
     repeat walk_at "rd"
     refine g_letC (x := 48) (y := 57) (by rfl) (by rfl) fig_le ?_
     exact k H' Fr.refl
    ·repeat walk_at "rd"
     refine ⟨D, _, rfl, SqL.of hl, ?_⟩
     rw [List.all_map]
     repeat walk_at "rd"
     cases h3 : z.cps.toList.all isFig with
     | true =>
      refine g_ff (by simp only [Bool.not_eq_false']; exact h3) ?_
      repeat walk_at "rd"
      exact k _ _ ⟨rfl, by omega, by omega, h3, e⟩
     | false =>
      refine g_tt (by simp only [Bool.not_eq_true']; exact h3) ?_
      repeat walk_at "rd"
      exact no (by unfold figsB; rw [h3]; simp) _ e
  ·repeat walk_at "rd"
   exact no (by unfold figsB; rw [decide_eq_false (by omega)]; rfl) _ Fr.refl
end
section
variable {P : Program} {w : World} {K : PySem.W.Frag} {mg : Str → Option Value} {base : Heap} {f : Addr} {fd : FuncData}
theorem ok__law_run_thing (F : FnP K "_law_run_thing" s__law_run_thing f fd) (B : BiR mg) (C__law_barred : CalG P w K mg base 1 "_law_barred" (spB fun z => decide (z ∈ keptW))) (C__law_is_name : CalG P w K mg base 21 "_law_is_name" (spB nameB)) (C__law_figures : CalG P w K mg base 20 "_law_figures" (spB fun z => figsB z.cps.toList)) : FnG P w K mg base CX0 24 f fd ["_law_run_here", "_law_spot"] (spLRunT K) := by
 refine okG F sc__law_run_thing (fun vs H Q E h => ?_) (fun cdv A outer s H vs Q E hr h => ?_)
 ·obtain ⟨z, n, rfl, _⟩ := h
  rfl
 obtain ⟨z, n, rfl, hz, q, qe⟩ := h
 have zl := hz.len
 have zs : z.length + 2 ≤ sizeLine := le_of (by omega)
 have zs1 : z.length ≤ sizeLine := le_of (by omega)
 refine ⟨_, PSs.nox (pss_cons (ps_if (pt_cmpR (kOp (K := K) (r := uIn) rfl opu_in) (pv 0) (pe_tup (pa_cons pe_str (pa_cons pe_str pa_nil))) (by rfl)) (pss_one (ps_ret (pe_tup (pa_cons pe_str (pa_cons (pe_cmpR (kOp (K := K) (r := uEq) rfl (opu_eq hr.units)) (pv 0) pe_str (nomark _)) (pa_cons (pv 1) pa_nil)))))) pss_nil)
 (pss_cons (ps_if (pt_val (pe_calG C__law_barred hr rfl (pa_cons (pv 0) pa_nil))) (pss_one (ps_ret (pe_tup (pa_cons pe_str (pa_cons (pv 0) (pa_cons (pv 1) pa_nil)))))) pss_nil)
 (pss_cons (ps_if (pt_val (pe_calG C__law_is_name hr rfl (pa_cons (pv 0) pa_nil))) (pss_one (ps_ret (pe_tup (pa_cons pe_str (pa_cons (pv 0) (pa_cons (pv 1) pa_nil)))))) pss_nil)
 (pss_cons (ps_set (i := 2) sc__law_run_thing.nd rfl (.inl rfl) (kBM (K := K) rfl (pe_bm PySem.F.plainAttrs_str PySem.F.slot_str_split PySem.F.type_str_split mt_split (pv 0) (pa_cons pe_str pa_nil))))
 (pss_cons (ps_if (PW.pt (pw_and (pt_cmpR (kOp (K := K) (r := uIn) rfl opu_in) (pe_callB (kCall (K := K) (r := uLen) rfl callu_len) (by rfl) B.b_len (by decide +kernel) (pa_cons (pv 2) pa_nil)) (pe_tup (pa_cons pe_int (pa_cons pe_int pa_nil))) (by rfl)) (pw_and1 (pt_val (pe_callB (kCall (K := K) (r := rAll) rfl (cr_all rfl)) (by rfl) B.b_all (by decide +kernel) (pa_cons (pe_lc (own := [("_law_name", 4)]) (g := gName 4) (tt := tYes) rfl sc__law_run_thing.nd (pi_listK (K := K) rfl (pv 2)) (blkOk_by (own := [("_law_name", 4)]) (N := ["_law_run_here", "_law_spot", "_law_names", "_law_figures_here", "_law_name"]) (sc := defScope s__law_run_thing) (by decide +kernel)) (fun _ _ _ _ _ => (by exact (pg_name (i := 4) sc__law_run_thing.nd rfl (by first | exact Or.inl rfl | exact Or.inr rfl)))) (fun _ _ _ _ _ => pts_nil) (fun _ _ _ _ _ => (by exact (pe_calG C__law_is_name hr rfl (pa_cons (pv 4) pa_nil))))) pa_nil)))))) (pss_one (ps_ret (pe_tup (pa_cons pe_str (pa_cons (pv 0) (pa_cons (pv 1) pa_nil)))))) pss_nil)
 (pss_cons (ps_set (i := 3) sc__law_run_thing.nd rfl (.inl rfl) (pe_ifExp (pt_cmpR (kOp (K := K) (r := uEq) rfl (opu_eq hr.units)) (pe_slice sl_str (pv 0) po_none (po_some pe_int)) pe_str (nomark _)) (pe_slice sl_str (pv 0) (po_some pe_int) po_none) (pv 0)))
 (pss_cons (ps_if (PW.pt (pw_and (pt_val (pe_calG C__law_figures hr rfl (pa_cons (pv 3) pa_nil))) (pw_and1 (pt_cmpR (kOp (K := K) (r := uNe) rfl (opu_ne hr.units)) (pv 0) pe_str (nomark _))))) (pss_one (ps_ret (pe_tup (pa_cons pe_str (pa_cons (pe_callTy call_int_str (by rfl) B.b_int (by decide +kernel) (pa_cons (pv 0) pa_nil)) (pa_cons (pv 1) pa_nil)))))) pss_nil)
 (pss_one (ps_ret pe_non))))))))), rd_start (σ0 := [some (.str z), some (.int (n : Int)), none, none, none]) rfl ?_⟩
 repeat walk_at "rd"
 refine ⟨le_of (by simp), two_in _ _ _ _ _ fun H1 e1 => ?_⟩
 have fin : ∀ (H2 : Hp) (p : Addr) (s : Str) (v : V), runT z = some (s, v) → Fr [] H1 H2 → H2 p = none → Q (.ref p) (upd H2 p (.tup [.str s, v, .int (n : Int)])) := fun H2 p s v hv e2 hp => q s v p _ hv ((e1.trans e2).trans (Fr.new hp)) (SqT.of upd_same)
 repeat walk_at "rd"
 refine g_by (fun c => ?_) (fun c => ?_)
 ·repeat walk_at "rd"
  have c2 : z = "yes" ∨ z = "no" := by simpa using c
  refine ⟨le_of (by simp), fun p hp => ?_⟩
  exact fin _ p "value" _ (by unfold runT; rw [if_pos c2]) Fr.refl hp
 ·have c2 : ¬ (z = "yes" ∨ z = "no") := by simpa using c
  repeat walk_at "rd"
  refine ⟨z, rfl, hz, fun H0 e0 => ?_⟩
  repeat walk_at "rd"
  refine g_by (fun c3 => ?_) (fun c3 => ?_)
  ·repeat walk_at "rd"
   refine ⟨le_of (by simp), fun p hp => ?_⟩
   exact fin _ p "kept" _ (by unfold runT; rw [if_neg c2, if_pos c3]) e0 hp
  ·repeat walk_at "rd"
   refine ⟨z, rfl, hz, fun H2 e2 => ?_⟩
   repeat walk_at "rd"
   refine g_byB (fun c4 => ?_) (fun c4 => ?_)
   ·repeat walk_at "rd"
    refine ⟨le_of (by simp), fun p hp => ?_⟩
    exact fin _ p "name" _ (by unfold runT; rw [if_neg c2, if_neg c3, if_pos c4]) (e0.trans e2) hp
   ·have c4' : ¬ nameB z = true := by rw [c4]; exact Bool.false_ne_true
    repeat walk_at "rd"
    refine ⟨z, ".", rfl, rfl, by decide +kernel, zs, fun p hp => ?_⟩
    have e3 : Fr [] H2 (upd H2 p (.lst ((Txt.split z ".").map V.str))) := Fr.new hp
    have h3 : (upd H2 p (.lst ((Txt.split z ".").map V.str))) p = some (.lst ((Txt.split z ".").map V.str)) := upd_same
    have sx := fun y (h : y ∈ Txt.split z ".") => split_tx hz h
    have sl := PyProof.Rows.split_le z "."
    have ef : fullB z = (decide ((Txt.split z ".").length = 2 ∨ (Txt.split z ".").length = 3) && (Txt.split z ".").all nameB) := rfl
    generalize upd H2 p (.lst ((Txt.split z ".").map V.str)) = H3 at *
    generalize Txt.split z "." = ys at *
    have E3 := (e0.trans e2).trans e3
    repeat walk_at "rdif"
    try dsimp only
    with_reducible refine g_cutS (fun σ' H' => σ' = [some (.str z), some (.int (n : Int)), some (.ref p), none, none] ∧ fullB z = false ∧ Fr [] H1 H') (fun σ' H' h => ?_) (fun N k => ?_)
    ·obtain ⟨rfl, c5, e5⟩ := h
     have c5' : ¬ fullB z = true := by rw [c5]; exact Bool.false_ne_true
     refine g_seq (g_asg (g_cutE (fun x H'' => H'' = H' ∧ ∃ y, x = .str y ∧ y.cps.toList = figL z.cps.toList ∧ Tx 9000 y) (fun x H'' h => ?_) (fun Q' k => ?_)))
     rotate_left
     ·repeat walk_at "rd"
      refine g_slS zs1 ?_
      repeat walk_at "rd"
      rw [minus_head]
      refine g_by (fun c => ?_) (fun c => ?_)
      ·repeat walk_at "rd"
       refine g_slS zs1 ?_
       refine k _ _ ⟨rfl, _, rfl, ?_, hz.cut⟩
       rw [cut_drop1]
       cases e : z.cps.toList with
       | nil => rfl
       | cons d r =>
        rw [e] at c
        cases c
        rfl
      ·repeat walk_at "rd"
       refine k _ _ ⟨rfl, _, rfl, ?_, hz⟩
       cases e : z.cps.toList with
       | nil => rfl
       | cons d r =>
        rw [e] at c
        rw [figL_cons, if_neg (fun e => c (by rw [e]; rfl))]
     obtain ⟨rfl, y, rfl, hy, ty⟩ := h
     have en := numB_figs z
     rw [← hy] at en
     repeat walk_at "rd"
     refine ⟨y, rfl, ty, fun H6 e6 => ?_⟩
     repeat walk_at "rd"
     have bad : numB z = false → Q .non H6 := fun h => qe H6 (by unfold runT; rw [if_neg c2, if_neg c3, if_neg c4', if_neg c5', if_neg (by rw [h]; exact Bool.false_ne_true)]) ((e1.trans e5).trans e6)
     have eF : (fun z : Str => figsB z.cps.toList) y = figsB y.cps.toList := rfl
     rw [eF]
     refine g_byB (fun c7 => ?_) (fun c7 => ?_)
     ·rw [c7, Bool.true_and] at en
      repeat walk_at "rd"
      refine g_byN (fun c8 => ?_) (fun c8 => ?_)
      ·have c8' : ¬ z = "-0" := c8
       have c9 : numB z = true := by rw [en, decide_eq_false c8']; rfl
       obtain ⟨i, hi, _⟩ := num_int c9
       repeat walk_at "rd"
       refine ⟨z, i, rfl, hi, by have := num_len c9; omega, ?_⟩
       repeat walk_at "rd"
       refine ⟨le_of (by simp), fun p hp => ?_⟩
       exact fin _ p "value" _ (by unfold runT; rw [if_neg c2, if_neg c3, if_neg c4', if_neg c5', if_pos c9, hi]; rfl) (e5.trans e6) hp
      ·repeat walk_at "rd"
       exact bad (by rw [en, decide_eq_true c8]; rfl)
     ·repeat walk_at "rd"
      exact bad (by rw [en, c7]; rfl)
    ·repeat walk_at "rd"
     refine ⟨le_of (by simp), fun p2 hp2 => ?_⟩
     have e4 : Fr [] H3 (upd H3 p2 (.tup [.int 2, .int 3])) := Fr.new hp2
     have h4 : SqT K (upd H3 p2 (.tup [.int 2, .int 3])) p2 [.int 2, .int 3] := SqT.of upd_same
     have h34 := e4.at h3 (fun z => nomatch z)
     generalize upd H3 p2 (.tup [.int 2, .int 3]) = H4 at *
     have ei : inV (.int ((ys.map V.str).length : Nat)) [.int 2, .int 3] = decide (ys.length = 2 ∨ ys.length = 3) := by
      rw [List.length_map]
      unfold inV
      simp only [List.any_cons, List.any_nil, eqV, Bool.or_false]
      by_cases h2 : ys.length = 2
      ·rw [h2]; rfl
      ·by_cases h3 : ys.length = 3
       ·rw [h3]; rfl
       ·rw [decide_eq_false (by omega : ¬ (ys.length = 2 ∨ ys.length = 3)), Bool.or_eq_false_iff]
        refine ⟨?_, ?_⟩ <;> (simp [eqV]; omega)
     refine ⟨p2, [.int 2, .int 3], rfl, .inr h4, rfl, rfl, ?_⟩
     rw [ei]
     have E4 := E3.trans e4
     cases hd : decide (ys.length = 2 ∨ ys.length = 3) with
     | false =>
      repeat walk_at "rd"
      exact k _ _ ⟨rfl, by rw [ef, hd]; rfl, E4⟩
     | true =>
      repeat walk_at "rd"
      have yl : ys.length ≤ 3 := by have := of_decide_eq_true hd; omega
      refine ⟨p, rfl, ⟨_, SqL.of h34⟩, fun D hD => lc_it (walk_list (xs := ys.map V.str)) (fun i H' => Fr [] H4 H' ∧ H' D = some (.lst (((ys.take i).map nameB).map V.bl))) ⟨Fr.new hD, upd_same⟩ (fun i H' _ h => SqL.of (h.1.at h34 (fun z => nomatch z))) (fun i y H5 H6 hi h yy => ?_) (fun H5 h => ?_)⟩
      ·obtain ⟨rfl, hy⟩ := yy
       obtain ⟨e5, h5⟩ := h
       rw [List.getElem?_map] at hy
       cases hq : ys[i]? with
       | none => rw [hq] at hy; cases hy
       | some x =>
        rw [hq] at hy
        cases hy
        repeat walk_at "rd"
        refine ⟨rfl, ?_⟩
        repeat walk_at "rd"
        refine ⟨x, rfl, sx x (List.mem_of_getElem? hq), fun H7 e7 => ?_⟩
        refine ⟨_, e7.at h5 (fun z => nomatch z), lt_of (by rw [List.length_map, List.length_map, List.length_take]; omega), (e5.trans e7).over hD, ?_⟩
        rw [upd_same, List.take_add_one, hq, List.map_append, List.map_append]
        rfl
      ·obtain ⟨e5, h5⟩ := h
       rw [List.length_map, List.take_length] at h5
       repeat walk_at "rd"
       refine ⟨D, _, rfl, SqL.of h5, ?_⟩
       have ea : ((ys.map nameB).all id) = ys.all nameB := by rw [List.all_map]; rfl
       rw [ea]
       have ef2 : fullB z = ys.all nameB := by rw [ef, hd, Bool.true_and]
       cases h8 : ys.all nameB with
       | true =>
        repeat walk_at "rd"
        refine ⟨le_of (by simp), fun p hp => ?_⟩
        exact fin _ p "full" _ (by unfold runT; rw [if_neg c2, if_neg c3, if_neg c4', if_pos (by rw [ef2, h8])]) (E4.trans e5) hp
       | false =>
        repeat walk_at "rd"
        exact k _ _ ⟨rfl, by rw [ef2, h8], E4.trans e5⟩
end
def spLThing (K : PySem.W.Frag) : Sp := fun vs H Q _ => ∃ (z : Str) (n : Nat) (p : Addr) (ts : List Th), vs = [.str z, .int (n : Int), .ref p] ∧ Tx 9000 z ∧ n < z.length ∧ ThsAt K H p ts ∧ (∀ t ∈ ts, isSc t.v = true) ∧
 (∀ t m pr H', nextT z n ts.getLast? = some (t, m) → Fr [] H H' → PairAt K H' pr t.s t.v t.n m → Q (.ref pr) H') ∧ ∀ pr (e : Int) H', nextT z n ts.getLast? = none → Fr [] H H' → SqT K H' pr [.non, .int e] → Q (.ref pr) H'
def lastOk (last : Option Th) : Bool := match last with
 | none => true
 | some t => !decide (t.s ∈ (["value", "name"] : List Str)) && !decide (t.v ∈ ([")", "me"] : List Str).map V.str)
def figAt (l : List Nat) (n : Nat) : Bool := match l[n]? with | some c => isFig c | none => false
theorem begB_eq (l : List Nat) (n : Nat) (last : Option Th) : begB l n last = (decide (l[n]? = some 45) && (figAt l (n + 1) && lastOk last)) := rfl
theorem g_cutT {tt : TT} {σ : L2.St} {H : Hp} {Q : Bool → Hp → Prop} (Pv : Bool → Hp → Prop) (h1 : ∀ b H', Pv b H' → Q b H') (h2 : ∀ Q' : Bool → Hp → Prop, (∀ b H', Pv b H' → Q' b H') → tt σ H Q') : tt σ H Q := h2 Q h1
theorem g_figC {z : Str} {n : Nat} {σ : L2.St} {H : Hp} {A : VK} (q : A (.bl (figAt z.cps.toList n)) H) :
  if (!decide ((cutS z (some (n : Int)) (some ((n : Int) + 1))).cps.toList < ("0" : Str).cps.toList)) = true then tC (.str "9") σ H fun w' H4 => uLe (.str (cutS z (some (n : Int)) (some ((n : Int) + 1)))) w' H4 A else A (.bl false) H := by
 unfold figAt at q
 cases h : z.cps.toList[n]? with
 | none =>
  rw [h] at q
  rw [cut_none h, if_neg]
  ·exact q
  ·decide +kernel
 | some c =>
  rw [h] at q
  rw [cut_one h]
  exact g_letC (x := 48) (y := 57) (by rfl) (by rfl) fig_le q
section
variable {P : Program} {w : World} {K : PySem.W.Frag} {mg : Str → Option Value} {base : Heap} {f : Addr} {fd : FuncData}
theorem ok__law_thing (F : FnP K "_law_thing" s__law_thing f fd) (B : BiR mg) (C__law_run : CalG P w K mg base 3 "_law_run" spRunE) (C__law_is_word : CalG P w K mg base 20 "_law_is_word" (spB goodW)) (C__law_run_thing : CalG P w K mg base 24 "_law_run_thing" (spLRunT K)) : FnG P w K mg base CX0 26 f fd ["_law_text", "_law_spot", "_law_things_here"] (spLThing K) := by
 refine okG F sc__law_thing (fun vs H Q E h => ?_) (fun cdv A outer s H vs Q E hr h => ?_)
 ·obtain ⟨z, n, p, ts, rfl, _⟩ := h
  rfl
 obtain ⟨z, n, p, ts, rfl, hz, hn, hts, hsc, q, qe⟩ := h
 have zl := hz.len
 have zs : z.length ≤ sizeLine := le_of (by omega)
 have ll := len_l z
 refine ⟨_, PSs.nox (pss_cons (ps_set (i := 3) sc__law_thing.nd rfl (.inl rfl) (pe_ix (kIx (K := K) (r := rIx) rfl ix_seq) (pv 0) (pv 1) (fun _ _ => rfl)))
 (pss_cons (ps_if (pt_cmpR (kOp (K := K) (r := uEq) rfl (opu_eq hr.units)) (pv 3) pe_str (nomark _)) (pss_cons (ps_set (i := 4) sc__law_thing.nd rfl (.inl rfl) (kBM (K := K) rfl (pe_bm PySem.F.plainAttrs_str PySem.F.slot_str_find PySem.F.type_str_find mt_find3 (pv 0) (pa_cons pe_str (pa_cons (pe_op (kOp (K := K) (r := uAdd) rfl opu_add) (pv 1) pe_int) pa_nil)))))
 (pss_cons (ps_set (i := 5) sc__law_thing.nd rfl (.inl rfl) (pe_andTK (K := K) rfl (pe_cmpR opu_gt (pv 4) pe_int (nomark _)) (pe_one (pe_calG C__law_is_word hr rfl (pa_cons (pe_slice sl_str (pv 0) (po_some (pe_op (kOp (K := K) (r := uAdd) rfl opu_add) (pv 1) pe_int)) (po_some (pv 4))) pa_nil)))))
 (pss_one (ps_ret (pe_ifExp (pt_val (pv 5)) (pe_tup (pa_cons (pe_tup (pa_cons pe_str (pa_cons (pe_slice sl_str (pv 0) (po_some (pe_op (kOp (K := K) (r := uAdd) rfl opu_add) (pv 1) pe_int)) (po_some (pv 4))) (pa_cons (pv 1) pa_nil)))) (pa_cons (pe_op (kOp (K := K) (r := uAdd) rfl opu_add) (pv 4) pe_int) pa_nil))) (pe_tup (pa_cons pe_non (pa_cons (pv 1) pa_nil)))))))) pss_nil)
 (pss_cons (ps_set (i := 6) sc__law_thing.nd rfl (.inl rfl) (pe_orTK (K := K) rfl (pe_cmpR (kOp (K := K) (r := uEq) rfl (opu_eq hr.units)) (pv 2) (pe_lst pa_nil) (nomark _)) (pe_one (pe_andTK (K := K) rfl (pe_cmpR (kOp (K := K) (r := uNotIn) rfl opu_notIn) (pe_ix (kIx (K := K) (r := rIx) rfl ix_seq) (pe_ix (kIx (K := K) (r := rIx) rfl ix_seq) (pv 2) (pe_un un_neg pe_int) (fun _ _ => rfl)) pe_int (fun _ _ => rfl)) (pe_tup (pa_cons pe_str (pa_cons pe_str pa_nil))) (by rfl)) (pe_one (pe_cmpR (kOp (K := K) (r := uNotIn) rfl opu_notIn) (pe_ix (kIx (K := K) (r := rIx) rfl ix_seq) (pe_ix (kIx (K := K) (r := rIx) rfl ix_seq) (pv 2) (pe_un un_neg pe_int) (fun _ _ => rfl)) pe_int (fun _ _ => rfl)) (pe_tup (pa_cons pe_str (pa_cons pe_str pa_nil))) (by rfl)))))))
 (pss_cons (ps_set (i := 7) sc__law_thing.nd rfl (.inl rfl) (pe_andTK (K := K) rfl (pe_cmpR (kOp (K := K) (r := uEq) rfl (opu_eq hr.units)) (pv 3) pe_str (nomark _)) (pe_andTK (K := K) rfl (pe_chain opu_le opu_le pe_str (pe_slice sl_str (pv 0) (po_some (pe_op (kOp (K := K) (r := uAdd) rfl opu_add) (pv 1) pe_int)) (po_some (pe_op (kOp (K := K) (r := uAdd) rfl opu_add) (pv 1) pe_int))) pe_str) (pe_one (pv 6)))))
 (pss_cons (ps_if (PW.pt (pw_or (pt_chain opu_le opu_le pe_str (pv 3) pe_str) (pw_or (pt_chain opu_le opu_le pe_str (pv 3) pe_str) (pw_or (pt_cmpR (kOp (K := K) (r := uEq) rfl (opu_eq hr.units)) (pv 3) pe_str (nomark _)) (pw_or1 (pt_val (pv 7))))))) (pss_cons (ps_set (i := 4) sc__law_thing.nd rfl (.inl rfl) (pe_calG C__law_run hr rfl (pa_cons (pv 0) (pa_cons (pe_op (kOp (K := K) (r := uAdd) rfl opu_add) (pv 1) pe_int) pa_nil))))
 (pss_one (ps_ret (pe_tup (pa_cons (pe_calG C__law_run_thing hr rfl (pa_cons (pe_slice sl_str (pv 0) (po_some (pv 1)) (po_some (pv 4))) (pa_cons (pv 1) pa_nil))) (pa_cons (pv 4) pa_nil)))))) pss_nil)
 (pss_cons (ps_if (pt_cmpR (kOp (K := K) (r := uIn) rfl opu_in) (pe_slice sl_str (pv 0) (po_some (pv 1)) (po_some (pe_op (kOp (K := K) (r := uAdd) rfl opu_add) (pv 1) pe_int))) (pe_tup (pa_cons pe_str (pa_cons pe_str (pa_cons pe_str pa_nil)))) (by rfl)) (pss_one (ps_ret (pe_tup (pa_cons (pe_tup (pa_cons pe_str (pa_cons (pe_slice sl_str (pv 0) (po_some (pv 1)) (po_some (pe_op (kOp (K := K) (r := uAdd) rfl opu_add) (pv 1) pe_int))) (pa_cons (pv 1) pa_nil)))) (pa_cons (pe_op (kOp (K := K) (r := uAdd) rfl opu_add) (pv 1) pe_int) pa_nil))))) pss_nil)
 (pss_one (ps_ret (pe_ifExp (pt_cmpR (kOp (K := K) (r := uIn) rfl opu_in) (pv 3) pe_str (by rfl)) (pe_tup (pa_cons (pe_tup (pa_cons pe_str (pa_cons (pv 3) (pa_cons (pv 1) pa_nil)))) (pa_cons (pe_op (kOp (K := K) (r := uAdd) rfl opu_add) (pv 1) pe_int) pa_nil))) (pe_tup (pa_cons pe_non (pa_cons (pv 1) pa_nil)))))))))))), rd_start (σ0 := [some (.str z), some (.int (n : Int)), some (.ref p), none, none, none, none, none]) rfl ?_⟩
 obtain ⟨c, hc⟩ : ∃ c, z.cps.toList[n]? = some c := ⟨_, List.getElem?_eq_getElem (by omega)⟩
 have en : nextT z n ts.getLast? = if c = 39 then (wordT z n).map fun q => (⟨"value", .str q.1, n⟩, q.2)
  else if isRun c = true ∨ begB z.cps.toList n ts.getLast? = true then (runT (cutS z (some (n : Int)) (some ((runE z.cps.toList (n + 1) : Nat) : Int)))).map fun q => (⟨q.1, q.2, n⟩, runE z.cps.toList (n + 1))
  else if cutS z (some (n : Int)) (some ((n : Int) + 2)) ∈ (["!=", "<=", ">="] : List Str) then some (⟨"sign", .str (cutS z (some (n : Int)) (some ((n : Int) + 2))), n⟩, n + 2)
  else if c ∈ sgnL then some (⟨"sign", .str ⟨#[c]⟩, n⟩, n + 1) else none := by unfold nextT; rw [hc]
 repeat walk_at "rd"
 refine g_ixS zs (atI_nat hc) ?_
 repeat walk_at "rd"
 rw [sg_lit (t := "'") (d := 39) rfl]
 refine g_by (fun c1 => ?_) (fun c1 => ?_)
 ·rw [if_pos c1] at en
  repeat walk_at "rd"
  refine ⟨z, "'", (n : Int) + 1, rfl, rfl, ?_⟩
  have ew : wordT z n = if Txt.find3 z "'" ((n : Int) + 1) < 0 then none else if goodW (cutS z (some ((n : Int) + 1)) (some (Txt.find3 z "'" ((n : Int) + 1)))) = true then some (cutS z (some ((n : Int) + 1)) (some (Txt.find3 z "'" ((n : Int) + 1))), (Txt.find3 z "'" ((n : Int) + 1)).toNat + 1) else none := rfl
  have fz : 0 ≤ Txt.find3 z "'" ((n : Int) + 1) → 0 < Txt.find3 z "'" ((n : Int) + 1) := fun h => by
   obtain ⟨e, h1, h2, _⟩ := find3_ge (z := z) (y := "'") (n := n + 1) (by rw [show ((n + 1 : Nat) : Int) = (n : Int) + 1 by omega]; exact h)
   rw [show ((n + 1 : Nat) : Int) = (n : Int) + 1 by omega] at h1
   omega
  generalize hf : Txt.find3 z "'" ((n : Int) + 1) = e at *
  repeat walk_at "rd"
  have bad : (decide (0 < e) && goodW (cutS z (some ((n : Int) + 1)) (some e))) = false → nextT z n ts.getLast? = none := fun hg => by
   rw [en, ew]
   split
   ·rfl
   ·rename_i h
    have := fz (by omega)
    rw [decide_eq_true this, Bool.true_and] at hg
    rw [if_neg (by rw [hg]; exact Bool.false_ne_true)]
    rfl
  refine g_by (fun h0 => ?_) (fun h0 => ?_)
  rotate_left
  ·rw [decide_eq_false h0] at bad ⊢
   repeat walk_at "rd"
   refine ⟨le_of (by simp), fun pr hpr => ?_⟩
   exact qe pr n _ (bad rfl) (Fr.new hpr) (SqT.of upd_same)
  rw [decide_eq_true h0, Bool.true_and] at bad
  repeat walk_at "rd"
  refine g_slS zs ?_
  repeat walk_at "rd"
  refine ⟨_, rfl, hz.cut, fun H' e1 => ?_⟩
  cases hg : goodW (cutS z (some ((n : Int) + 1)) (some e)) with
  | false =>
   repeat walk_at "rd"
   refine ⟨le_of (by simp), fun pr hpr => ?_⟩
   exact qe pr n _ (bad hg) (e1.trans (Fr.new hpr)) (SqT.of upd_same)
  | true =>
   repeat walk_at "rd"
   refine g_slS zs ?_
   repeat walk_at "rd"
   refine ⟨le_of (by simp), fun t ht => ?_⟩
   have e2 : Fr [] H' (upd H' t (.tup [.str "value", .str (cutS z (some ((n : Int) + 1)) (some e)), .int (n : Int)])) := Fr.new ht
   have h2 : SqT K (upd H' t (.tup [.str "value", .str (cutS z (some ((n : Int) + 1)) (some e)), .int (n : Int)])) t [.str "value", .str (cutS z (some ((n : Int) + 1)) (some e)), .int (n : Int)] := SqT.of upd_same
   repeat walk_at "rd"
   refine ⟨le_of (by simp), fun pr hpr => ?_⟩
   have e3 := Fr.new (M := []) (o := .tup [.ref t, .int (e + 1)]) hpr
   refine q ⟨"value", .str _, n⟩ (e.toNat + 1) pr _ (by rw [en, ew, if_neg (by omega), if_pos hg]; rfl) ((e1.trans e2).trans e3) ⟨t, ?_, e3.tup h2⟩
   have ei : ((e.toNat + 1 : Nat) : Int) = e + 1 := by omega
   rw [ei]
   exact SqT.of upd_same
 ·rw [if_neg c1] at en
  obtain ⟨us, hus, htd⟩ := hts
  have ul := (tda_get htd).1
  have eb := begB_eq z.cps.toList n ts.getLast?
  have e45 : decide (z.cps.toList[n]? = some 45) = decide (c = 45) := by rw [hc]; exact decide_eq_decide.mpr (by simp)
  rw [e45] at eb
  refine g_next ?_
  dsimp only
  refine g_seq (g_asg (g_cutE (fun x H' => x = .bl (lastOk ts.getLast?) ∧ Fr [] H H') (fun x H' h => ?_) (fun Q' k => ?_)))
  rotate_left
  ·repeat walk_at "rd"
   refine ⟨le_of (by simp), fun p2 hp2 => ?_⟩
   have e2 : Fr [] H (upd H p2 (.lst [])) := Fr.new hp2
   have h2 : (upd H p2 (.lst [])) p2 = some (.lst []) := upd_same
   have hus2 := e2.at hus (fun z => nomatch z)
   have htd2 := htd.fr e2
   generalize upd H p2 (.lst []) = H2 at *
   refine g_eqEL (SqL.of hus2) (SqL.of h2) ?_
   repeat walk_at "rd"
   refine g_by (fun c3 => ?_) (fun c3 => ?_)
   ·have et : ts = [] := by
     rw [c3] at ul
     exact List.length_eq_zero_iff.mp ul.symm
    rw [et] at k
    rw [decide_eq_true c3]
    exact k _ _ ⟨rfl, e2⟩
   ·obtain ⟨t, r, h3, h4, h5, h6⟩ := tda_last htd2 hsc c3
    have k2 : ∀ H', Fr [] H2 H' → Q' (.bl (!decide (t.s ∈ (["value", "name"] : List Str)) && !decide (t.v ∈ ([")", "me"] : List Str).map V.str))) H' := fun H' e => k _ _ ⟨by rw [h3]; rfl, e2.trans e⟩
    repeat walk_at "rd"
    refine g_ixL (SqL.of hus2) (atI_lastA h4) ?_
    repeat walk_at "rd"
    refine ⟨le_of (by simp), fun p3 hp3 => ?_⟩
    refine g_notInT (xs := (["value", "name"] : List Str).map V.str) (.inr (SqT.of upd_same)) (flat_strs _) ?_
    have e4 : Fr [] H2 (upd H2 p3 (.tup [.str "value", .str "name"])) := Fr.new hp3
    have h54 := e4.tup h5
    have hus4 := e4.at hus2 (fun z => nomatch z)
    generalize upd H2 p3 (.tup [.str "value", .str "name"]) = H4 at *
    rw [inV_str]
    cases h7 : decide (t.s ∈ (["value", "name"] : List Str)) with
    | true =>
     rw [h7] at k2
     repeat walk_at "rd"
     exact k2 _ e4
    | false =>
     rw [h7] at k2
     repeat walk_at "rd"
     refine g_ixL (SqL.of hus4) (atI_lastA h4) ?_
     repeat walk_at "rd"
     refine ⟨le_of (by simp), fun p5 hp5 => ?_⟩
     refine g_notInSc (ws := [")", "me"]) h6 (.inr (SqT.of upd_same)) ?_
     exact k2 _ (e4.trans (Fr.new hp5))
  obtain ⟨rfl, e1⟩ := h
  refine g_name ?_
  dsimp only
  refine g_seq (g_asg (g_cutE (fun x H'' => x = .bl (begB z.cps.toList n ts.getLast?) ∧ H'' = H') (fun x H'' h => ?_) (fun Q' k => ?_)))
  rotate_left
  ·repeat walk_at "rd"
   rw [sg_lit (t := "-") (d := 45) rfl]
   refine g_byB (fun c2 => ?_) (fun c2 => ?_)
   ·rw [c2, Bool.true_and] at eb
    repeat walk_at "rd"
    refine g_slS zs ?_
    repeat walk_at "rd"
    have en1 : ((n : Int) + 1) = ((n + 1 : Nat) : Int) := by omega
    rw [show (n : Int) + 2 = ((n : Int) + 1) + 1 by omega, en1]
    refine g_figC ?_
    repeat walk_at "rd"
    refine g_byB (fun c3 => ?_) (fun c3 => ?_)
    ·rw [c3, Bool.true_and] at eb
     repeat walk_at "rd"
     exact k _ _ ⟨by rw [eb], rfl⟩
    ·rw [c3, Bool.false_and] at eb
     rw [c3]
     exact k _ _ ⟨by rw [eb], rfl⟩
   ·rw [c2, Bool.false_and] at eb
    rw [c2]
    exact k _ _ ⟨by rw [eb], rfl⟩
  obtain ⟨rfl, rfl⟩ := h
  refine g_name ?_
  dsimp only
  refine g_seq (g_if (g_cutT (fun b H2 => b = (isRun c || begB z.cps.toList n ts.getLast?) ∧ H2 = H'') (fun b H2 h => ?_) (fun Q' k => ?_)))
  rotate_left
  ·have er : isRun c = (isLet c || isFig c || decide (c = 46)) := rfl
   repeat walk_at "rd"
   refine g_letC (x := 97) (y := 122) (by rfl) (by rfl) let_le ?_
   repeat walk_at "rd"
   cases h1 : isLet c with
   | true =>
    repeat walk_at "rd"
    exact k _ _ ⟨by rw [er, h1]; rfl, rfl⟩
   | false =>
    repeat walk_at "rd"
    refine g_letC (x := 48) (y := 57) (by rfl) (by rfl) fig_le ?_
    repeat walk_at "rd"
    cases h2 : isFig c with
    | true =>
     repeat walk_at "rd"
     exact k _ _ ⟨by rw [er, h1, h2]; rfl, rfl⟩
    | false =>
     repeat walk_at "rd"
     rw [sg_lit (t := ".") (d := 46) rfl]
     cases h3 : decide (c = 46) with
     | true =>
      repeat walk_at "rd"
      exact k _ _ ⟨by rw [er, h1, h2, h3]; rfl, rfl⟩
     | false =>
      repeat walk_at "rd"
      exact k _ _ ⟨by rw [er, h1, h2, h3]; rfl, rfl⟩
  obtain ⟨rfl, rfl⟩ := h
  cases cb : (isRun c || begB z.cps.toList n ts.getLast?) with
  | true =>
   have cd : isRun c = true ∨ begB z.cps.toList n ts.getLast? = true := by
    rw [← Bool.or_eq_true]
    exact cb
   repeat walk_at "rd"
   refine ⟨z, n + 1, by simp, hz, ?_⟩
   have hle := runE_le z.cps.toList (n + 1) (by omega)
   repeat walk_at "rd"
   refine g_slS zs ?_
   repeat walk_at "rd"
   refine ⟨_, n, rfl, hz.cut, fun s v t H3 hrt e2 ht => ?_, fun H3 hrt e2 => ?_⟩
   ·repeat walk_at "rd"
    refine ⟨le_of (by simp), fun pr hpr => ?_⟩
    have e3 := Fr.new (M := []) (o := .tup [.ref t, .int ((runE z.cps.toList (n + 1) : Nat) : Int)]) hpr
    exact q ⟨s, v, n⟩ _ pr _ (by rw [en, if_pos cd, hrt]; rfl) ((e1.trans e2).trans e3) ⟨t, SqT.of upd_same, e3.tup ht⟩
   ·repeat walk_at "rd"
    refine ⟨le_of (by simp), fun pr hpr => ?_⟩
    have e3 := Fr.new (M := []) (o := .tup [.non, .int ((runE z.cps.toList (n + 1) : Nat) : Int)]) hpr
    exact qe pr _ _ (by rw [en, if_pos cd, hrt]; rfl) ((e1.trans e2).trans e3) (SqT.of upd_same)
  | false =>
   have cd : ¬ (isRun c = true ∨ begB z.cps.toList n ts.getLast? = true) := by
    rw [← Bool.or_eq_true, cb]
    exact Bool.false_ne_true
   rw [if_neg cd] at en
   repeat walk_at "rd"
   refine g_slS zs ?_
   repeat walk_at "rd"
   refine ⟨le_of (by simp), fun p2 hp2 => ?_⟩
   refine g_inT (xs := (["!=", "<=", ">="] : List Str).map V.str) (.inr (SqT.of upd_same)) (flat_strs _) ?_
   have e2 : Fr [] H2 (upd H2 p2 (.tup [.str "!=", .str "<=", .str ">="])) := Fr.new hp2
   have e12 := e1.trans e2
   generalize upd H2 p2 (.tup [.str "!=", .str "<=", .str ">="]) = H3 at *
   rw [inV_str]
   repeat walk_at "rd"
   refine g_by (fun c4 => ?_) (fun c4 => ?_)
   ·repeat walk_at "rd"
    refine g_slS zs ?_
    repeat walk_at "rd"
    refine ⟨le_of (by simp), fun t ht => ?_⟩
    have e3 : Fr [] H3 (upd H3 t (.tup [.str "sign", .str (cutS z (some (n : Int)) (some ((n : Int) + 2))), .int (n : Int)])) := Fr.new ht
    have h3 : SqT K (upd H3 t (.tup [.str "sign", .str (cutS z (some (n : Int)) (some ((n : Int) + 2))), .int (n : Int)])) t [.str "sign", .str (cutS z (some (n : Int)) (some ((n : Int) + 2))), .int (n : Int)] := SqT.of upd_same
    repeat walk_at "rd"
    refine ⟨le_of (by simp), fun pr hpr => ?_⟩
    have e4 := Fr.new (M := []) (o := .tup [.ref t, .int ((n : Int) + 2)]) hpr
    exact q ⟨"sign", .str _, n⟩ (n + 2) pr _ (by rw [en, if_pos c4]) ((e12.trans e3).trans e4) ⟨t, SqT.of upd_same, e4.tup h3⟩
   ·rw [if_neg c4] at en
    repeat walk_at "rd"
    refine g_inS ?_
    have is : (!(Builtin.Str.occurrences "(),_+-*=<>" ⟨#[c]⟩ 0 (Str.length "(),_+-*=<>") 1).isEmpty) = decide (c ∈ sgnL) := in_sgn c
    rw [is]
    repeat walk_at "rd"
    refine g_by (fun c5 => ?_) (fun c5 => ?_)
    ·repeat walk_at "rd"
     refine ⟨le_of (by simp), fun t ht => ?_⟩
     have e3 : Fr [] H3 (upd H3 t (.tup [.str "sign", .str ⟨#[c]⟩, .int (n : Int)])) := Fr.new ht
     have h3 : SqT K (upd H3 t (.tup [.str "sign", .str ⟨#[c]⟩, .int (n : Int)])) t [.str "sign", .str ⟨#[c]⟩, .int (n : Int)] := SqT.of upd_same
     repeat walk_at "rd"
     refine ⟨le_of (by simp), fun pr hpr => ?_⟩
     have e4 := Fr.new (M := []) (o := .tup [.ref t, .int ((n : Int) + 1)]) hpr
     exact q ⟨"sign", .str _, n⟩ (n + 1) pr _ (by rw [en, if_pos c5]) ((e12.trans e3).trans e4) ⟨t, SqT.of upd_same, e4.tup h3⟩
    ·repeat walk_at "rd"
     refine ⟨le_of (by simp), fun pr hpr => ?_⟩
     exact qe pr _ _ (by rw [en, if_neg c5]) (e12.trans (Fr.new hpr)) (SqT.of upd_same)
end
def spLThings (K : PySem.W.Frag) : Sp := fun vs H Q _ => ∃ z : Str, vs = [.str z] ∧ Tx 9000 z ∧ (∀ ts p pr H', Cuts z 0 [] (.ok ts) → Fr [] H H' → ThsAt K H' p ts → SqT K H' pr [.ref p, .non] → Q (.ref pr) H') ∧ ∀ n u pr H', Cuts z 0 [] (.error n) → Fr [] H H' → SqT K H' pr [u, .int (n : Int)] → Q (.ref pr) H'
section
variable {P : Program} {w : World} {K : PySem.W.Frag} {mg : Str → Option Value} {base : Heap} {f : Addr} {fd : FuncData}
theorem ok__law_things (F : FnP K "_law_things" s__law_things f fd) (B : BiR mg) (C__law_thing : CalG P w K mg base 26 "_law_thing" (spLThing K)) : FnG P w K mg base CX0 28 f fd ["_law_text"] (spLThings K) := by
 refine okG F sc__law_things (fun vs H Q E h => ?_) (fun cdv A outer s H vs Q E hr h => ?_)
 ·obtain ⟨z, rfl, _⟩ := h
  rfl
 obtain ⟨z, rfl, hz, q, qe⟩ := h
 have zl := hz.len
 have zs : z.length ≤ sizeLine := le_of (by omega)
 have ll := len_l z
 refine ⟨_, PSs.nox (pss_cons (ps_set (i := 1) sc__law_things.nd rfl (.inl rfl) (pe_lst pa_nil))
 (pss_cons (ps_set (i := 2) sc__law_things.nd rfl (.inl rfl) pe_int)
 (pss_cons (ps_while PassesOwn.never (pt_cmpR (kOp (K := K) (r := uLt) rfl opu_lt) (pv 2) (pe_callB (kCall (K := K) (r := uLen) rfl callu_len) (by rfl) B.b_len (by decide +kernel) (pa_cons (pv 0) pa_nil)) (nomark _)) (pss_one (ps_if (pt_cmpR (kOp (K := K) (r := uEq) rfl (opu_eq hr.units)) (pe_ix (kIx (K := K) (r := rIx) rfl ix_seq) (pv 0) (pv 2) (fun _ _ => rfl)) pe_str (nomark _)) (pss_one (ps_set (i := 2) sc__law_things.nd rfl (.inl rfl) (pe_op (kOp (K := K) (r := uAdd) rfl opu_add) (pv 2) pe_int))) (pss_cons (ps_asg (pe_calG C__law_thing hr rfl (pa_cons (pv 0) (pa_cons (pv 2) (pa_cons (pv 1) pa_nil)))) (pg_tupK (K := K) rfl rfl (pgs_cons (pg_name (i := 3) sc__law_things.nd rfl (by first | exact Or.inl rfl | exact Or.inr rfl)) (pgs_cons (pg_name (i := 4) sc__law_things.nd rfl (by first | exact Or.inl rfl | exact Or.inr rfl)) pgs_nil))))
 (pss_cons (ps_if (pt_cmpR opu_is (pv 3) pe_non (nomark _)) (pss_one (ps_ret (pe_tup (pa_cons (pe_lst pa_nil) (pa_cons (pv 2) pa_nil))))) pss_nil)
 (pss_cons (ps_expr (kBM (K := K) rfl (pe_bm PySem.F.plainAttrs_list PySem.F.slot_list_append PySem.F.type_list_append mt_append (pv 1) (pa_cons (pv 3) pa_nil))))
 (pss_one (ps_set (i := 2) sc__law_things.nd rfl (.inl rfl) (pv 4)))))))))
 (pss_one (ps_ret (pe_tup (pa_cons (pe_op (kOp (K := K) (r := uAdd) rfl opu_add) (pv 1) (pe_lst (pa_cons (pe_tup (pa_cons pe_str (pa_cons pe_str (pa_cons (pe_callB (kCall (K := K) (r := uLen) rfl callu_len) (by rfl) B.b_len (by decide +kernel) (pa_cons (pv 0) pa_nil)) pa_nil)))) pa_nil))) (pa_cons pe_non pa_nil)))))))), rd_start (σ0 := [some (.str z), none, none, none, none]) rfl ?_⟩
 repeat walk_at "rd"
 refine ⟨le_of (by simp), fun p hp => ?_⟩
 have e1 : Fr [] H (upd H p (.lst [])) := Fr.new hp
 have h1 : (upd H p (.lst [])) p = some (.lst []) := upd_same
 generalize upd H p (.lst []) = H1 at *
 repeat walk_at "rd"
 refine g_while2 (fun σ H' => ∃ (n : Nat) (ts : List Th) (us : List V) (z3 z4 : Option V), σ = [some (.str z), some (.ref p), some (.int (n : Int)), z3, z4] ∧ H' p = some (.lst us) ∧ TdAll K H' us (ts.map Th.d) ∧ (∀ t ∈ ts, isSc t.v = true ∧ t.s ≠ "end") ∧ Fr [] H H' ∧ us.length ≤ n ∧ n ≤ z.length + 1 ∧ ∀ r, Cuts z n ts r → Cuts z 0 [] r)
  (fun σ H' => match σ with | [_, _, some (.int m), _, _] => z.length - m.toNat | _ => 0) ⟨0, [], [], _, _, rfl, h1, .nil, (fun _ z => nomatch z), e1, by simp, by omega, fun r h => h⟩ (fun σ H2 h => ?_)
 obtain ⟨n, ts, us, z3, z4, rfl, h2, ht2, hs, e2, hul, hn9, hcut⟩ := h
 repeat walk_at "rd"
 refine g_lenS zs ?_
 repeat walk_at "rd"
 refine g_by (fun c1 => ?_) (fun c1 => ?_)
 ·have hn : n < z.cps.toList.length := by omega
  have hc : z.cps.toList[n]? = some z.cps.toList[n] := List.getElem?_eq_getElem hn
  generalize z.cps.toList[n] = c at *
  refine g_wt ?_
  repeat walk_at "rd"
  refine g_ixS zs (atI_nat hc) ?_
  repeat walk_at "rd"
  rw [sg_lit (t := " ") (d := 32) rfl]
  refine g_by (fun c2 => ?_) (fun c2 => ?_)
  ·subst c2
   repeat walk_at "rd"
   refine ⟨⟨n + 1, ts, us, z3, z4, rfl, h2, ht2, hs, e2, by omega, by omega, fun r h => hcut r (.skip (by omega) hc h)⟩, ?_⟩
   show z.length - ((n : Int) + 1).toNat < z.length - ((n : Int)).toNat
   omega
  ·have hc2 : z.cps.toList[n]? ≠ some 32 := by rw [hc]; intro e; exact c2 (Option.some.inj e)
   repeat walk_at "rd"
   refine ⟨z, n, p, ts, rfl, hz, by omega, ⟨us, h2, ht2⟩, fun t ht => (hs t ht).1, fun t m pr H3 hnt e3 hpr => ?_, fun pr e H3 hnt e3 hpr => ?_⟩
   ·obtain ⟨r, hpr1, hr1⟩ := hpr
    have h3 := e3.at h2 (fun z => nomatch z)
    have ht3 := ht2.fr e3
    have hm := nextT_lt hnt
    have hsc := nextT_sc hnt
    refine g_gtup hpr1 rfl ?_
    repeat walk_at "rd"
    refine g_ff (decide_eq_false (fun z => nomatch z)) ?_
    repeat walk_at "rd"
    refine g_app h3 (by omega) ?_
    have e4 : Fr [p] H3 (upd H3 p (.lst (us ++ [.ref r]))) := Fr.mut (List.mem_singleton.mpr rfl) h3 nofix_lst
    repeat walk_at "rd"
    refine ⟨⟨m, ts ++ [t], us ++ [.ref r], _, _, rfl, upd_same, ?_, fun x hx => ?_, (e2.trans e3).over hp, by rw [List.length_append]; simp; omega, hm.2, fun r h => hcut r (.step (by omega) hc2 hnt h)⟩, ?_⟩
    ·rw [List.map_append]
     exact (tda_snoc4 ht3 (show Td K H3 (.ref r) t.d from .tup hr1 (.cons (.str _) (.cons (sc_td hsc.1) (.cons (.int _) .nil))))).fr e4
    ·rcases List.mem_append.mp hx with hx | hx
     ·exact hs x hx
     ·rw [List.mem_singleton.mp hx]; exact hsc
    ·show z.length - ((m : Int)).toNat < z.length - ((n : Int)).toNat
     omega
   ·refine g_gtup hpr rfl ?_
    repeat walk_at "rd"
    refine ⟨le_of (by simp), fun p5 hp5 => ?_⟩
    have e5 := Fr.new (M := []) (o := .lst []) hp5
    repeat walk_at "rd"
    refine ⟨le_of (by simp), fun p6 hp6 => ?_⟩
    exact qe n _ p6 _ (hcut _ (.bad (by omega) hc2 hnt)) (((e2.trans e3).trans e5).trans (Fr.new hp6)) (SqT.of upd_same)
 ·repeat walk_at "rd"
  refine g_lenS zs ?_
  repeat walk_at "rd"
  refine ⟨le_of (by simp), fun r hr0 => ?_⟩
  have e3 : Fr [] H2 (upd H2 r (.tup [.str "end", .str "", .int ((z.length : Nat) : Int)])) := Fr.new hr0
  have h3 : SqT K (upd H2 r (.tup [.str "end", .str "", .int ((z.length : Nat) : Int)])) r [.str "end", .str "", .int ((z.length : Nat) : Int)] := SqT.of upd_same
  have h23 := e3.at h2 (fun z => nomatch z)
  have ht3 := ht2.fr e3
  generalize upd H2 r (.tup [.str "end", .str "", .int ((z.length : Nat) : Int)]) = H3 at *
  repeat walk_at "rd"
  refine ⟨le_of (by simp), fun p4 hp4 => ?_⟩
  have e4 : Fr [] H3 (upd H3 p4 (.lst [.ref r])) := Fr.new hp4
  have h34 := e4.at h23 (fun z => nomatch z)
  have h4 : (upd H3 p4 (.lst [.ref r])) p4 = some (.lst [.ref r]) := upd_same
  have h44 := e4.tup h3
  have ht4 := ht3.fr e4
  generalize upd H3 p4 (.lst [.ref r]) = H4 at *
  refine g_addL h34 h4 (le_of (by simp; omega)) (fun p5 hp5 => ?_)
  have e5 : Fr [] H4 (upd H4 p5 (.lst (us ++ [.ref r]))) := Fr.new hp5
  have h5 : ThsAt K (upd H4 p5 (.lst (us ++ [.ref r]))) p5 (ts ++ [endT z]) := ⟨_, upd_same, by
   rw [List.map_append]
   exact (tda_snoc4 ht4 (show Td K H4 (.ref r) (endT z).d from .tup h44 (.cons (.str _) (.cons (.str _) (.cons (.int _) .nil))))).fr e5⟩
  generalize upd H4 p5 (.lst (us ++ [.ref r])) = H5 at *
  repeat walk_at "rd"
  refine ⟨le_of (by simp), fun p6 hp6 => ?_⟩
  have e6 := Fr.new (M := []) (o := .tup [.ref p5, .non]) hp6
  exact q _ p5 p6 _ (hcut _ (.stop (by omega))) ((((e2.trans e3).trans e4).trans e5).trans e6) (h5.fr e6 (fun z => nomatch z)) (SqT.of upd_same)
end
def okV : V → Bool
 | .str a => PyData.strOk a
 | _ => true
structure LawTs (ts : List Th) : Prop where
 g : GoodTs ts
 ok : ∀ t ∈ ts, PyData.strOk t.s = true ∧ okV t.v = true
theorem LawTs.at {ts : List Th} (g : LawTs ts) {i : Nat} (hi : i < ts.length) : PyData.strOk (tkn ts i).s = true ∧ okV (tkn ts i).v = true := by
 have e1 : ts[i]? = some ts[i] := List.getElem?_eq_getElem hi
 have et : tkn ts i = ts[i] := by unfold tkn; rw [List.getD_eq_getElem?_getD, e1]; rfl
 rw [et]
 exact g.ok _ (List.getElem_mem _)
theorem sh2 {s z : Str} {v : V} (h1 : PyData.strOk s = true) (h2 : isSc v = true) (h3 : okV v = true) : SeqAt.shaped (.tuple [.str s, scD v]) = true := by
 cases v with
 | str a => simp [SeqAt.shaped, PyData.canLay0, PyData.canLayAll0, PyData.depth, PyData.depthAll, scD, h1, show PyData.strOk a = true from h3]
 | int i => simp [SeqAt.shaped, PyData.canLay0, PyData.canLayAll0, PyData.depth, PyData.depthAll, scD, h1]
 | bl b => simp [SeqAt.shaped, PyData.canLay0, PyData.canLayAll0, PyData.depth, PyData.depthAll, scD, h1]
 | non => simp [SeqAt.shaped, PyData.canLay0, PyData.canLayAll0, PyData.depth, PyData.depthAll, scD, h1]
 | _ => cases h2
theorem eqv2 {s x y : Str} {v : V} (h2 : isSc v = true) : PyData.eqv (.tuple [.str s, scD v]) (.tuple [.str x, .str y]) = (decide (s = x) && decide (v = .str y)) := by
 cases v with
 | str a =>
  simp only [PyData.eqv, PyData.eqvAll, scD, Bool.and_true]
  congr 1
  exact decide_eq_decide.mpr (by simp)
 | int i => simp [PyData.eqv, PyData.eqvAll, scD]
 | bl b => simp [PyData.eqv, PyData.eqvAll, scD]
 | non => simp [PyData.eqv, PyData.eqvAll, scD]
 | _ => cases h2
section
variable {K : PySem.W.Frag} {H : Hp} {σ : L2.St} {p : Addr} {ts : List Th} {i i0 i1 : Nat} {Q : VK} {x y : Str}
theorem th_eq (hi : i < ts.length) : isT ts i x y = (decide ((tkn ts i).s = x) && decide ((tkn ts i).v = .str y)) := by
 unfold isT
 rw [th_tk hi]
theorem dp2 {a : Addr} {s : Str} {v : V} (h : SqT K H a [.str s, v]) (hs : isSc v = true) : Dp K H (.ref a) (.tuple [.str s, scD v]) := Td.dp (.tup h (.cons (.str _) (.cons (sc_td hs) .nil)))
theorem g_ixTh (h : ThsAt K H p ts) (g : LawTs ts) (hi : i < ts.length) (q : ∀ r, SqT K H r [.str (tkn ts i).s, (tkn ts i).v, .int ((tkn ts i).n : Int)] → Q (.ref r) H) : rIx K (.ref p) (.int (i : Int)) H Q := by
 obtain ⟨us, h1, h2⟩ := h
 obtain ⟨r, e, hr, _⟩ := ths_at g.g h2 hi
 exact g_ixL (SqL.of h1) e (q r hr)
theorem eq_pr {a b : Addr} (ha : SqT K H a [.str (tkn ts i).s, (tkn ts i).v]) (hb : SqT K H b [.str x, .str y]) (g : LawTs ts) (hi : i < ts.length) (hx : PyData.strOk x = true) (hy : PyData.strOk y = true) (q : Q (.bl (isT ts i x y)) H) : uEq K (.ref a) (.ref b) H Q := by
 have k := g.at hi
 have s := g_sc g.g hi
 refine g_eqD (dp2 ha s) (dp2 hb (v := .str y) rfl) (sh2 (z := x) k.1 s k.2) (sh2 (z := x) hx (v := .str y) rfl hy) ?_
 rw [show scD (.str y) = .str y from rfl, eqv2 s, ← th_eq hi]
 exact q
theorem ne_pr {a b : Addr} (ha : SqT K H a [.str (tkn ts i).s, (tkn ts i).v]) (hb : SqT K H b [.str x, .str y]) (g : LawTs ts) (hi : i < ts.length) (hx : PyData.strOk x = true) (hy : PyData.strOk y = true) (q : Q (.bl (!isT ts i x y)) H) : uNe K (.ref a) (.ref b) H Q := by
 have k := g.at hi
 have s := g_sc g.g hi
 refine g_neD (dp2 ha s) (dp2 hb (v := .str y) rfl) (sh2 (z := x) k.1 s k.2) (sh2 (z := x) hx (v := .str y) rfl hy) ?_
 rw [show scD (.str y) = .str y from rfl, eqv2 s, ← th_eq hi]
 exact q
theorem pr_lit {te : V → V → Hp → VK → Prop} {a : Addr} (ha : SqT K H a [.str (tkn ts i).s, (tkn ts i).v])
  (k : ∀ b H', Fr [] H H' → SqT K H' a [.str (tkn ts i).s, (tkn ts i).v] → SqT K H' b [.str x, .str y] → te (.ref a) (.ref b) H' Q) : tTup (tCons (tC (.str x)) (tCons (tC (.str y)) tNil)) σ H fun w' H2 => te (.ref a) w' H2 Q := by
 refine g_tup (g_cons (g_c (g_cons (g_c (g_nil ⟨le_of (by simp), fun b hb => ?_⟩)))))
 have e : Fr [] H (upd H b (.tup [.str x, .str y])) := Fr.new hb
 exact k b _ e (e.tup ha) (SqT.of upd_same)
theorem pr_sl {te : V → V → Hp → VK → Prop} (hte : TE) (he : ∀ A : VK, A (.int (i : Int)) H → hte σ H A) (h0 : σ[i0]? = some (some (.ref p))) (h : ThsAt K H p ts) (g : LawTs ts) (hi : i < ts.length)
  (k : ∀ a b H', Fr [] H H' → SqT K H' a [.str (tkn ts i).s, (tkn ts i).v] → SqT K H' b [.str x, .str y] → te (.ref a) (.ref b) H' Q) :
  tOp te (tSl (rSlA K) (tOp (rIx K) (tVar i0) hte) tNoPart (tPart (tC (.int 2)))) (tTup (tCons (tC (.str x)) (tCons (tC (.str y)) tNil))) σ H Q := by
 refine g_op (g_sl (g_op (g_var h0 (he _ (g_ixTh h g hi fun r hr => ?_)))))
 refine g_noPart (g_part (g_c ⟨2, rfl, ?_⟩))
 refine g_slA hr fun a H1 e1 ha => ?_
 exact pr_lit (te := te) (show SqT K H1 a [.str (tkn ts i).s, (tkn ts i).v] from ha) fun b H2 e2 ha2 hb => k a b H2 (e1.trans e2) ha2 hb
theorem g_thNe0 (h0 : σ[i0]? = some (some (.ref p))) (h1 : σ[i1]? = some (some (.int (i : Int)))) (hx : PyData.strOk x = true) (hy : PyData.strOk y = true) (h : ThsAt K H p ts) (g : LawTs ts) (hi : i < ts.length) (q : ∀ H', Fr [] H H' → ThsAt K H' p ts → Q (.bl (!isT ts i x y)) H') :
  tOp (uNe K) (tSl (rSlA K) (tOp (rIx K) (tVar i0) (tVar i1)) tNoPart (tPart (tC (.int 2)))) (tTup (tCons (tC (.str x)) (tCons (tC (.str y)) tNil))) σ H Q :=
 pr_sl (tVar i1) (fun A q => g_var h1 q) h0 h g hi fun a b H' e ha hb => ne_pr ha hb g hi hx hy (q H' e (h.fr e (fun z => nomatch z)))
theorem g_thEq0 (h0 : σ[i0]? = some (some (.ref p))) (h1 : σ[i1]? = some (some (.int (i : Int)))) (hx : PyData.strOk x = true) (hy : PyData.strOk y = true) (h : ThsAt K H p ts) (g : LawTs ts) (hi : i < ts.length) (q : ∀ H', Fr [] H H' → ThsAt K H' p ts → Q (.bl (isT ts i x y)) H') :
  tOp (uEq K) (tSl (rSlA K) (tOp (rIx K) (tVar i0) (tVar i1)) tNoPart (tPart (tC (.int 2)))) (tTup (tCons (tC (.str x)) (tCons (tC (.str y)) tNil))) σ H Q :=
 pr_sl (tVar i1) (fun A q => g_var h1 q) h0 h g hi fun a b H' e ha hb => eq_pr ha hb g hi hx hy (q H' e (h.fr e (fun z => nomatch z)))
theorem ie1 (h1 : σ[i1]? = some (some (.int (i : Int)))) (A : VK) (q : A (.int ((i + 1 : Nat) : Int)) H) : tOp (uAdd K) (tVar i1) (tC (.int 1)) σ H A := g_op (g_var h1 (g_c (g_addI (by rw [show (i : Int) + 1 = ((i + 1 : Nat) : Int) by omega]; exact q))))
theorem g_thNe1 (h0 : σ[i0]? = some (some (.ref p))) (h1 : σ[i1]? = some (some (.int (i : Int)))) (hx : PyData.strOk x = true) (hy : PyData.strOk y = true) (h : ThsAt K H p ts) (g : LawTs ts) (hi : i + 1 < ts.length) (q : ∀ H', Fr [] H H' → ThsAt K H' p ts → Q (.bl (!isT ts (i + 1) x y)) H') :
  tOp (uNe K) (tSl (rSlA K) (tOp (rIx K) (tVar i0) (tOp (uAdd K) (tVar i1) (tC (.int 1)))) tNoPart (tPart (tC (.int 2)))) (tTup (tCons (tC (.str x)) (tCons (tC (.str y)) tNil))) σ H Q :=
 pr_sl _ (ie1 h1) h0 h g hi fun a b H' e ha hb => ne_pr ha hb g hi hx hy (q H' e (h.fr e (fun z => nomatch z)))
theorem g_thEq1 (h0 : σ[i0]? = some (some (.ref p))) (h1 : σ[i1]? = some (some (.int (i : Int)))) (hx : PyData.strOk x = true) (hy : PyData.strOk y = true) (h : ThsAt K H p ts) (g : LawTs ts) (hi : i + 1 < ts.length) (q : ∀ H', Fr [] H H' → ThsAt K H' p ts → Q (.bl (isT ts (i + 1) x y)) H') :
  tOp (uEq K) (tSl (rSlA K) (tOp (rIx K) (tVar i0) (tOp (uAdd K) (tVar i1) (tC (.int 1)))) tNoPart (tPart (tC (.int 2)))) (tTup (tCons (tC (.str x)) (tCons (tC (.str y)) tNil))) σ H Q :=
 pr_sl _ (ie1 h1) h0 h g hi fun a b H' e ha hb => eq_pr ha hb g hi hx hy (q H' e (h.fr e (fun z => nomatch z)))
theorem pr_two {te : V → V → Hp → VK → Prop} {v : V} (h0 : σ[i0]? = some (some (.str (tkn ts i).s))) (h1 : σ[i1]? = some (some (tkn ts i).v))
  (k : ∀ a b H', Fr [] H H' → SqT K H' a [.str (tkn ts i).s, (tkn ts i).v] → SqT K H' b [.str x, .str y] → te (.ref a) (.ref b) H' Q) :
  tOp te (tTup (tCons (tVar i0) (tCons (tVar i1) tNil))) (tTup (tCons (tC (.str x)) (tCons (tC (.str y)) tNil))) σ H Q := by
 refine g_op (g_tup (g_cons (g_var h0 (g_cons (g_var h1 (g_nil ⟨le_of (by simp), fun a ha => ?_⟩))))))
 have e1 : Fr [] H (upd H a (.tup [.str (tkn ts i).s, (tkn ts i).v])) := Fr.new ha
 exact pr_lit (te := te) (SqT.of upd_same) fun b H2 e2 ha2 hb => k a b H2 (e1.trans e2) ha2 hb
theorem g_prNe (h0 : σ[i0]? = some (some (.str (tkn ts i).s))) (h1 : σ[i1]? = some (some (tkn ts i).v)) (hx : PyData.strOk x = true) (hy : PyData.strOk y = true) (g : LawTs ts) (hi : i < ts.length) (h : ThsAt K H p ts) (q : ∀ H', Fr [] H H' → ThsAt K H' p ts → Q (.bl (!isT ts i x y)) H') :
  tOp (uNe K) (tTup (tCons (tVar i0) (tCons (tVar i1) tNil))) (tTup (tCons (tC (.str x)) (tCons (tC (.str y)) tNil))) σ H Q :=
 pr_two (v := .non) h0 h1 fun a b H' e ha hb => ne_pr ha hb g hi hx hy (q H' e (h.fr e (fun z => nomatch z)))
theorem g_prEq (h0 : σ[i0]? = some (some (.str (tkn ts i).s))) (h1 : σ[i1]? = some (some (tkn ts i).v)) (hx : PyData.strOk x = true) (hy : PyData.strOk y = true) (g : LawTs ts) (hi : i < ts.length) (h : ThsAt K H p ts) (q : ∀ H', Fr [] H H' → ThsAt K H' p ts → Q (.bl (isT ts i x y)) H') :
  tOp (uEq K) (tTup (tCons (tVar i0) (tCons (tVar i1) tNil))) (tTup (tCons (tC (.str x)) (tCons (tC (.str y)) tNil))) σ H Q :=
 pr_two (v := .non) h0 h1 fun a b H' e ha hb => eq_pr ha hb g hi hx hy (q H' e (h.fr e (fun z => nomatch z)))
end
def LRd (K : PySem.W.Frag) (R : Nat → Res → Prop) (H : Hp) (ts : List Th) (i : Nat) (Q : VK) : Prop :=
 (∀ d j a pr H', R i (.ok (d, j)) → j < ts.length → Fr [] H H' → Td K H' (.ref a) d → SqT K H' pr [.ref a, .int (j : Int)] → Q (.ref pr) H') ∧ ∀ e pr H', R i (.error e) → e < ts.length → Fr [] H H' → SqT K H' pr [.non, .int (e : Int)] → Q (.ref pr) H'
theorem LRd.ok {K : PySem.W.Frag} {R : Nat → Res → Prop} {H H1 : Hp} {ts : List Th} {i j : Nat} {d : PyData} {a pr : Addr} {Q : VK} (q : LRd K R H ts i Q) (h : R i (.ok (d, j))) (hj : j < ts.length) (e : Fr [] H H1) (t : Td K H1 (.ref a) d) (hp : H1 pr = none) : Q (.ref pr) (upd H1 pr (.tup [.ref a, .int (j : Int)])) :=
 q.1 d j a pr _ h hj (e.trans (Fr.new hp)) (t.fr (M := []) (Fr.new hp)) (SqT.of upd_same)
theorem LRd.er {K : PySem.W.Frag} {R : Nat → Res → Prop} {H H1 : Hp} {ts : List Th} {i j : Nat} {pr : Addr} {Q : VK} (q : LRd K R H ts i Q) (h : R i (.error j)) (hj : j < ts.length) (e : Fr [] H H1) (hp : H1 pr = none) : Q (.ref pr) (upd H1 pr (.tup [.non, .int (j : Int)])) :=
 q.2 j pr _ h hj (e.trans (Fr.new hp)) (SqT.of upd_same)
def spLLeaf (K : PySem.W.Frag) (n : Nat) : Sp := fun vs H Q _ => ∃ (p : Addr) (ts : List Th) (i : Nat) (m : Bool), vs = [.ref p, .int (i : Int), .int ((12 : Int) - n), .bl m] ∧ ThsAt K H p ts ∧ LawTs ts ∧ i < ts.length ∧ LRd K (LeafN ts m n) H ts i Q
def spLSum (K : PySem.W.Frag) (lv : Int) (R : List Th → Bool → Nat → Nat → Res → Prop) (n : Nat) : Sp := fun vs H Q _ => ∃ (p : Addr) (ts : List Th) (i : Nat) (m : Bool), vs = [.ref p, .int (i : Int), .int ((12 : Int) - n), .bl m, .int lv] ∧ ThsAt K H p ts ∧ LawTs ts ∧ i < ts.length ∧ LRd K (R ts m n) H ts i Q
def spLPrev (K : PySem.W.Frag) : Nat → Sp
 | 0 => fun _ _ _ _ => False
 | n + 1 => spLSum K 1 SumN n
abbrev s__law_leaf_read : Stmt := topS 56
theorem sc__law_leaf_read : FnScope ["_law_things_here", "_law_spot", "_law_deep", "_law_mine_too", "_law_sort", "_law_thing_here", "_law_place", "_law_found"] ["_law_things_here", "_law_spot", "_law_deep", "_law_mine_too"] (defScope s__law_leaf_read) := ⟨rfl, rfl, rfl, by decide +kernel, rfl, by decide +kernel, by decide +kernel⟩
abbrev s__law_sum_read : Stmt := topS 57
theorem sc__law_sum_read : FnScope ["_law_things_here", "_law_spot", "_law_deep", "_law_mine_too", "_law_level", "_law_signs", "_law_found", "_law_sign", "_law_other"] ["_law_things_here", "_law_spot", "_law_deep", "_law_mine_too", "_law_level"] (defScope s__law_sum_read) := ⟨rfl, rfl, rfl, by decide +kernel, rfl, by decide +kernel, by decide +kernel⟩
local macro_rules | `(tactic| walk_at "lw") => `(tactic| first
 | with_reducible refine g_thNe0 rfl rfl (by decide +kernel) (by decide +kernel) (by assumption) (by assumption) (by assumption) fun _ _ _ => ?_
 | with_reducible refine g_thEq0 rfl rfl (by decide +kernel) (by decide +kernel) (by assumption) (by assumption) (by assumption) fun _ _ _ => ?_
 | with_reducible refine g_thNe1 rfl rfl (by decide +kernel) (by decide +kernel) (by assumption) (by assumption) (by assumption) fun _ _ _ => ?_
 | with_reducible refine g_thEq1 rfl rfl (by decide +kernel) (by decide +kernel) (by assumption) (by assumption) (by assumption) fun _ _ _ => ?_
 | with_reducible refine g_prNe rfl rfl (by decide +kernel) (by decide +kernel) (by assumption) (by assumption) (by assumption) fun _ _ _ => ?_
 | with_reducible refine g_prEq rfl rfl (by decide +kernel) (by decide +kernel) (by assumption) (by assumption) (by assumption) fun _ _ _ => ?_
 | with_reducible refine g_ixTh (by assumption) (by assumption) (by assumption) fun _ _ => ?_
 | walk_at "rd")
local macro_rules | `(tactic| walk_at "lwif") => `(tactic| ((fail_if_success (with_reducible refine g_seqIf _ _ _ _ _ _ _ ?_)); walk_at "lw"))
section
variable {P : Program} {w : World} {K : PySem.W.Frag} {mg : Str → Option Value} {base : Heap} {f : Addr} {fd : FuncData}
theorem ok__law_leaf_read {n : Nat} (F : FnP K "_law_leaf_read" s__law_leaf_read f fd) (C__law_sum_read : CalG P w K mg base (4 * n + 9) "_law_sum_read" (spLPrev K n)) : FnG P w K mg base CX0 (4 * n + 10) f fd ["_law_things_here", "_law_spot", "_law_deep", "_law_mine_too"] (spLLeaf K n) := by
 refine okG F sc__law_leaf_read (fun vs H Q E h => ?_) (fun cdv A outer s H vs Q E hr h => ?_)
 ·obtain ⟨p, ts, i, m, rfl, _⟩ := h
  rfl
 obtain ⟨p, ts, i, m, rfl, hT, g, hi, q⟩ := h
 refine ⟨_, PSs.nox (pss_cons (ps_asg (pe_ix (kIx (K := K) (r := rIx) rfl ix_seq) (pv 0) (pv 1) (fun _ _ => rfl)) (pg_tupK (K := K) rfl rfl (pgs_cons (pg_name (i := 4) sc__law_leaf_read.nd rfl (by first | exact Or.inl rfl | exact Or.inr rfl)) (pgs_cons (pg_name (i := 5) sc__law_leaf_read.nd rfl (by first | exact Or.inl rfl | exact Or.inr rfl)) (pgs_cons (pg_name (i := 6) sc__law_leaf_read.nd rfl (by first | exact Or.inl rfl | exact Or.inr rfl)) pgs_nil)))))
 (pss_cons (ps_if (pt_cmpR (kOp (K := K) (r := uEq) rfl (opu_eq hr.units)) (pv 4) pe_str (nomark _)) (pss_one (ps_ret (pe_tup (pa_cons (pe_tup (pa_cons pe_str (pa_cons (pv 5) pa_nil))) (pa_cons (pe_op (kOp (K := K) (r := uAdd) rfl opu_add) (pv 1) pe_int) pa_nil))))) pss_nil)
 (pss_cons (ps_if (PW.pt (pw_or (pt_cmpR (kOp (K := K) (r := uEq) rfl (opu_eq hr.units)) (pv 4) pe_str (nomark _)) (pw_or1 (PW.pt (pw_and (pt_val (pv 3)) (pw_and (pt_cmpR (kOp (K := K) (r := uEq) rfl (opu_eq hr.units)) (pv 5) pe_str (nomark _)) (pw_and1 (pt_cmpR (kOp (K := K) (r := uEq) rfl (opu_eq hr.units)) (pv 4) pe_str (nomark _))))))))) (pss_one (ps_ret (pe_tup (pa_cons (pe_tup (pa_cons pe_str (pa_cons (pv 5) pa_nil))) (pa_cons (pe_op (kOp (K := K) (r := uAdd) rfl opu_add) (pv 1) pe_int) pa_nil))))) pss_nil)
 (pss_cons (ps_if (PW.pt (pw_or (pt_cmpR (kOp (K := K) (r := uNe) rfl (opu_ne hr.units)) (pe_tup (pa_cons (pv 4) (pa_cons (pv 5) pa_nil))) (pe_tup (pa_cons pe_str (pa_cons pe_str pa_nil))) (nomark _)) (pw_or1 (pt_cmpR opu_gt (pv 2) pe_int (nomark _))))) (pss_one (ps_ret (pe_tup (pa_cons pe_non (pa_cons (pv 1) pa_nil))))) pss_nil)
 (pss_cons (ps_asg (pe_calG C__law_sum_read hr rfl (pa_cons (pv 0) (pa_cons (pe_op (kOp (K := K) (r := uAdd) rfl opu_add) (pv 1) pe_int) (pa_cons (pe_op (kOp (K := K) (r := uAdd) rfl opu_add) (pv 2) pe_int) (pa_cons (pv 3) (pa_cons pe_int pa_nil)))))) (pg_tupK (K := K) rfl rfl (pgs_cons (pg_name (i := 7) sc__law_leaf_read.nd rfl (by first | exact Or.inl rfl | exact Or.inr rfl)) (pgs_cons (pg_name (i := 1) sc__law_leaf_read.nd rfl (by first | exact Or.inl rfl | exact Or.inr rfl)) pgs_nil))))
 (pss_cons (ps_if (PW.pt (pw_or (pt_cmpR opu_is (pv 7) pe_non (nomark _)) (pw_or1 (pt_cmpR (kOp (K := K) (r := uNe) rfl (opu_ne hr.units)) (pe_slice (kSl (K := K) (r := rSlA) rfl sl_tupA) (pe_ix (kIx (K := K) (r := rIx) rfl ix_seq) (pv 0) (pv 1) (fun _ _ => rfl)) po_none (po_some pe_int)) (pe_tup (pa_cons pe_str (pa_cons pe_str pa_nil))) (nomark _))))) (pss_one (ps_ret (pe_tup (pa_cons pe_non (pa_cons (pv 1) pa_nil))))) pss_nil)
 (pss_one (ps_ret (pe_tup (pa_cons (pv 7) (pa_cons (pe_op (kOp (K := K) (r := uAdd) rfl opu_add) (pv 1) pe_int) pa_nil))))))))))), rd_start (σ0 := [some (.ref p), some (.int (i : Int)), some (.int ((12 : Int) - n)), some (.bl m), none, none, none, none]) rfl ?_⟩
 rw [leafN_eq] at q
 have ed : decide ((11 : Int) < 12 - n) = !decide (n ≠ 0) := by
  by_cases h : n = 0
  ·subst h; rfl
  ·rw [decide_eq_true h, decide_eq_false (by omega)]; rfl
 have two : ∀ {H1 : Hp} {t : Addr} {s : Str}, H1 t = none → Td K (upd H1 t (.tup [.str s, (tkn ts i).v])) (.ref t) (.tuple [.str s, scD (tkn ts i).v]) := fun ht => .tup (SqT.of upd_same) (.cons (.str _) (.cons (sc_td (g_sc g.g hi)) .nil))
 repeat walk_at "lw"
 refine g_by (fun c1 => ?_) (fun c1 => ?_)
 ·have hn := g.g.next hi (by rw [c1]; decide +kernel)
  repeat walk_at "lw"
  refine ⟨le_of (by simp), fun t ht => ?_⟩
  repeat walk_at "lw"
  refine ⟨le_of (by simp), fun pr hpr => ?_⟩
  exact q.ok (by unfold LeafR; rw [if_pos c1]; rfl) hn (Fr.new ht) (two ht) hpr
 ·have var : ((tkn ts i).s = "name" ∨ (m = true ∧ isT ts i "kept" "me" = true)) → ∀ t pr, H t = none → upd H t (.tup [.str "var", (tkn ts i).v]) pr = none → Q (.ref pr) (upd (upd H t (.tup [.str "var", (tkn ts i).v])) pr (.tup [.ref t, .int ((i + 1 : Nat) : Int)])) := fun hc t pr ht hpr => by
   have hn := g.g.next hi (fun z => by
    rcases hc with h | h
    ·rw [h] at z; exact absurd z (by decide +kernel)
    ·rw [(isT_s h.2 hi).1] at z; exact absurd z (by decide +kernel))
   exact q.ok (by unfold LeafR; rw [if_neg c1, if_pos hc]; rfl) hn (Fr.new ht) (two ht) hpr
  repeat walk_at "lwif"
  try dsimp only
  with_reducible refine g_cutS (fun σ' H' => σ' = [some (.ref p), some (.int (i : Int)), some (.int ((12 : Int) - n)), some (.bl m), some (.str (tkn ts i).s), some (tkn ts i).v, some (.int ((tkn ts i).n : Int)), none] ∧ ¬ ((tkn ts i).s = "name" ∨ (m = true ∧ isT ts i "kept" "me" = true)) ∧ H = H') (fun σ' H' h => ?_) (fun N k => ?_)
  rotate_left
  ·repeat walk_at "lw"
   refine g_by (fun c2 => ?_) (fun c2 => ?_)
   ·repeat walk_at "lw"
    refine ⟨le_of (by simp), fun t ht => ?_⟩
    repeat walk_at "lw"
    exact ⟨le_of (by simp), fun pr hpr => var (.inl c2) t pr ht hpr⟩
   ·repeat walk_at "lw"
    refine g_byB (fun c3 => ?_) (fun c3 => ?_)
    ·repeat walk_at "lw"
     refine g_eqSc (by decide +kernel) (g_sc g.g hi) ?_
     repeat walk_at "lw"
     refine g_by (fun c4 => ?_) (fun c4 => ?_)
     ·repeat walk_at "lw"
      refine g_by (fun c5 => ?_) (fun c5 => ?_)
      ·repeat walk_at "lw"
       refine ⟨le_of (by simp), fun t ht => ?_⟩
       repeat walk_at "lw"
       exact ⟨le_of (by simp), fun pr hpr => var (.inr ⟨c3, by rw [th_eq hi, decide_eq_true c4, decide_eq_true c5]; rfl⟩) t pr ht hpr⟩
      ·repeat walk_at "lw"
       refine k _ _ ⟨rfl, fun z => z.elim c2 fun z => ?_, rfl⟩
       have := z.2
       rw [th_eq hi, decide_eq_false c5] at this
       exact absurd this (by simp)
     ·repeat walk_at "lw"
      refine k _ _ ⟨rfl, fun z => z.elim c2 fun z => ?_, rfl⟩
      have := z.2
      rw [th_eq hi, decide_eq_false c4] at this
      exact absurd this (by simp)
    ·repeat walk_at "lw"
     exact k _ _ ⟨rfl, fun z => z.elim c2 fun z => absurd z.1 (by rw [c3]; exact Bool.false_ne_true), rfl⟩
  obtain ⟨rfl, c2, rfl⟩ := h
  repeat walk_at "lwif"
  try dsimp only
  with_reducible refine g_cutS (fun σ' H' => σ' = [some (.ref p), some (.int (i : Int)), some (.int ((12 : Int) - n)), some (.bl m), some (.str (tkn ts i).s), some (tkn ts i).v, some (.int ((tkn ts i).n : Int)), none] ∧ isT ts i "sign" "(" = true ∧ n ≠ 0 ∧ ThsAt K H' p ts ∧ Fr [] H H') (fun σ' H' h => ?_) (fun N k => ?_)
  rotate_left
  ·repeat walk_at "lw"
   rename_i H1 e1 hT1
   cases c3 : isT ts i "sign" "(" with
   | false =>
    refine g_tt rfl ?_
    repeat walk_at "lw"
    refine ⟨le_of (by simp), fun pr hpr => ?_⟩
    exact q.er (by unfold LeafR; rw [if_neg c1, if_neg c2, if_pos (.inl c3)]) hi e1 hpr
   | true =>
    refine g_ff rfl ?_
    repeat walk_at "lw"
    rw [ed]
    by_cases h : n = 0
    ·rw [decide_eq_false (by simpa using h)]
     repeat walk_at "lw"
     refine ⟨le_of (by simp), fun pr hpr => ?_⟩
     exact q.er (by unfold LeafR; rw [if_neg c1, if_neg c2, if_pos (.inr (decide_eq_false (by simpa using h)))]) hi e1 hpr
    ·rw [decide_eq_true h]
     repeat walk_at "lw"
     exact k _ _ ⟨rfl, c3, h, hT1, e1⟩
  obtain ⟨rfl, c3, hn0, hT1, e1⟩ := h
  have hn := g.g.next hi (by rw [(isT_s c3 hi).1]; decide +kernel)
  obtain ⟨n, rfl⟩ : ∃ n', n = n' + 1 := ⟨n - 1, by omega⟩
  have lo : ∀ {r}, _ → LeafR ts m (decide (n + 1 ≠ 0)) (PrevN ts m (n + 1)) i r := fun h => by
   unfold LeafR
   rw [if_neg c1, if_neg c2, if_neg (by rw [c3]; simp)]
   exact h
  repeat walk_at "lw"
  refine ⟨p, ts, i + 1, m, by rw [show ((12 : Int) - ((n + 1 : Nat) : Int)) + 1 = 12 - (n : Int) by omega]; rfl, hT1, g, hn, fun d j a pr H2 hl hj e2 td hp => ?_, fun e pr H2 hl he e2 hp => ?_⟩
  ·have hT2 := hT1.fr e2 (fun z => nomatch z)
   refine g_gtup hp rfl ?_
   repeat walk_at "lw"
   refine g_ff (decide_eq_false (fun z => nomatch z)) ?_
   repeat walk_at "lw"
   rename_i H3 e3 hT3
   cases c5 : isT ts j "sign" ")" with
   | false =>
    refine g_tt rfl ?_
    repeat walk_at "lw"
    refine ⟨le_of (by simp), fun pr hpr => ?_⟩
    exact q.er (lo (.inr ⟨d, j, hl, by rw [if_neg (by rw [c5]; exact Bool.false_ne_true)]⟩)) hj ((e1.trans e2).trans e3) hpr
   | true =>
    have hn2 := g.g.next hj (by rw [(isT_s c5 hj).1]; decide +kernel)
    refine g_ff rfl ?_
    repeat walk_at "lw"
    refine ⟨le_of (by simp), fun pr hpr => ?_⟩
    exact q.ok (lo (.inr ⟨d, j, hl, by rw [if_pos c5]⟩)) hn2 ((e1.trans e2).trans e3) (td.fr e3) hpr
  ·have hT2 := hT1.fr e2 (fun z => nomatch z)
   refine g_gtup hp rfl ?_
   repeat walk_at "lw"
   refine ⟨le_of (by simp), fun pr hpr => ?_⟩
   exact q.er (lo (.inl ⟨e, hl, rfl⟩)) he (e1.trans e2) hpr
end
theorem g_inSc {K : PySem.W.Frag} {H : Hp} {Q : VK} {v : V} {ws : List Str} {p : Addr} (h : isSc v = true) (hp : SqL K H p (ws.map V.str) ∨ SqT K H p (ws.map V.str)) (q : Q (.bl (decide (v ∈ ws.map V.str))) H) : uIn K v (.ref p) H Q := by
 have key : inV v (ws.map V.str) = decide (v ∈ ws.map V.str) := by
  cases v with
  | str a => rw [inV_str]; exact decide_eq_decide.mpr (by simp)
  | int i => rw [decide_eq_false (by simp)]; unfold inV; rw [List.any_map]; simp [eqV]
  | bl i => rw [decide_eq_false (by simp)]; unfold inV; rw [List.any_map]; simp [eqV]
  | non => rw [decide_eq_false (by simp)]; unfold inV; rw [List.any_map]; simp [eqV]
  | _ => cases h
 have fl : flatV v = true := by cases v <;> first | rfl | cases h
 cases v <;> first | (cases h; done) | exact ⟨p, _, rfl, hp, fl, flat_strs _, by rw [key]; exact q⟩
def lMu (l : Nat) (σ : L2.St) (_ : Hp) : Nat := match σ with
 | [_, some (.int j), _, _, _, _, some (.ref _), _, _] => l - j.toNat + 1
 | _ => 0
section
variable {P : Program} {w : World} {K : PySem.W.Frag} {mg : Str → Option Value} {base : Heap} {f : Addr} {fd : FuncData}
theorem ok__law_sum_leaf {n kL : Nat} {spX : Sp} (F : FnP K "_law_sum_read" s__law_sum_read f fd) (hkL : kL ≤ 4 * n + 10) (C__law_sum_read : CalG P w K mg base kL "_law_sum_read" spX) (C__law_leaf_read : CalG P w K mg base (4 * n + 10) "_law_leaf_read" (spLLeaf K n)) : FnG P w K mg base CX0 (4 * n + 11) f fd ["_law_things_here", "_law_spot", "_law_deep", "_law_mine_too", "_law_level"] (spLSum K 3 LeafN n) := by
 refine okG F sc__law_sum_read (fun vs H Q E h => ?_) (fun cdv A outer s H vs Q E hr h => ?_)
 ·obtain ⟨p, ts, i, m, rfl, _⟩ := h
  rfl
 obtain ⟨p, ts, i, m, rfl, hT, g, hi, q⟩ := h
 refine ⟨_, PSs.nox (pss_cons (ps_if (pt_cmpR (kOp (K := K) (r := uEq) rfl (opu_eq hr.units)) (pv 4) pe_int (nomark _)) (pss_one (ps_ret (pe_calG C__law_leaf_read hr rfl (pa_cons (pv 0) (pa_cons (pv 1) (pa_cons (pv 2) (pa_cons (pv 3) pa_nil))))))) pss_nil)
 (pss_cons (ps_set (i := 5) sc__law_sum_read.nd rfl (.inl rfl) (pe_ifExp (pt_cmpR (kOp (K := K) (r := uEq) rfl (opu_eq hr.units)) (pv 4) pe_int (nomark _)) (pe_lst (pa_cons pe_str (pa_cons pe_str pa_nil))) (pe_lst (pa_cons pe_str pa_nil))))
 (pss_cons (ps_asg (pe_calG C__law_sum_read hr rfl (pa_cons (pv 0) (pa_cons (pv 1) (pa_cons (pv 2) (pa_cons (pv 3) (pa_cons (pe_op (kOp (K := K) (r := uAdd) rfl opu_add) (pv 4) pe_int) pa_nil)))))) (pg_tupK (K := K) rfl rfl (pgs_cons (pg_name (i := 6) sc__law_sum_read.nd rfl (by first | exact Or.inl rfl | exact Or.inr rfl)) (pgs_cons (pg_name (i := 1) sc__law_sum_read.nd rfl (by first | exact Or.inl rfl | exact Or.inr rfl)) pgs_nil))))
 (pss_cons (ps_while PassesOwn.never (PW.pt (pw_and (pt_cmpR opu_isNot (pv 6) pe_non (nomark _)) (pw_and (pt_cmpR (kOp (K := K) (r := uEq) rfl (opu_eq hr.units)) (pe_ix (kIx (K := K) (r := rIx) rfl ix_seq) (pe_ix (kIx (K := K) (r := rIx) rfl ix_seq) (pv 0) (pv 1) (fun _ _ => rfl)) pe_int (fun _ _ => rfl)) pe_str (nomark _)) (pw_and1 (pt_cmpR (kOp (K := K) (r := uIn) rfl opu_in) (pe_ix (kIx (K := K) (r := rIx) rfl ix_seq) (pe_ix (kIx (K := K) (r := rIx) rfl ix_seq) (pv 0) (pv 1) (fun _ _ => rfl)) pe_int (fun _ _ => rfl)) (pv 5) (by rfl)))))) (pss_cons (ps_set (i := 7) sc__law_sum_read.nd rfl (.inl rfl) (pe_ix (kIx (K := K) (r := rIx) rfl ix_seq) (pe_ix (kIx (K := K) (r := rIx) rfl ix_seq) (pv 0) (pv 1) (fun _ _ => rfl)) pe_int (fun _ _ => rfl)))
 (pss_cons (ps_asg (pe_calG C__law_sum_read hr rfl (pa_cons (pv 0) (pa_cons (pe_op (kOp (K := K) (r := uAdd) rfl opu_add) (pv 1) pe_int) (pa_cons (pv 2) (pa_cons (pv 3) (pa_cons (pe_op (kOp (K := K) (r := uAdd) rfl opu_add) (pv 4) pe_int) pa_nil)))))) (pg_tupK (K := K) rfl rfl (pgs_cons (pg_name (i := 8) sc__law_sum_read.nd rfl (by first | exact Or.inl rfl | exact Or.inr rfl)) (pgs_cons (pg_name (i := 1) sc__law_sum_read.nd rfl (by first | exact Or.inl rfl | exact Or.inr rfl)) pgs_nil))))
 (pss_one (ps_set (i := 6) sc__law_sum_read.nd rfl (.inl rfl) (pe_ifExp (pt_cmpR opu_is (pv 8) pe_non (nomark _)) pe_non (pe_tup (pa_cons (pv 7) (pa_cons (pv 6) (pa_cons (pv 8) pa_nil))))))))))
 (pss_one (ps_ret (pe_tup (pa_cons (pv 6) (pa_cons (pv 1) pa_nil))))))))), rd_start (σ0 := [some (.ref p), some (.int (i : Int)), some (.int ((12 : Int) - n)), some (.bl m), some (.int 3), none, none, none, none]) rfl ?_⟩
 repeat walk_at "lw"
 exact ⟨p, ts, i, m, rfl, hT, g, hi, q⟩
theorem ok__law_sum_chain {n kk kL : Nat} {lv : Int} {sg : List Str} {LF : List Th → Bool → Nat → Nat → Res → Prop} {spX : Sp} (hlv : (lv = 1 ∧ sg = (["+", "-"] : List Str)) ∨ (lv = 2 ∧ sg = (["*"] : List Str))) (hf : ∀ ts m, Fwd (LF ts m n)) (F : FnP K "_law_sum_read" s__law_sum_read f fd) (hkL : kL ≤ kk) (C__law_leaf_read : CalG P w K mg base kL "_law_leaf_read" spX)
  (C__law_sum_read : CalG P w K mg base kk "_law_sum_read" (spLSum K (lv + 1) LF n)) : FnG P w K mg base CX0 (kk + 1) f fd ["_law_things_here", "_law_spot", "_law_deep", "_law_mine_too", "_law_level"] (spLSum K lv (fun ts m n => ChainR ts sg (LF ts m n)) n) := by
 refine okG F sc__law_sum_read (fun vs H Q E h => ?_) (fun cdv A outer s H vs Q E hr h => ?_)
 ·obtain ⟨p, ts, i, m, rfl, _⟩ := h
  rfl
 obtain ⟨p, ts, i, m, rfl, hT, g, hi, q⟩ := h
 have gz := g.g.sz
 refine ⟨_, PSs.nox (pss_cons (ps_if (pt_cmpR (kOp (K := K) (r := uEq) rfl (opu_eq hr.units)) (pv 4) pe_int (nomark _)) (pss_one (ps_ret (pe_calG C__law_leaf_read hr rfl (pa_cons (pv 0) (pa_cons (pv 1) (pa_cons (pv 2) (pa_cons (pv 3) pa_nil))))))) pss_nil)
 (pss_cons (ps_set (i := 5) sc__law_sum_read.nd rfl (.inl rfl) (pe_ifExp (pt_cmpR (kOp (K := K) (r := uEq) rfl (opu_eq hr.units)) (pv 4) pe_int (nomark _)) (pe_lst (pa_cons pe_str (pa_cons pe_str pa_nil))) (pe_lst (pa_cons pe_str pa_nil))))
 (pss_cons (ps_asg (pe_calG C__law_sum_read hr rfl (pa_cons (pv 0) (pa_cons (pv 1) (pa_cons (pv 2) (pa_cons (pv 3) (pa_cons (pe_op (kOp (K := K) (r := uAdd) rfl opu_add) (pv 4) pe_int) pa_nil)))))) (pg_tupK (K := K) rfl rfl (pgs_cons (pg_name (i := 6) sc__law_sum_read.nd rfl (by first | exact Or.inl rfl | exact Or.inr rfl)) (pgs_cons (pg_name (i := 1) sc__law_sum_read.nd rfl (by first | exact Or.inl rfl | exact Or.inr rfl)) pgs_nil))))
 (pss_cons (ps_while PassesOwn.never (PW.pt (pw_and (pt_cmpR opu_isNot (pv 6) pe_non (nomark _)) (pw_and (pt_cmpR (kOp (K := K) (r := uEq) rfl (opu_eq hr.units)) (pe_ix (kIx (K := K) (r := rIx) rfl ix_seq) (pe_ix (kIx (K := K) (r := rIx) rfl ix_seq) (pv 0) (pv 1) (fun _ _ => rfl)) pe_int (fun _ _ => rfl)) pe_str (nomark _)) (pw_and1 (pt_cmpR (kOp (K := K) (r := uIn) rfl opu_in) (pe_ix (kIx (K := K) (r := rIx) rfl ix_seq) (pe_ix (kIx (K := K) (r := rIx) rfl ix_seq) (pv 0) (pv 1) (fun _ _ => rfl)) pe_int (fun _ _ => rfl)) (pv 5) (by rfl)))))) (pss_cons (ps_set (i := 7) sc__law_sum_read.nd rfl (.inl rfl) (pe_ix (kIx (K := K) (r := rIx) rfl ix_seq) (pe_ix (kIx (K := K) (r := rIx) rfl ix_seq) (pv 0) (pv 1) (fun _ _ => rfl)) pe_int (fun _ _ => rfl)))
 (pss_cons (ps_asg (pe_calG C__law_sum_read hr rfl (pa_cons (pv 0) (pa_cons (pe_op (kOp (K := K) (r := uAdd) rfl opu_add) (pv 1) pe_int) (pa_cons (pv 2) (pa_cons (pv 3) (pa_cons (pe_op (kOp (K := K) (r := uAdd) rfl opu_add) (pv 4) pe_int) pa_nil)))))) (pg_tupK (K := K) rfl rfl (pgs_cons (pg_name (i := 8) sc__law_sum_read.nd rfl (by first | exact Or.inl rfl | exact Or.inr rfl)) (pgs_cons (pg_name (i := 1) sc__law_sum_read.nd rfl (by first | exact Or.inl rfl | exact Or.inr rfl)) pgs_nil))))
 (pss_one (ps_set (i := 6) sc__law_sum_read.nd rfl (.inl rfl) (pe_ifExp (pt_cmpR opu_is (pv 8) pe_non (nomark _)) pe_non (pe_tup (pa_cons (pv 7) (pa_cons (pv 6) (pa_cons (pv 8) pa_nil))))))))))
 (pss_one (ps_ret (pe_tup (pa_cons (pv 6) (pa_cons (pv 1) pa_nil))))))))), rd_start (σ0 := [some (.ref p), some (.int (i : Int)), some (.int ((12 : Int) - n)), some (.bl m), some (.int lv), none, none, none, none]) rfl ?_⟩
 repeat walk_at "lw"
 refine g_ff (decide_eq_false (by rcases hlv with ⟨h, _⟩ | ⟨h, _⟩ <;> omega)) ?_
 refine g_next ?_
 dsimp only
 refine g_seq (g_asg (g_cutE (fun x H' => ∃ L, x = .ref L ∧ H' L = some (.lst (sg.map V.str)) ∧ Fr [] H H') (fun x H' h => ?_) (fun Q' k => ?_)))
 rotate_left
 ·rcases hlv with ⟨rfl, rfl⟩ | ⟨rfl, rfl⟩
  ·repeat walk_at "lw"
   refine ⟨le_of (by simp), fun L hL => ?_⟩
   exact k _ _ ⟨L, rfl, upd_same, Fr.new hL⟩
  ·repeat walk_at "lw"
   refine ⟨le_of (by simp), fun L hL => ?_⟩
   exact k _ _ ⟨L, rfl, upd_same, Fr.new hL⟩
 obtain ⟨L, rfl, hL, e1⟩ := h
 have hT1 := hT.fr e1 (fun z => nomatch z)
 repeat walk_at "lw"
 refine ⟨p, ts, i, m, rfl, hT1, g, hi, fun d0 j0 a0 pr H2 hl hj e2 td hp => ?_, fun e pr H2 hl he e2 hp => ?_⟩
 rotate_left
 ·refine g_gtup hp rfl ?_
  repeat walk_at "lw"
  refine g_while2 (fun σ H' => σ = [some (.ref p), some (.int (e : Int)), some (.int ((12 : Int) - n)), some (.bl m), some (.int lv), some (.ref L), some .non, none, none] ∧ H' = H2) (lMu ts.length) ⟨rfl, rfl⟩ (fun σ H5 h => ?_)
  obtain ⟨rfl, rfl⟩ := h
  repeat walk_at "lw"
  refine ⟨le_of (by simp), fun pr hpr => ?_⟩
  exact q.er (.inl ⟨e, hl, rfl⟩) he (e1.trans e2) hpr
 ·have hT2 := hT1.fr e2 (fun z => nomatch z)
  have hL2 := e2.at hL (fun z => nomatch z)
  refine g_gtup hp rfl ?_
  repeat walk_at "lw"
  refine g_while2 (fun σ H' => Fr [] H H' ∧ ThsAt K H' p ts ∧ H' L = some (.lst (sg.map V.str)) ∧ ((∃ (d : PyData) (j : Nat) (a : Addr) (s1 s2 : Option V), σ = [some (.ref p), some (.int (j : Int)), some (.int ((12 : Int) - n)), some (.bl m), some (.int lv), some (.ref L), some (.ref a), s1, s2] ∧ j < ts.length ∧ Td K H' (.ref a) d ∧ ∀ r, LoopR ts sg (LF ts m n) d j r → ChainR ts sg (LF ts m n) i r) ∨
   (∃ (e : Nat) (s1 s2 : Option V), σ = [some (.ref p), some (.int (e : Int)), some (.int ((12 : Int) - n)), some (.bl m), some (.int lv), some (.ref L), some .non, s1, s2] ∧ e < ts.length ∧ ChainR ts sg (LF ts m n) i (.error e)))) (lMu ts.length)
   ⟨e1.trans e2, hT2, hL2, .inl ⟨d0, j0, a0, _, _, rfl, hj, td, fun r h => .inr ⟨d0, j0, hl, h⟩⟩⟩ (fun σ H5 h => ?_)
  obtain ⟨e5, hT5, hL5, ⟨d, j, a, s1, s2, rfl, hj5, td5, hlo⟩ | ⟨e, s1, s2, rfl, he, hce⟩⟩ := h
  rotate_left
  ·repeat walk_at "lw"
   refine ⟨le_of (by simp), fun pr hpr => ?_⟩
   exact q.er hce he e5 hpr
  ·have stop : (∀ s ∈ sg, isT ts j "sign" s = false) → ∀ pr, H5 pr = none → Q (.ref pr) (upd H5 pr (.tup [.ref a, .int (j : Int)])) := fun hs pr hpr => q.ok (hlo _ (.stop hs)) hj5 e5 td5 hpr
   repeat walk_at "lw"
   refine g_tt (by rw [decide_eq_false (fun z => nomatch z)]; rfl) ?_
   repeat walk_at "lw"
   refine g_by (fun c1 => ?_) (fun c1 => ?_)
   ·repeat walk_at "lw"
    refine g_inSc (g_sc g.g hj5) (.inl (SqL.of hL5)) ?_
    repeat walk_at "lw"
    refine g_by (fun c2 => ?_) (fun c2 => ?_)
    ·obtain ⟨s, hs, hv⟩ := List.mem_map.mp c2
     have hi5 : isT ts j "sign" s = true := by rw [th_eq hj5, decide_eq_true c1, ← hv, decide_eq_true rfl]; rfl
     have hn := g.g.next hj5 (by rw [c1]; decide +kernel)
     refine g_wt ?_
     repeat walk_at "lw"
     refine ⟨p, ts, j + 1, m, rfl, hT5, g, hn, fun d7 j7 a7 pr7 H7 hl7 hj7 e7 td7 hp7 => ?_, fun e pr7 H7 hl7 he7 e7 hp7 => ?_⟩
     ·have hT7 := hT5.fr e7 (fun z => nomatch z)
      have hL7 := e7.at hL5 (fun z => nomatch z)
      have fw := hf ts m _ _ _ hl7
      refine g_gtup hp7 rfl ?_
      repeat walk_at "lw"
      refine g_ff (decide_eq_false (fun z => nomatch z)) ?_
      repeat walk_at "lw"
      refine ⟨le_of (by simp), fun t ht => ?_⟩
      have e8 := Fr.new (M := []) (o := .tup [(tkn ts j).v, .ref a, .ref a7]) ht
      refine ⟨⟨(e5.trans e7).trans e8, hT7.fr e8 (fun z => nomatch z), e8.at hL7 (fun z => nomatch z), .inl ⟨.tuple [.str s, d, d7], j7, t, _, _, rfl, hj7, .tup (SqT.of upd_same) (.cons (by rw [← hv]; exact .str _) (.cons (td5.fr (e7.trans e8)) (.cons (td7.fr e8) .nil))), fun r h => hlo r (.step hs hi5 hl7 h)⟩⟩, ?_⟩
      show ts.length - ((j7 : Int)).toNat + 1 < ts.length - ((j : Int)).toNat + 1
      omega
     ·have hT7 := hT5.fr e7 (fun z => nomatch z)
      have hL7 := e7.at hL5 (fun z => nomatch z)
      refine g_gtup hp7 rfl ?_
      repeat walk_at "lw"
      refine ⟨⟨e5.trans e7, hT7, hL7, .inr ⟨e, _, _, rfl, he7, hlo _ (.bad hs hi5 hl7)⟩⟩, ?_⟩
      show 0 < ts.length - ((j : Int)).toNat + 1
      omega
    ·repeat walk_at "lw"
     exact ⟨le_of (by simp), stop fun s hs => by
      rw [th_eq hj5, decide_eq_false (p := (tkn ts j).v = V.str s) (fun z => c2 (by rw [z]; exact List.mem_map_of_mem hs)), Bool.and_false]⟩
   ·repeat walk_at "lw"
    exact ⟨le_of (by simp), stop fun s hs => by rw [th_eq hj5, decide_eq_false c1, Bool.false_and]⟩
end
def spLTest (K : PySem.W.Frag) : Sp := fun vs H Q _ => ∃ (p : Addr) (ts : List Th) (i : Nat) (m : Bool), vs = [.ref p, .int (i : Int), .bl m] ∧ ThsAt K H p ts ∧ LawTs ts ∧ i < ts.length ∧ LRd K (TestR ts m) H ts i Q
def spLTerm (K : PySem.W.Frag) : Sp := fun vs H Q _ => ∃ (p : Addr) (ts : List Th) (i : Nat), vs = [.ref p, .int (i : Int)] ∧ ThsAt K H p ts ∧ LawTs ts ∧ i < ts.length ∧ LRd K (TermR ts) H ts i Q
def spLArg (K : PySem.W.Frag) : Sp := fun vs H Q _ => ∃ (p : Addr) (ts : List Th) (i : Nat) (b : Bool), vs = [.ref p, .int (i : Int), .bl b] ∧ ThsAt K H p ts ∧ LawTs ts ∧ i < ts.length ∧ LRd K (ArgR ts b) H ts i Q
abbrev s__law_test_read : Stmt := topS 58
theorem sc__law_test_read : FnScope ["_law_things_here", "_law_spot", "_law_mine_too", "_law_one_here", "_law_sign", "_law_other"] ["_law_things_here", "_law_spot", "_law_mine_too"] (defScope s__law_test_read) := ⟨rfl, rfl, rfl, by decide +kernel, rfl, by decide +kernel, by decide +kernel⟩
abbrev s__law_term_read : Stmt := topS 59
theorem sc__law_term_read : FnScope ["_law_things_here", "_law_spot", "_law_sort", "_law_thing_here", "_law_place"] ["_law_things_here", "_law_spot"] (defScope s__law_term_read) := ⟨rfl, rfl, rfl, by decide +kernel, rfl, by decide +kernel, by decide +kernel⟩
abbrev s__law_arg_read : Stmt := topS 63
theorem sc__law_arg_read : FnScope ["_law_things_here", "_law_spot", "_law_has_fold", "_law_sort", "_law_thing_here", "_law_place"] ["_law_things_here", "_law_spot", "_law_has_fold"] (defScope s__law_arg_read) := ⟨rfl, rfl, rfl, by decide +kernel, rfl, by decide +kernel, by decide +kernel⟩
section
variable {P : Program} {w : World} {K : PySem.W.Frag} {mg : Str → Option Value} {base : Heap} {f : Addr} {fd : FuncData}
theorem ok__law_test_read (F : FnP K "_law_test_read" s__law_test_read f fd) (C__law_sum_read : CalG P w K mg base 61 "_law_sum_read" (spLSum K 1 SumN 12)) : FnG P w K mg base CX0 62 f fd ["_law_things_here", "_law_spot", "_law_mine_too"] (spLTest K) := by
 refine okG F sc__law_test_read (fun vs H Q E h => ?_) (fun cdv A outer s H vs Q E hr h => ?_)
 ·obtain ⟨p, ts, i, m, rfl, _⟩ := h
  rfl
 obtain ⟨p, ts, i, m, rfl, hT, g, hi, q⟩ := h
 refine ⟨_, PSs.nox (pss_cons (ps_asg (pe_calG C__law_sum_read hr rfl (pa_cons (pv 0) (pa_cons (pv 1) (pa_cons pe_int (pa_cons (pv 2) (pa_cons pe_int pa_nil)))))) (pg_tupK (K := K) rfl rfl (pgs_cons (pg_name (i := 3) sc__law_test_read.nd rfl (by first | exact Or.inl rfl | exact Or.inr rfl)) (pgs_cons (pg_name (i := 1) sc__law_test_read.nd rfl (by first | exact Or.inl rfl | exact Or.inr rfl)) pgs_nil))))
 (pss_cons (ps_if (PW.pt (pw_or (pt_cmpR opu_is (pv 3) pe_non (nomark _)) (pw_or (pt_cmpR (kOp (K := K) (r := uNe) rfl (opu_ne hr.units)) (pe_ix (kIx (K := K) (r := rIx) rfl ix_seq) (pe_ix (kIx (K := K) (r := rIx) rfl ix_seq) (pv 0) (pv 1) (fun _ _ => rfl)) pe_int (fun _ _ => rfl)) pe_str (nomark _)) (pw_or1 (pt_cmpR (kOp (K := K) (r := uNotIn) rfl opu_notIn) (pe_ix (kIx (K := K) (r := rIx) rfl ix_seq) (pe_ix (kIx (K := K) (r := rIx) rfl ix_seq) (pv 0) (pv 1) (fun _ _ => rfl)) pe_int (fun _ _ => rfl)) (pe_tup (pa_cons pe_str (pa_cons pe_str (pa_cons pe_str (pa_cons pe_str (pa_cons pe_str (pa_cons pe_str pa_nil))))))) (by rfl)))))) (pss_one (ps_ret (pe_tup (pa_cons pe_non (pa_cons (pv 1) pa_nil))))) pss_nil)
 (pss_cons (ps_set (i := 4) sc__law_test_read.nd rfl (.inl rfl) (pe_ix (kIx (K := K) (r := rIx) rfl ix_seq) (pe_ix (kIx (K := K) (r := rIx) rfl ix_seq) (pv 0) (pv 1) (fun _ _ => rfl)) pe_int (fun _ _ => rfl)))
 (pss_cons (ps_asg (pe_calG C__law_sum_read hr rfl (pa_cons (pv 0) (pa_cons (pe_op (kOp (K := K) (r := uAdd) rfl opu_add) (pv 1) pe_int) (pa_cons pe_int (pa_cons (pv 2) (pa_cons pe_int pa_nil)))))) (pg_tupK (K := K) rfl rfl (pgs_cons (pg_name (i := 5) sc__law_test_read.nd rfl (by first | exact Or.inl rfl | exact Or.inr rfl)) (pgs_cons (pg_name (i := 1) sc__law_test_read.nd rfl (by first | exact Or.inl rfl | exact Or.inr rfl)) pgs_nil))))
 (pss_one (ps_ret (pe_tup (pa_cons (pe_ifExp (pt_cmpR opu_is (pv 5) pe_non (nomark _)) pe_non (pe_tup (pa_cons pe_str (pa_cons (pv 4) (pa_cons (pv 3) (pa_cons (pv 5) pa_nil)))))) (pa_cons (pv 1) pa_nil))))))))), rd_start (σ0 := [some (.ref p), some (.int (i : Int)), some (.bl m), none, none, none]) rfl ?_⟩
 repeat walk_at "lw"
 refine ⟨p, ts, i, m, rfl, hT, g, hi, fun d j a pr H1 hl hj e1 td hp => ?_, fun e pr H1 hl he e1 hp => ?_⟩
 rotate_left
 ·refine g_gtup hp rfl ?_
  repeat walk_at "lw"
  exact ⟨le_of (by simp), fun pr hpr => q.er (testR_e1 hl) he e1 hpr⟩
 have hT1 := hT.fr e1 (fun z => nomatch z)
 have no : isTest (tkn ts j) = false → ∀ pr, H1 pr = none → Q (.ref pr) (upd H1 pr (.tup [.non, .int (j : Int)])) := fun h pr hpr => q.er (testR_bad hl h) hj e1 hpr
 refine g_gtup hp rfl ?_
 repeat walk_at "lw"
 refine g_ff (decide_eq_false (fun z => nomatch z)) ?_
 repeat walk_at "lw"
 refine g_byN (fun c1 => ?_) (fun c1 => ?_)
 ·repeat walk_at "lw"
  exact ⟨le_of (by simp), no (by unfold isTest; rw [decide_eq_false c1]; rfl)⟩
 repeat walk_at "lw"
 refine ⟨le_of (by simp), fun t ht => ?_⟩
 have e2 : Fr [] H1 (upd H1 t (.tup [.str "=", .str "!=", .str "<", .str "<=", .str ">", .str ">="])) := Fr.new ht
 refine g_notInSc (ws := testsW) (g_sc g.g hj) (.inr (SqT.of upd_same)) ?_
 have hT2 := hT1.fr e2 (fun z => nomatch z)
 generalize upd H1 t (.tup [.str "=", .str "!=", .str "<", .str "<=", .str ">", .str ">="]) = H2 at *
 repeat walk_at "lw"
 refine g_byN (fun c2 => ?_) (fun c2 => ?_)
 ·repeat walk_at "lw"
  exact ⟨le_of (by simp), fun pr hpr => q.er (testR_bad hl (by unfold isTest; rw [decide_eq_false c2, Bool.and_false])) hj (e1.trans e2) hpr⟩
 have c3 : isTest (tkn ts j) = true := by unfold isTest; rw [decide_eq_true c1, decide_eq_true c2]; rfl
 have hn := g.g.next hj (by rw [c1]; decide +kernel)
 repeat walk_at "lw"
 refine ⟨p, ts, j + 1, m, rfl, hT2, g, hn, fun d4 j4 a4 pr4 H4 hl4 hj4 e4 td4 hp4 => ?_, fun e pr4 H4 hl4 he4 e4 hp4 => ?_⟩
 ·refine g_gtup hp4 rfl ?_
  repeat walk_at "lw"
  refine g_ff (decide_eq_false (fun z => nomatch z)) ?_
  repeat walk_at "lw"
  refine ⟨le_of (by simp), fun t5 ht5 => ?_⟩
  have e5 := Fr.new (M := []) (o := .tup [.str "test", (tkn ts j).v, .ref a, .ref a4]) ht5
  repeat walk_at "lw"
  refine ⟨le_of (by simp), fun pr hpr => q.ok (testR_ok hl c3 hl4) hj4 (((e1.trans e2).trans e4).trans e5) ?_ hpr⟩
  exact .tup (SqT.of upd_same) (.cons (.str _) (.cons (sc_td (g_sc g.g hj)) (.cons (td.fr ((e2.trans e4).trans e5)) (.cons (td4.fr e5) .nil))))
 ·refine g_gtup hp4 rfl ?_
  repeat walk_at "lw"
  exact ⟨le_of (by simp), fun pr hpr => q.er (testR_e2 hl c3 hl4) he4 ((e1.trans e2).trans e4) hpr⟩
theorem ok__law_term_read (F : FnP K "_law_term_read" s__law_term_read f fd) : FnG P w K mg base CX0 10 f fd ["_law_things_here", "_law_spot"] (spLTerm K) := by
 refine okG F sc__law_term_read (fun vs H Q E h => ?_) (fun cdv A outer s H vs Q E hr h => ?_)
 ·obtain ⟨p, ts, i, rfl, _⟩ := h
  rfl
 obtain ⟨p, ts, i, rfl, hT, g, hi, q⟩ := h
 have hu := hu_of hr.rm
 refine ⟨_, PSs.nox (pss_cons (ps_asg (pe_ix (kIx (K := K) (r := rIx) rfl ix_seq) (pv 0) (pv 1) (fun _ _ => rfl)) (pg_tupK (K := K) rfl rfl (pgs_cons (pg_name (i := 2) sc__law_term_read.nd rfl (by first | exact Or.inl rfl | exact Or.inr rfl)) (pgs_cons (pg_name (i := 3) sc__law_term_read.nd rfl (by first | exact Or.inl rfl | exact Or.inr rfl)) (pgs_cons (pg_name (i := 4) sc__law_term_read.nd rfl (by first | exact Or.inl rfl | exact Or.inr rfl)) pgs_nil)))))
 (pss_cons (ps_if (pt_cmpR (kOp (K := K) (r := uEq) rfl (opu_eq hr.units)) (pe_tup (pa_cons (pv 2) (pa_cons (pv 3) pa_nil))) (pe_tup (pa_cons pe_str (pa_cons pe_str pa_nil))) (nomark _)) (pss_one (ps_ret (pe_tup (pa_cons (pe_tup (pa_cons pe_str pa_nil)) (pa_cons (pe_op (kOp (K := K) (r := uAdd) rfl opu_add) (pv 1) pe_int) pa_nil))))) pss_nil)
 (pss_cons (ps_if (pt_cmpR (kOp (K := K) (r := uIn) rfl opu_in) (pv 2) (pe_tup (pa_cons pe_str (pa_cons pe_str pa_nil))) (by rfl)) (pss_one (ps_ret (pe_tup (pa_cons (pe_tup (pa_cons (pe_dget hu (pe_disp (pps_cons pe_str pe_str (pps_cons pe_str pe_str pps_nil)) (by rfl) (by rfl) (fun z => by cases z) (by decide)) (pv 2) (fun _ _ => rfl)) (pa_cons (pv 3) pa_nil))) (pa_cons (pe_op (kOp (K := K) (r := uAdd) rfl opu_add) (pv 1) pe_int) pa_nil))))) pss_nil)
 (pss_one (ps_ret (pe_tup (pa_cons pe_non (pa_cons (pv 1) pa_nil)))))))), rd_start (σ0 := [some (.ref p), some (.int (i : Int)), none, none, none]) rfl ?_⟩
 repeat walk_at "lw"
 rename_i H1 e1 hT1
 refine g_byB (fun c1 => ?_) (fun c1 => ?_)
 ·have hn := g.g.next hi (by rw [(isT_s c1 hi).1]; decide +kernel)
  repeat walk_at "lw"
  refine ⟨le_of (by simp), fun t ht => ?_⟩
  repeat walk_at "lw"
  exact ⟨le_of (by simp), fun pr hpr => q.ok (d := .tuple [.str "any"]) (by unfold TermR; rw [if_pos c1]) hn (e1.trans (Fr.new ht)) (.tup (SqT.of upd_same) (.cons (.str _) .nil)) hpr⟩
 have c1' : ¬ isT ts i "sign" "_" = true := by rw [c1]; exact Bool.false_ne_true
 repeat walk_at "lw"
 refine ⟨le_of (by simp), fun t ht => ?_⟩
 have e2 : Fr [] H1 (upd H1 t (.tup [.str "value", .str "name"])) := Fr.new ht
 refine g_inT (xs := (["value", "name"] : List Str).map V.str) (.inr (SqT.of upd_same)) (flat_strs _) ?_
 rw [inV_str]
 generalize upd H1 t (.tup [.str "value", .str "name"]) = H2 at *
 repeat walk_at "lw"
 refine g_by (fun c2 => ?_) (fun c2 => ?_)
 ·have hc : (tkn ts i).s = "value" ∨ (tkn ts i).s = "name" := by simpa using c2
  have hn := g.g.next hi (by rcases hc with h | h <;> (rw [h]; decide +kernel))
  obtain ⟨wd, hwd, hv⟩ : ∃ wd : Str, valV (mergeK [] [((.inr "value" : Key), V.str "value"), ((.inr "name" : Key), V.str "var")]) (.inr (tkn ts i).s : Key) = some (V.str wd) ∧ TermR ts i (.ok (.tuple [.str wd, scD (tkn ts i).v], i + 1)) := by
   rcases hc with h | h
   ·exact ⟨"value", by rw [h]; rfl, by unfold TermR; rw [if_neg c1', if_pos h]; rfl⟩
   ·exact ⟨"var", by rw [h]; rfl, by unfold TermR; rw [if_neg c1', if_neg (by rw [h]; decide +kernel), if_pos h]; rfl⟩
  repeat walk_at "lw"
  refine g_disp fun pd hpd => ?_
  repeat walk_at "lw"
  refine ⟨upd_same, [(.inr "value", .str "value"), (.inr "name", .str "var")], rfl, by decide, ?_⟩
  rw [upd_upd]
  have e3 : Fr [] H2 (upd H2 pd (.dK (mergeK [] [(.inr "value", .str "value"), (.inr "name", .str "var")]))) := Fr.new hpd
  have h3 : (upd H2 pd (.dK (mergeK [] [(.inr "value", .str "value"), (.inr "name", .str "var")]))) pd = some (.dK (mergeK [] [(.inr "value", .str "value"), (.inr "name", .str "var")])) := upd_same
  generalize upd H2 pd (.dK (mergeK [] [(.inr "value", .str "value"), (.inr "name", .str "var")])) = H3 at *
  repeat walk_at "lw"
  refine g_dgetS h3 hwd ?_
  repeat walk_at "lw"
  refine ⟨le_of (by simp), fun t ht => ?_⟩
  repeat walk_at "lw"
  exact ⟨le_of (by simp), fun pr hpr => q.ok hv hn (((e1.trans e2).trans e3).trans (Fr.new ht)) (.tup (SqT.of upd_same) (.cons (.str _) (.cons (sc_td (g_sc g.g hi)) .nil))) hpr⟩
 ·repeat walk_at "lw"
  have c3 : ¬ (tkn ts i).s = "value" := fun z => c2 (by rw [z]; simp)
  have c4 : ¬ (tkn ts i).s = "name" := fun z => c2 (by rw [z]; simp)
  exact ⟨le_of (by simp), fun pr hpr => q.er (by unfold TermR; rw [if_neg c1', if_neg c3, if_neg c4]) hi (e1.trans e2) hpr⟩
theorem ok__law_arg_read (F : FnP K "_law_arg_read" s__law_arg_read f fd) : FnG P w K mg base CX0 10 f fd ["_law_things_here", "_law_spot", "_law_has_fold"] (spLArg K) := by
 refine okG F sc__law_arg_read (fun vs H Q E h => ?_) (fun cdv A outer s H vs Q E hr h => ?_)
 ·obtain ⟨p, ts, i, b, rfl, _⟩ := h
  rfl
 obtain ⟨p, ts, i, b, rfl, hT, g, hi, q⟩ := h
 have hu := hu_of hr.rm
 refine ⟨_, PSs.nox (pss_cons (ps_asg (pe_ix (kIx (K := K) (r := rIx) rfl ix_seq) (pv 0) (pv 1) (fun _ _ => rfl)) (pg_tupK (K := K) rfl rfl (pgs_cons (pg_name (i := 3) sc__law_arg_read.nd rfl (by first | exact Or.inl rfl | exact Or.inr rfl)) (pgs_cons (pg_name (i := 4) sc__law_arg_read.nd rfl (by first | exact Or.inl rfl | exact Or.inr rfl)) (pgs_cons (pg_name (i := 5) sc__law_arg_read.nd rfl (by first | exact Or.inl rfl | exact Or.inr rfl)) pgs_nil)))))
 (pss_cons (ps_if (pt_cmpR (kOp (K := K) (r := uIn) rfl opu_in) (pv 3) (pe_tup (pa_cons pe_str (pa_cons pe_str pa_nil))) (by rfl)) (pss_one (ps_ret (pe_tup (pa_cons (pe_tup (pa_cons (pe_dget hu (pe_disp (pps_cons pe_str pe_str (pps_cons pe_str pe_str pps_nil)) (by rfl) (by rfl) (fun z => by cases z) (by decide)) (pv 3) (fun _ _ => rfl)) (pa_cons (pv 4) pa_nil))) (pa_cons (pe_op (kOp (K := K) (r := uAdd) rfl opu_add) (pv 1) pe_int) pa_nil))))) pss_nil)
 (pss_cons (ps_if (PW.pt (pw_or (pt_cmpR (kOp (K := K) (r := uNe) rfl (opu_ne hr.units)) (pv 3) pe_str (nomark _)) (pw_or (pt_cmpR (kOp (K := K) (r := uNotIn) rfl opu_notIn) (pv 4) (pe_tup (pa_cons pe_str (pa_cons pe_str (pa_cons pe_str (pa_cons pe_str pa_nil))))) (by rfl)) (pw_or1 (pt_val (pv 2)))))) (pss_one (ps_ret (pe_tup (pa_cons pe_non (pa_cons (pv 1) pa_nil))))) pss_nil)
 (pss_cons (ps_if (pt_cmpR (kOp (K := K) (r := uEq) rfl (opu_eq hr.units)) (pv 4) pe_str (nomark _)) (pss_one (ps_ret (pe_tup (pa_cons (pe_tup (pa_cons pe_str (pa_cons pe_str (pa_cons pe_non pa_nil)))) (pa_cons (pe_op (kOp (K := K) (r := uAdd) rfl opu_add) (pv 1) pe_int) pa_nil))))) pss_nil)
 (pss_cons (ps_if (pt_cmpR (kOp (K := K) (r := uNe) rfl (opu_ne hr.units)) (pe_ix (kIx (K := K) (r := rIx) rfl ix_seq) (pe_ix (kIx (K := K) (r := rIx) rfl ix_seq) (pv 0) (pe_op (kOp (K := K) (r := uAdd) rfl opu_add) (pv 1) pe_int) (fun _ _ => rfl)) pe_int (fun _ _ => rfl)) pe_str (nomark _)) (pss_one (ps_ret (pe_tup (pa_cons pe_non (pa_cons (pe_op (kOp (K := K) (r := uAdd) rfl opu_add) (pv 1) pe_int) pa_nil))))) pss_nil)
 (pss_one (ps_ret (pe_tup (pa_cons (pe_tup (pa_cons pe_str (pa_cons (pv 4) (pa_cons (pe_ix (kIx (K := K) (r := rIx) rfl ix_seq) (pe_ix (kIx (K := K) (r := rIx) rfl ix_seq) (pv 0) (pe_op (kOp (K := K) (r := uAdd) rfl opu_add) (pv 1) pe_int) (fun _ _ => rfl)) pe_int (fun _ _ => rfl)) pa_nil)))) (pa_cons (pe_op (kOp (K := K) (r := uAdd) rfl opu_add) (pv 1) pe_int) pa_nil)))))))))), rd_start (σ0 := [some (.ref p), some (.int (i : Int)), some (.bl b), none, none, none]) rfl ?_⟩
 repeat walk_at "lw"
 refine ⟨le_of (by simp), fun t ht => ?_⟩
 have e2 : Fr [] H (upd H t (.tup [.str "value", .str "name"])) := Fr.new ht
 refine g_inT (xs := (["value", "name"] : List Str).map V.str) (.inr (SqT.of upd_same)) (flat_strs _) ?_
 rw [inV_str]
 have hT2 := hT.fr e2 (fun z => nomatch z)
 generalize upd H t (.tup [.str "value", .str "name"]) = H2 at *
 repeat walk_at "lw"
 refine g_by (fun c2 => ?_) (fun c2 => ?_)
 ·have hc : (tkn ts i).s = "value" ∨ (tkn ts i).s = "name" := by simpa using c2
  have hn := g.g.next hi (by rcases hc with h | h <;> (rw [h]; decide +kernel))
  obtain ⟨wd, hwd, hv⟩ : ∃ wd : Str, valV (mergeK [] [((.inr "value" : Key), V.str "value"), ((.inr "name" : Key), V.str "var")]) (.inr (tkn ts i).s : Key) = some (V.str wd) ∧ ArgR ts b i (.ok (.tuple [.str wd, scD (tkn ts i).v], i + 1)) := by
   rcases hc with h | h
   ·exact ⟨"value", by rw [h]; rfl, by unfold ArgR; rw [if_pos h]; rfl⟩
   ·exact ⟨"var", by rw [h]; rfl, by unfold ArgR; rw [if_neg (by rw [h]; decide +kernel), if_pos (by rw [h]; decide +kernel), if_pos h]; rfl⟩
  repeat walk_at "lw"
  refine g_disp fun pd hpd => ?_
  repeat walk_at "lw"
  refine ⟨upd_same, [(.inr "value", .str "value"), (.inr "name", .str "var")], rfl, by decide, ?_⟩
  rw [upd_upd]
  have e3 : Fr [] H2 (upd H2 pd (.dK (mergeK [] [(.inr "value", .str "value"), (.inr "name", .str "var")]))) := Fr.new hpd
  have h3 : (upd H2 pd (.dK (mergeK [] [(.inr "value", .str "value"), (.inr "name", .str "var")]))) pd = some (.dK (mergeK [] [(.inr "value", .str "value"), (.inr "name", .str "var")])) := upd_same
  generalize upd H2 pd (.dK (mergeK [] [(.inr "value", .str "value"), (.inr "name", .str "var")])) = H3 at *
  repeat walk_at "lw"
  refine g_dgetS h3 hwd ?_
  repeat walk_at "lw"
  refine ⟨le_of (by simp), fun t ht => ?_⟩
  repeat walk_at "lw"
  exact ⟨le_of (by simp), fun pr hpr => q.ok hv hn ((e2.trans e3).trans (Fr.new ht)) (.tup (SqT.of upd_same) (.cons (.str _) (.cons (sc_td (g_sc g.g hi)) .nil))) hpr⟩
 have c3 : ¬ (tkn ts i).s = "value" := fun z => c2 (by rw [z]; simp)
 have c4 : ¬ (tkn ts i).s = "name" := fun z => c2 (by rw [z]; simp)
 repeat walk_at "lwif"
 try dsimp only
 with_reducible refine g_cutS (fun σ' H' => σ' = [some (.ref p), some (.int (i : Int)), some (.bl b), some (.str (tkn ts i).s), some (tkn ts i).v, some (.int ((tkn ts i).n : Int))] ∧ ¬ (tkn ts i).s ≠ "kept" ∧ ¬ (b = true ∨ (¬ (tkn ts i).v = .str "count" ∧ ¬ (tkn ts i).v ∈ foldsW.map V.str)) ∧ ThsAt K H' p ts ∧ Fr [] H H') (fun σ' H' h => ?_) (fun N k => ?_)
 rotate_left
 ·repeat walk_at "lw"
  refine g_byN (fun c5 => ?_) (fun c5 => ?_)
  ·repeat walk_at "lw"
   exact ⟨le_of (by simp), fun pr hpr => q.er (by unfold ArgR; rw [if_neg c3, if_pos c5, if_neg c4]) hi e2 hpr⟩
  have c5' : ¬ (tkn ts i).s ≠ "kept" := fun z => z c5
  have four : ((tkn ts i).v = .str "count" ∨ (tkn ts i).v ∈ foldsW.map V.str) ↔ (tkn ts i).v ∈ (["count", "sum", "least", "most"] : List Str).map V.str := by
   simp [foldsW]
  repeat walk_at "lw"
  refine ⟨le_of (by simp), fun t ht => ?_⟩
  have e3 : Fr [] H2 (upd H2 t (.tup [.str "count", .str "sum", .str "least", .str "most"])) := Fr.new ht
  refine g_notInSc (ws := ["count", "sum", "least", "most"]) (g_sc g.g hi) (.inr (SqT.of upd_same)) ?_
  have hT3 := hT2.fr e3 (fun z => nomatch z)
  generalize upd H2 t (.tup [.str "count", .str "sum", .str "least", .str "most"]) = H3 at *
  repeat walk_at "lw"
  refine g_byN (fun c6 => ?_) (fun c6 => ?_)
  ·repeat walk_at "lw"
   refine ⟨le_of (by simp), fun pr hpr => q.er (by unfold ArgR; rw [if_neg c3, if_neg c5', if_pos (.inr ⟨fun z => c6 (four.mp (.inl z)), fun z => c6 (four.mp (.inr z))⟩)]) hi (e2.trans e3) hpr⟩
  repeat walk_at "lw"
  refine g_byB (fun c7 => ?_) (fun c7 => ?_)
  ·repeat walk_at "lw"
   refine ⟨le_of (by simp), fun pr hpr => q.er (by unfold ArgR; rw [if_neg c3, if_neg c5', if_pos (.inl c7)]) hi (e2.trans e3) hpr⟩
  ·repeat walk_at "lw"
   exact k _ _ ⟨rfl, c5', fun z => z.elim (fun z => absurd z (by rw [c7]; exact Bool.false_ne_true)) fun z => (four.mpr c6).elim z.1 z.2, hT3, e2.trans e3⟩
 obtain ⟨rfl, c5, c6, hT3, e3⟩ := h
 have c5' : (tkn ts i).s = "kept" := Decidable.not_not.mp c5
 have hn := g.g.next hi (by rw [c5']; decide +kernel)
 repeat walk_at "lw"
 refine g_eqSc (by decide +kernel) (g_sc g.g hi) ?_
 repeat walk_at "lw"
 refine g_by (fun c7 => ?_) (fun c7 => ?_)
 ·repeat walk_at "lw"
  refine ⟨le_of (by simp), fun t ht => ?_⟩
  repeat walk_at "lw"
  exact ⟨le_of (by simp), fun pr hpr => q.ok (d := .tuple [.str "fold", scD (tkn ts i).v, .none]) (by unfold ArgR; rw [if_neg c3, if_neg c5, if_neg c6, if_pos c7]) hn (e3.trans (Fr.new ht)) (.tup (SqT.of upd_same) (.cons (.str _) (.cons (by rw [c7]; exact .str _) (.cons .non .nil)))) hpr⟩
 ·repeat walk_at "lw"
  refine g_ixTh (i := i + 1) hT3 g hn fun r7 hr7 => ?_
  repeat walk_at "lw"
  refine g_byN (fun c8 => ?_) (fun c8 => ?_)
  ·repeat walk_at "lw"
   exact ⟨le_of (by simp), fun pr hpr => q.er (j := i + 1) (by unfold ArgR; rw [if_neg c3, if_neg c5, if_neg c6, if_neg c7, if_neg c8]) hn e3 hpr⟩
  ·repeat walk_at "lw"
   refine g_ixTh (i := i + 1) hT3 g hn fun r8 hr8 => ?_
   repeat walk_at "lw"
   refine ⟨le_of (by simp), fun t ht => ?_⟩
   repeat walk_at "lw"
   exact ⟨le_of (by simp), fun pr hpr => q.ok (j := i + 2) (d := .tuple [.str "fold", scD (tkn ts i).v, scD (tkn ts (i + 1)).v]) (by unfold ArgR; rw [if_neg c3, if_neg c5, if_neg c6, if_neg c7, if_pos c8]) (g.g.next hn (by rw [c8]; decide +kernel)) (e3.trans (Fr.new ht)) (.tup (SqT.of upd_same) (.cons (.str _) (.cons (sc_td (g_sc g.g hi)) (.cons (sc_td (g_sc g.g hn)) .nil)))) hpr⟩
end
structure BiL (mg : Str → Option Value) : Prop where
 b_len : mg "len" = none
 b_int : mg "int" = none
 b_tuple : mg "tuple" = none
def spLAtom (K : PySem.W.Frag) : Sp := fun vs H Q _ => ∃ (p : Addr) (ts : List Th) (i : Nat) (x : Str) (pl : Bool), vs = [.ref p, .int (i : Int), .str x, .bl pl] ∧ ThsAt K H p ts ∧ LawTs ts ∧ i < ts.length ∧ LRd K (AtomR ts pl x) H ts i Q
def ItemR (ts : List Th) (item : List PyData → Nat → Res → Prop) (full : List PyData → Bool) (ds : List PyData) (j : Nat) (res : ResL) : Prop := (full ds = true ∧ res = .error j) ∨ (full ds = false ∧ ((∃ e, item ds j (.error e) ∧ res = .error e) ∨ ∃ d j2, item ds j (.ok (d, j2)) ∧ ManyR ts item full (ds ++ [d]) j2 res))
theorem item0 {ts : List Th} {item : List PyData → Nat → Res → Prop} {full : List PyData → Bool} {i : Nat} {res : ResL} (h0 : full [] = false) (h : ItemR ts item full [] i res) : SeqR ts item full i res := by
 rcases h with ⟨h, _⟩ | ⟨_, ⟨e, h1, h2⟩ | ⟨d, j, h1, h2⟩⟩
 ·rw [h0] at h; cases h
 ·exact .inl ⟨e, h1, h2⟩
 ·exact .inr ⟨d, j, h1, h2⟩
theorem item_step {ts : List Th} {item : List PyData → Nat → Res → Prop} {full : List PyData → Bool} {ds : List PyData} {j : Nat} {res : ResL} (c : isT ts j "sign" "," = true) (h : ItemR ts item full ds (j + 1) res) : ManyR ts item full ds j res := by
 rcases h with ⟨h, rfl⟩ | ⟨h0, ⟨e, h1, rfl⟩ | ⟨d, j, h1, h2⟩⟩
 ·exact .full c h
 ·exact .bad c h0 h1
 ·exact .step c h0 h1 h2
def aMu (l : Nat) (σ : L2.St) (_ : Hp) : Nat := match σ with
 | [_, some (.int j), _, _, _, _, _, _, some (.bl true), _] => l - j.toNat + 1
 | _ => 0
abbrev s__law_atom_read : Stmt := topS 60
theorem sc__law_atom_read : FnScope ["_law_things_here", "_law_spot", "_law_word_here", "_law_plain_too", "_law_sort", "_law_name", "_law_place", "_law_terms", "_law_going", "_law_term"] ["_law_things_here", "_law_spot", "_law_word_here", "_law_plain_too"] (defScope s__law_atom_read) := ⟨rfl, rfl, rfl, by decide +kernel, rfl, by decide +kernel, by decide +kernel⟩
section
variable {P : Program} {w : World} {K : PySem.W.Frag} {mg : Str → Option Value} {base : Heap} {f : Addr} {fd : FuncData}
theorem ok__law_atom_read (F : FnP K "_law_atom_read" s__law_atom_read f fd) (B : BiL mg) (C__law_term_read : CalG P w K mg base 10 "_law_term_read" (spLTerm K)) : FnG P w K mg base CX0 12 f fd ["_law_things_here", "_law_spot", "_law_word_here", "_law_plain_too"] (spLAtom K) := by
 refine okG F sc__law_atom_read (fun vs H Q E h => ?_) (fun cdv A outer s H vs Q E hr h => ?_)
 ·obtain ⟨p, ts, i, x, pl, rfl, _⟩ := h
  rfl
 obtain ⟨p, ts, i, x, pl, rfl, hT, g, hi, q⟩ := h
 have gz := g.g.sz
 refine ⟨_, PSs.nox (pss_cons (ps_asg (pe_ix (kIx (K := K) (r := rIx) rfl ix_seq) (pv 0) (pv 1) (fun _ _ => rfl)) (pg_tupK (K := K) rfl rfl (pgs_cons (pg_name (i := 4) sc__law_atom_read.nd rfl (by first | exact Or.inl rfl | exact Or.inr rfl)) (pgs_cons (pg_name (i := 5) sc__law_atom_read.nd rfl (by first | exact Or.inl rfl | exact Or.inr rfl)) (pgs_cons (pg_name (i := 6) sc__law_atom_read.nd rfl (by first | exact Or.inl rfl | exact Or.inr rfl)) pgs_nil)))))
 (pss_cons (ps_if (PW.pt (pw_and (pt_cmpR (kOp (K := K) (r := uNe) rfl (opu_ne hr.units)) (pv 4) pe_str (nomark _)) (pw_and1 (pt_not (PW.pt (pw_and (pt_cmpR (kOp (K := K) (r := uEq) rfl (opu_eq hr.units)) (pv 4) pe_str (nomark _)) (pw_and1 (pt_val (pv 3))))))))) (pss_one (ps_ret (pe_tup (pa_cons pe_non (pa_cons (pv 1) pa_nil))))) pss_nil)
 (pss_cons (ps_if (pt_cmpR (kOp (K := K) (r := uNe) rfl (opu_ne hr.units)) (pe_slice (kSl (K := K) (r := rSlA) rfl sl_tupA) (pe_ix (kIx (K := K) (r := rIx) rfl ix_seq) (pv 0) (pe_op (kOp (K := K) (r := uAdd) rfl opu_add) (pv 1) pe_int) (fun _ _ => rfl)) po_none (po_some pe_int)) (pe_tup (pa_cons pe_str (pa_cons pe_str pa_nil))) (nomark _)) (pss_one (ps_ret (pe_tup (pa_cons pe_non (pa_cons (pe_op (kOp (K := K) (r := uAdd) rfl opu_add) (pv 1) pe_int) pa_nil))))) pss_nil)
 (pss_cons (ps_set (i := 7) sc__law_atom_read.nd rfl (.inl rfl) (pe_lst pa_nil))
 (pss_cons (ps_set (i := 8) sc__law_atom_read.nd rfl (.inl rfl) pe_bl)
 (pss_cons (ps_set (i := 1) sc__law_atom_read.nd rfl (.inl rfl) (pe_op (kOp (K := K) (r := uAdd) rfl opu_add) (pv 1) pe_int))
 (pss_cons (ps_while PassesOwn.never (pt_val (pv 8)) (pss_cons (ps_asg (pe_ifExp (pt_cmpR (kOp (K := K) (r := uLt) rfl opu_lt) (pe_callB (kCall (K := K) (r := uLen) rfl callu_len) (by rfl) B.b_len (by decide +kernel) (pa_cons (pv 7) pa_nil)) pe_int (nomark _)) (pe_calG C__law_term_read hr rfl (pa_cons (pv 0) (pa_cons (pv 1) pa_nil))) (pe_tup (pa_cons pe_non (pa_cons (pv 1) pa_nil)))) (pg_tupK (K := K) rfl rfl (pgs_cons (pg_name (i := 9) sc__law_atom_read.nd rfl (by first | exact Or.inl rfl | exact Or.inr rfl)) (pgs_cons (pg_name (i := 1) sc__law_atom_read.nd rfl (by first | exact Or.inl rfl | exact Or.inr rfl)) pgs_nil))))
 (pss_cons (ps_if (pt_cmpR opu_is (pv 9) pe_non (nomark _)) (pss_one (ps_ret (pe_tup (pa_cons pe_non (pa_cons (pv 1) pa_nil))))) pss_nil)
 (pss_cons (ps_expr (kBM (K := K) rfl (pe_bm PySem.F.plainAttrs_list PySem.F.slot_list_append PySem.F.type_list_append mt_append (pv 7) (pa_cons (pv 9) pa_nil))))
 (pss_cons (ps_set (i := 8) sc__law_atom_read.nd rfl (.inl rfl) (pe_cmpR (kOp (K := K) (r := uEq) rfl (opu_eq hr.units)) (pe_slice (kSl (K := K) (r := rSlA) rfl sl_tupA) (pe_ix (kIx (K := K) (r := rIx) rfl ix_seq) (pv 0) (pv 1) (fun _ _ => rfl)) po_none (po_some pe_int)) (pe_tup (pa_cons pe_str (pa_cons pe_str pa_nil))) (nomark _)))
 (pss_one (ps_set (i := 1) sc__law_atom_read.nd rfl (.inl rfl) (pe_op (kOp (K := K) (r := uAdd) rfl opu_add) (pv 1) (pe_callTy callu_int (by rfl) B.b_int (by decide +kernel) (pa_cons (pv 8) pa_nil))))))))))
 (pss_cons (ps_if (pt_cmpR (kOp (K := K) (r := uNe) rfl (opu_ne hr.units)) (pe_slice (kSl (K := K) (r := rSlA) rfl sl_tupA) (pe_ix (kIx (K := K) (r := rIx) rfl ix_seq) (pv 0) (pv 1) (fun _ _ => rfl)) po_none (po_some pe_int)) (pe_tup (pa_cons pe_str (pa_cons pe_str pa_nil))) (nomark _)) (pss_one (ps_ret (pe_tup (pa_cons pe_non (pa_cons (pv 1) pa_nil))))) pss_nil)
 (pss_one (ps_ret (pe_tup (pa_cons (pe_tup (pa_cons (pv 2) (pa_cons (pv 5) (pa_cons (pe_callTy (kCall (K := K) (r := uTuple) rfl callu_tuple) (by rfl) B.b_tuple (by decide +kernel) (pa_cons (pv 7) pa_nil)) pa_nil)))) (pa_cons (pe_op (kOp (K := K) (r := uAdd) rfl opu_add) (pv 1) pe_int) pa_nil))))))))))))), rd_start (σ0 := [some (.ref p), some (.int (i : Int)), some (.str x), some (.bl pl), none, none, none, none, none, none]) rfl ?_⟩
 repeat walk_at "lwif"
 try dsimp only
 refine g_seq (g_if (g_cutT (fun b H2 => (b = true ↔ ¬ ((tkn ts i).s = "full" ∨ ((tkn ts i).s = "name" ∧ pl = true))) ∧ H = H2) (fun b H2 h => ?_) (fun Q' k => ?_)))
 rotate_left
 ·repeat walk_at "lw"
  refine g_byN (fun c1 => ?_) (fun c1 => ?_)
  ·repeat walk_at "lw"
   refine g_by (fun c2 => ?_) (fun c2 => ?_)
   ·repeat walk_at "lw"
    refine k _ _ ⟨?_, rfl⟩
    cases pl <;> simp [c1, c2]
    decide +kernel
   ·repeat walk_at "lw"
    refine k _ _ ⟨?_, rfl⟩
    simp [c1, c2]
  ·repeat walk_at "lw"
   refine k _ _ ⟨?_, rfl⟩
   simp [c1]
 obtain ⟨hb, rfl⟩ := h
 cases b with
 | true =>
  have c := hb.mp rfl
  repeat walk_at "lw"
  exact ⟨le_of (by simp), fun pr hpr => q.er (by unfold AtomR; rw [if_pos c]) hi Fr.refl hpr⟩
 | false =>
 have c : ¬ ¬ ((tkn ts i).s = "full" ∨ ((tkn ts i).s = "name" ∧ pl = true)) := fun z => absurd (hb.mpr z) Bool.false_ne_true
 have hn := g.g.next hi (fun z => c (fun y => by
  rcases y with y | ⟨y, _⟩ <;> (rw [y] at z; exact absurd z (by decide +kernel))))
 repeat walk_at "lw"
 rename_i H1 e1 hT1
 cases c1 : isT ts (i + 1) "sign" "(" with
 | false =>
  refine g_tt rfl ?_
  repeat walk_at "lw"
  exact ⟨le_of (by simp), fun pr hpr => q.er (j := i + 1) (by unfold AtomR; rw [if_neg c, if_pos c1]) hn e1 hpr⟩
 | true =>
 have hn2 := g.g.next hn (by rw [(isT_s c1 hn).1]; decide +kernel)
 have lo : ∀ {r}, _ → AtomR ts pl x i r := fun h => Eq.mpr (if_neg c) (Eq.mpr (if_neg (by rw [c1]; simp)) h)
 refine g_ff rfl ?_
 repeat walk_at "lw"
 refine ⟨le_of (by simp), fun L hL => ?_⟩
 have e2 : Fr [] H1 (upd H1 L (.lst [])) := Fr.new hL
 have hL2 : (upd H1 L (.lst [])) L = some (.lst []) := upd_same
 have hT2 := hT1.fr e2 (fun z => nomatch z)
 have hLH := e1.back (fun z => nomatch z) hL
 have pL : p ∉ [L] := fun z => by
  obtain ⟨us, h1, _⟩ := hT
  rw [List.mem_singleton.mp z, hLH] at h1
  cases h1
 generalize upd H1 L (.lst []) = H2 at *
 repeat walk_at "lw"
 refine g_while2 (fun σ H' => ∃ (b : Bool) (ds : List PyData) (us : List V) (j : Nat) (z9 : Option V), σ = [some (.ref p), some (.int (j : Int)), some (.str x), some (.bl pl), some (.str (tkn ts i).s), some (tkn ts i).v, some (.int ((tkn ts i).n : Int)), some (.ref L), some (.bl b), z9] ∧ ThsAt K H' p ts ∧ H' L = some (.lst us) ∧ TdAll K H' us ds ∧ Fr [] H H' ∧ ds.length ≤ 4 ∧ j < ts.length ∧
   (if b = true then ∀ res, ItemR ts (fun _ => TermR ts) (fun ds => decide (ds.length = 4)) ds j res → SeqR ts (fun _ => TermR ts) (fun ds => decide (ds.length = 4)) (i + 2) res else SeqR ts (fun _ => TermR ts) (fun ds => decide (ds.length = 4)) (i + 2) (.ok (ds, j)))) (aMu ts.length)
  ⟨true, [], [], i + 2, _, rfl, hT2, hL2, .nil, e1.trans e2, by simp, hn2, fun res h => item0 rfl h⟩ (fun σ H5 h => ?_)
 obtain ⟨b, ds, us, j, z9, rfl, hT5, hL5, td5, e5, hdl, hj5, hlo⟩ := h
 have ul := tda_len5 td5
 repeat walk_at "lw"
 cases b with
 | true =>
  have hlo : ∀ res, ItemR ts (fun _ => TermR ts) (fun ds => decide (ds.length = 4)) ds j res → SeqR ts (fun _ => TermR ts) (fun ds => decide (ds.length = 4)) (i + 2) res := hlo
  refine g_tt rfl ?_
  refine g_wt ?_
  repeat walk_at "lw"
  refine g_by (fun c6 => ?_) (fun c6 => ?_)
  ·have c6' : (fun ds : List PyData => decide (ds.length = 4)) ds = false := decide_eq_false (by omega)
   repeat walk_at "lw"
   refine ⟨p, ts, j, rfl, hT5, g, hj5, fun d7 j7 a7 pr7 H7 hl7 hj7 e7 td7 hp7 => ?_, fun e pr7 H7 hl7 he7 e7 hp7 => ?_⟩
   ·have hT7 := hT5.fr e7 (fun z => nomatch z)
    have hL7 := e7.at hL5 (fun z => nomatch z)
    have fw := termR_fwd ts _ _ _ hl7
    refine g_gtup hp7 rfl ?_
    repeat walk_at "lw"
    refine g_ff (decide_eq_false (fun z => nomatch z)) ?_
    repeat walk_at "lw"
    refine g_app hL7 (by omega) ?_
    have e8 : Fr [L] H7 (upd H7 L (.lst (us ++ [.ref a7]))) := Fr.mut (List.mem_singleton.mpr rfl) hL7 nofix_lst
    have hL8 : (upd H7 L (.lst (us ++ [.ref a7]))) L = some (.lst (us ++ [.ref a7])) := upd_same
    have hT8 := hT7.fr e8 pL
    have td8 := (tda_snoc4 (td5.fr e7) td7).fr e8
    have e58 : Fr [] H (upd H7 L (.lst (us ++ [.ref a7]))) := (e5.trans e7).over hLH
    generalize upd H7 L (.lst (us ++ [.ref a7])) = H8 at *
    repeat walk_at "lw"
    rename_i H9 e9 hT9
    refine g_intB ?_
    repeat walk_at "lw"
    have dl : (ds ++ [d7]).length ≤ 4 := by rw [List.length_append, List.length_singleton]; omega
    cases c9 : isT ts j7 "sign" "," with
    | true =>
     have hn9 := g.g.next hj7 (by rw [(isT_s c9 hj7).1]; decide +kernel)
     refine ⟨⟨true, ds ++ [d7], us ++ [.ref a7], j7 + 1, _, rfl, hT9, e9.at hL8 (fun z => nomatch z), td8.fr e9, e58.trans e9, dl, hn9, fun res h => hlo res (.inr ⟨c6', .inr ⟨d7, j7, hl7, item_step c9 h⟩⟩)⟩, ?_⟩
     show ts.length - ((j7 : Int) + 1).toNat + 1 < ts.length - ((j : Int)).toNat + 1
     omega
    | false =>
     refine ⟨⟨false, ds ++ [d7], us ++ [.ref a7], j7, _, by rw [show (j7 : Int) + (if false = true then 1 else 0) = (j7 : Int) from by simp]; rfl, hT9, e9.at hL8 (fun z => nomatch z), td8.fr e9, e58.trans e9, dl, hj7, hlo _ (.inr ⟨c6', .inr ⟨d7, j7, hl7, .stop c9⟩⟩)⟩, ?_⟩
     show 0 < ts.length - ((j : Int)).toNat + 1
     omega
   ·refine g_gtup hp7 rfl ?_
    repeat walk_at "lw"
    exact ⟨le_of (by simp), fun pr hpr => q.er (lo (.inl ⟨e, hlo _ (.inr ⟨c6', .inl ⟨e, hl7, rfl⟩⟩), rfl⟩)) he7 (e5.trans e7) hpr⟩
  ·repeat walk_at "lw"
   refine ⟨le_of (by simp), fun pr7 hpr7 => ?_⟩
   refine g_gtup (SqT.of upd_same) rfl ?_
   repeat walk_at "lw"
   exact ⟨le_of (by simp), fun pr hpr => q.er (lo (.inl ⟨j, hlo _ (.inl ⟨decide_eq_true (by omega), rfl⟩), rfl⟩)) hj5 (e5.trans (Fr.new hpr7)) hpr⟩
 | false =>
  have hlo : SeqR ts (fun _ => TermR ts) (fun ds => decide (ds.length = 4)) (i + 2) (.ok (ds, j)) := hlo
  refine g_ff rfl ?_
  repeat walk_at "lw"
  rename_i H6 e6 hT6
  cases c9 : isT ts j "sign" ")" with
  | false =>
   refine g_tt rfl ?_
   repeat walk_at "lw"
   exact ⟨le_of (by simp), fun pr hpr => q.er (lo (.inr ⟨ds, j, hlo, by rw [if_neg (by rw [c9]; exact Bool.false_ne_true)]⟩)) hj5 (e5.trans e6) hpr⟩
  | true =>
   have hn9 := g.g.next hj5 (by rw [(isT_s c9 hj5).1]; decide +kernel)
   have hL6 := e6.at hL5 (fun z => nomatch z)
   have td6 := td5.fr e6
   refine g_ff rfl ?_
   repeat walk_at "lw"
   refine g_tupleL (SqL.of hL6) fun t ht => ?_
   have e7 : Fr [] H6 (upd H6 t (.tup us)) := Fr.new ht
   have h7 : SqT K (upd H6 t (.tup us)) t us := SqT.of upd_same
   have td7 := td6.fr e7
   generalize upd H6 t (.tup us) = H7 at *
   repeat walk_at "lw"
   refine ⟨le_of (by simp), fun t8 ht8 => ?_⟩
   have e8 : Fr [] H7 (upd H7 t8 (.tup [.str x, (tkn ts i).v, .ref t])) := Fr.new ht8
   repeat walk_at "lw"
   exact ⟨le_of (by simp), fun pr hpr => q.ok (lo (.inr ⟨ds, j, hlo, by rw [if_pos c9]⟩)) hn9 (((e5.trans e6).trans e7).trans e8) (.tup (SqT.of upd_same) (.cons (.str _) (.cons (sc_td (g_sc g.g hi)) (.cons (Td.tup (e8.tup h7) (td7.fr e8)) .nil)))) hpr⟩
end
def spLPart (K : PySem.W.Frag) : Sp := fun vs H Q _ => ∃ (p : Addr) (ts : List Th) (i : Nat) (pl : Bool), vs = [.ref p, .int (i : Int), .bl pl] ∧ ThsAt K H p ts ∧ LawTs ts ∧ i < ts.length ∧ LRd K (PartR ts false pl) H ts i Q
def spLParts (K : PySem.W.Frag) : Sp := fun vs H Q _ => ∃ (p : Addr) (ts : List Th) (i : Nat) (pl : Bool) (most : Nat), vs = [.ref p, .int (i : Int), .bl pl, .int (most : Int)] ∧ 1 ≤ most ∧ most ≤ 100 ∧ ThsAt K H p ts ∧ LawTs ts ∧ i < ts.length ∧ LRd K (PartsR ts false pl most) H ts i Q
theorem LRd.via {K : PySem.W.Frag} {R R' : Nat → Res → Prop} {H H1 : Hp} {ts : List Th} {i i' : Nat} {Q : VK} (q : LRd K R H ts i Q) (e : Fr [] H H1) (h : ∀ r, R' i' r → R i r) : LRd K R' H1 ts i' Q :=
 ⟨fun d j a pr H' h1 h2 h3 h4 h5 => q.1 d j a pr H' (h _ h1) h2 (e.trans h3) h4 h5, fun e1 pr H' h1 h2 h3 h4 => q.2 e1 pr H' (h _ h1) h2 (e.trans h3) h4⟩
abbrev s__law_part_read : Stmt := topS 61
theorem sc__law_part_read : FnScope ["_law_things_here", "_law_spot", "_law_plain_too", "_law_sort", "_law_thing_here", "_law_place", "_law_found"] ["_law_things_here", "_law_spot", "_law_plain_too"] (defScope s__law_part_read) := ⟨rfl, rfl, rfl, by decide +kernel, rfl, by decide +kernel, by decide +kernel⟩
abbrev s__law_parts_read : Stmt := topS 62
theorem sc__law_parts_read : FnScope ["_law_things_here", "_law_spot", "_law_plain_too", "_law_most_parts", "_law_parts", "_law_going", "_law_part"] ["_law_things_here", "_law_spot", "_law_plain_too", "_law_most_parts"] (defScope s__law_parts_read) := ⟨rfl, rfl, rfl, by decide +kernel, rfl, by decide +kernel, by decide +kernel⟩
section
variable {P : Program} {w : World} {K : PySem.W.Frag} {mg : Str → Option Value} {base : Heap} {f : Addr} {fd : FuncData}
theorem ok__law_part_read (F : FnP K "_law_part_read" s__law_part_read f fd) (C__law_atom_read : CalG P w K mg base 12 "_law_atom_read" (spLAtom K)) (C__law_sum_read : CalG P w K mg base 61 "_law_sum_read" (spLSum K 1 SumN 12)) (C__law_test_read : CalG P w K mg base 62 "_law_test_read" (spLTest K)) : FnG P w K mg base CX0 63 f fd ["_law_things_here", "_law_spot", "_law_plain_too"] (spLPart K) := by
 refine okG F sc__law_part_read (fun vs H Q E h => ?_) (fun cdv A outer s H vs Q E hr h => ?_)
 ·obtain ⟨p, ts, i, pl, rfl, _⟩ := h
  rfl
 obtain ⟨p, ts, i, pl, rfl, hT, g, hi, q⟩ := h
 refine ⟨_, PSs.nox (pss_cons (ps_asg (pe_ix (kIx (K := K) (r := rIx) rfl ix_seq) (pv 0) (pv 1) (fun _ _ => rfl)) (pg_tupK (K := K) rfl rfl (pgs_cons (pg_name (i := 3) sc__law_part_read.nd rfl (by first | exact Or.inl rfl | exact Or.inr rfl)) (pgs_cons (pg_name (i := 4) sc__law_part_read.nd rfl (by first | exact Or.inl rfl | exact Or.inr rfl)) (pgs_cons (pg_name (i := 5) sc__law_part_read.nd rfl (by first | exact Or.inl rfl | exact Or.inr rfl)) pgs_nil)))))
 (pss_cons (ps_if (pt_cmpR (kOp (K := K) (r := uEq) rfl (opu_eq hr.units)) (pe_tup (pa_cons (pv 3) (pa_cons (pv 4) pa_nil))) (pe_tup (pa_cons pe_str (pa_cons pe_str pa_nil))) (nomark _)) (pss_one (ps_ret (pe_calG C__law_atom_read hr rfl (pa_cons (pv 0) (pa_cons (pe_op (kOp (K := K) (r := uAdd) rfl opu_add) (pv 1) pe_int) (pa_cons pe_str (pa_cons (pv 2) pa_nil))))))) pss_nil)
 (pss_cons (ps_if (PW.pt (pw_and (pt_cmpR (kOp (K := K) (r := uIn) rfl opu_in) (pv 3) (pe_tup (pa_cons pe_str (pa_cons pe_str pa_nil))) (by rfl)) (pw_and1 (pt_cmpR (kOp (K := K) (r := uEq) rfl (opu_eq hr.units)) (pe_slice (kSl (K := K) (r := rSlA) rfl sl_tupA) (pe_ix (kIx (K := K) (r := rIx) rfl ix_seq) (pv 0) (pe_op (kOp (K := K) (r := uAdd) rfl opu_add) (pv 1) pe_int) (fun _ _ => rfl)) po_none (po_some pe_int)) (pe_tup (pa_cons pe_str (pa_cons pe_str pa_nil))) (nomark _))))) (pss_one (ps_ret (pe_calG C__law_atom_read hr rfl (pa_cons (pv 0) (pa_cons (pv 1) (pa_cons pe_str (pa_cons (pv 2) pa_nil))))))) pss_nil)
 (pss_cons (ps_if (PW.pt (pw_and (pt_cmpR (kOp (K := K) (r := uEq) rfl (opu_eq hr.units)) (pv 3) pe_str (nomark _)) (pw_and1 (pt_cmpR (kOp (K := K) (r := uEq) rfl (opu_eq hr.units)) (pe_slice (kSl (K := K) (r := rSlA) rfl sl_tupA) (pe_ix (kIx (K := K) (r := rIx) rfl ix_seq) (pv 0) (pe_op (kOp (K := K) (r := uAdd) rfl opu_add) (pv 1) pe_int) (fun _ _ => rfl)) po_none (po_some pe_int)) (pe_tup (pa_cons pe_str (pa_cons pe_str pa_nil))) (nomark _))))) (pss_cons (ps_asg (pe_calG C__law_sum_read hr rfl (pa_cons (pv 0) (pa_cons (pe_op (kOp (K := K) (r := uAdd) rfl opu_add) (pv 1) pe_int) (pa_cons pe_int (pa_cons pe_bl (pa_cons pe_int pa_nil)))))) (pg_tupK (K := K) rfl rfl (pgs_cons (pg_name (i := 6) sc__law_part_read.nd rfl (by first | exact Or.inl rfl | exact Or.inr rfl)) (pgs_cons (pg_name (i := 1) sc__law_part_read.nd rfl (by first | exact Or.inl rfl | exact Or.inr rfl)) pgs_nil))))
 (pss_one (ps_ret (pe_tup (pa_cons (pe_ifExp (pt_cmpR opu_is (pv 6) pe_non (nomark _)) pe_non (pe_tup (pa_cons pe_str (pa_cons (pv 4) (pa_cons (pv 6) pa_nil))))) (pa_cons (pv 1) pa_nil)))))) pss_nil)
 (pss_one (ps_ret (pe_calG C__law_test_read hr rfl (pa_cons (pv 0) (pa_cons (pv 1) (pa_cons pe_bl pa_nil)))))))))), rd_start (σ0 := [some (.ref p), some (.int (i : Int)), some (.bl pl), none, none, none, none]) rfl ?_⟩
 repeat walk_at "lw"
 rename_i H1 e1 hT1
 cases c1 : isT ts i "kept" "not" with
 | true =>
  have hn := g.g.next hi (by rw [(isT_s c1 hi).1]; decide +kernel)
  refine g_tt rfl ?_
  repeat walk_at "lw"
  exact ⟨p, ts, i + 1, "not", pl, rfl, hT1, g, hn, q.via e1 fun r h => by unfold PartR; rw [if_pos c1]; exact h⟩
 | false =>
 have c1' : ¬ isT ts i "kept" "not" = true := by rw [c1]; exact Bool.false_ne_true
 refine g_ff rfl ?_
 repeat walk_at "lwif"
 try dsimp only
 refine g_seq (g_if (g_cutT (fun b H2 => (b = true ↔ (tkn ts i).s ∈ (["full", "name"] : List Str) ∧ isT ts (i + 1) "sign" "(" = true) ∧ ThsAt K H2 p ts ∧ Fr [] H H2) (fun b H2 h => ?_) (fun Q' k => ?_)))
 rotate_left
 ·repeat walk_at "lw"
  refine ⟨le_of (by simp), fun t ht => ?_⟩
  have e2 : Fr [] H1 (upd H1 t (.tup [.str "full", .str "name"])) := Fr.new ht
  refine g_inT (xs := (["full", "name"] : List Str).map V.str) (.inr (SqT.of upd_same)) (flat_strs _) ?_
  rw [inV_str]
  have hT2 := hT1.fr e2 (fun z => nomatch z)
  generalize upd H1 t (.tup [.str "full", .str "name"]) = H2 at *
  repeat walk_at "lw"
  refine g_by (fun c2 => ?_) (fun c2 => ?_)
  ·have hn := g.g.next hi (by
    have hc : (tkn ts i).s = "full" ∨ (tkn ts i).s = "name" := by simpa using c2
    rcases hc with h | h <;> (rw [h]; decide +kernel))
   repeat walk_at "lw"
   rename_i H3 e3 hT3
   refine k _ _ ⟨?_, hT3, (e1.trans e2).trans e3⟩
   exact ⟨fun h => ⟨c2, h⟩, fun h => h.2⟩
  ·repeat walk_at "lw"
   exact k _ _ ⟨⟨fun h => absurd h Bool.false_ne_true, fun h => absurd h.1 c2⟩, hT2, e1.trans e2⟩
 obtain ⟨hb, hT2, e2⟩ := h
 cases b with
 | true =>
  have c2 := hb.mp rfl
  repeat walk_at "lw"
  exact ⟨p, ts, i, "atom", pl, rfl, hT2, g, hi, q.via e2 fun r h => by unfold PartR; rw [if_neg c1', if_pos c2]; exact h⟩
 | false =>
 have c2 : ¬ ((tkn ts i).s ∈ (["full", "name"] : List Str) ∧ isT ts (i + 1) "sign" "(" = true) := fun z => absurd (hb.mpr z) Bool.false_ne_true
 repeat walk_at "lwif"
 try dsimp only
 refine g_seq (g_if (g_cutT (fun b H3 => (b = true ↔ (tkn ts i).s = "name" ∧ isT ts (i + 1) "kept" "is" = true) ∧ ThsAt K H3 p ts ∧ Fr [] H H3) (fun b H3 h => ?_) (fun Q' k => ?_)))
 rotate_left
 ·repeat walk_at "lw"
  refine g_by (fun c3 => ?_) (fun c3 => ?_)
  ·have hn := g.g.next hi (by rw [c3]; decide +kernel)
   repeat walk_at "lw"
   rename_i H3 e3 hT3
   refine k _ _ ⟨?_, hT3, e2.trans e3⟩
   exact ⟨fun h => ⟨c3, h⟩, fun h => h.2⟩
  ·repeat walk_at "lw"
   exact k _ _ ⟨⟨fun h => absurd h Bool.false_ne_true, fun h => absurd h.1 c3⟩, hT2, e2⟩
 obtain ⟨hb3, hT3, e3⟩ := h
 cases b with
 | true =>
  have c3 := hb3.mp rfl
  have hn := g.g.next hi (by rw [c3.1]; decide +kernel)
  have hn2 := g.g.next hn (by rw [(isT_s c3.2 hn).1]; decide +kernel)
  have lo : ∀ {r}, _ → PartR ts false pl i r := fun h => Eq.mpr (if_neg c1') (Eq.mpr (if_neg c2) (Eq.mpr (if_pos c3) h))
  repeat walk_at "lw"
  refine ⟨p, ts, i + 2, false, rfl, hT3, g, hn2, fun d7 j7 a7 pr7 H7 hl7 hj7 e7 td7 hp7 => ?_, fun e pr7 H7 hl7 he7 e7 hp7 => ?_⟩
  ·refine g_gtup hp7 rfl ?_
   repeat walk_at "lw"
   refine g_ff (decide_eq_false (fun z => nomatch z)) ?_
   repeat walk_at "lw"
   refine ⟨le_of (by simp), fun t ht => ?_⟩
   have e8 : Fr [] H7 (upd H7 t (.tup [.str "let", (tkn ts i).v, .ref a7])) := Fr.new ht
   repeat walk_at "lw"
   exact ⟨le_of (by simp), fun pr hpr => q.ok (lo (.inr ⟨d7, j7, hl7, rfl⟩)) hj7 ((e3.trans e7).trans e8) (.tup (SqT.of upd_same) (.cons (.str _) (.cons (sc_td (g_sc g.g hi)) (.cons (td7.fr e8) .nil)))) hpr⟩
  ·refine g_gtup hp7 rfl ?_
   repeat walk_at "lw"
   exact ⟨le_of (by simp), fun pr hpr => q.er (lo (.inl ⟨e, hl7, rfl⟩)) he7 (e3.trans e7) hpr⟩
 | false =>
 have c3 : ¬ ((tkn ts i).s = "name" ∧ isT ts (i + 1) "kept" "is" = true) := fun z => absurd (hb3.mpr z) Bool.false_ne_true
 repeat walk_at "lw"
 exact ⟨p, ts, i, false, rfl, hT3, g, hi, q.via e3 fun r h => by unfold PartR; rw [if_neg c1', if_neg c2, if_neg c3]; exact h⟩
def pMu (l : Nat) (σ : L2.St) (_ : Hp) : Nat := match σ with
 | [_, some (.int j), _, _, _, some (.bl true), _] => l - j.toNat + 1
 | _ => 0
theorem ok__law_parts_read (F : FnP K "_law_parts_read" s__law_parts_read f fd) (B : BiL mg) (C__law_part_read : CalG P w K mg base 63 "_law_part_read" (spLPart K)) : FnG P w K mg base CX0 64 f fd ["_law_things_here", "_law_spot", "_law_plain_too", "_law_most_parts"] (spLParts K) := by
 refine okG F sc__law_parts_read (fun vs H Q E h => ?_) (fun cdv A outer s H vs Q E hr h => ?_)
 ·obtain ⟨p, ts, i, pl, most, rfl, _⟩ := h
  rfl
 obtain ⟨p, ts, i, pl, most, rfl, hm1, hm2, hT, g, hi, q⟩ := h
 have gz := g.g.sz
 refine ⟨_, PSs.nox (pss_cons (ps_set (i := 4) sc__law_parts_read.nd rfl (.inl rfl) (pe_lst pa_nil))
 (pss_cons (ps_set (i := 5) sc__law_parts_read.nd rfl (.inl rfl) pe_bl)
 (pss_cons (ps_while PassesOwn.never (pt_val (pv 5)) (pss_cons (ps_asg (pe_ifExp (pt_cmpR (kOp (K := K) (r := uLt) rfl opu_lt) (pe_callB (kCall (K := K) (r := uLen) rfl callu_len) (by rfl) B.b_len (by decide +kernel) (pa_cons (pv 4) pa_nil)) (pv 3) (nomark _)) (pe_calG C__law_part_read hr rfl (pa_cons (pv 0) (pa_cons (pv 1) (pa_cons (pv 2) pa_nil)))) (pe_tup (pa_cons pe_non (pa_cons (pv 1) pa_nil)))) (pg_tupK (K := K) rfl rfl (pgs_cons (pg_name (i := 6) sc__law_parts_read.nd rfl (by first | exact Or.inl rfl | exact Or.inr rfl)) (pgs_cons (pg_name (i := 1) sc__law_parts_read.nd rfl (by first | exact Or.inl rfl | exact Or.inr rfl)) pgs_nil))))
 (pss_cons (ps_if (pt_cmpR opu_is (pv 6) pe_non (nomark _)) (pss_one (ps_ret (pe_tup (pa_cons pe_non (pa_cons (pv 1) pa_nil))))) pss_nil)
 (pss_cons (ps_expr (kBM (K := K) rfl (pe_bm PySem.F.plainAttrs_list PySem.F.slot_list_append PySem.F.type_list_append mt_append (pv 4) (pa_cons (pv 6) pa_nil))))
 (pss_cons (ps_set (i := 5) sc__law_parts_read.nd rfl (.inl rfl) (pe_cmpR (kOp (K := K) (r := uEq) rfl (opu_eq hr.units)) (pe_slice (kSl (K := K) (r := rSlA) rfl sl_tupA) (pe_ix (kIx (K := K) (r := rIx) rfl ix_seq) (pv 0) (pv 1) (fun _ _ => rfl)) po_none (po_some pe_int)) (pe_tup (pa_cons pe_str (pa_cons pe_str pa_nil))) (nomark _)))
 (pss_one (ps_set (i := 1) sc__law_parts_read.nd rfl (.inl rfl) (pe_op (kOp (K := K) (r := uAdd) rfl opu_add) (pv 1) (pe_callTy callu_int (by rfl) B.b_int (by decide +kernel) (pa_cons (pv 5) pa_nil))))))))))
 (pss_one (ps_ret (pe_tup (pa_cons (pe_callTy (kCall (K := K) (r := uTuple) rfl callu_tuple) (by rfl) B.b_tuple (by decide +kernel) (pa_cons (pv 4) pa_nil)) (pa_cons (pv 1) pa_nil)))))))), rd_start (σ0 := [some (.ref p), some (.int (i : Int)), some (.bl pl), some (.int (most : Int)), none, none, none]) rfl ?_⟩
 repeat walk_at "lw"
 refine ⟨le_of (by simp), fun L hL => ?_⟩
 have e2 : Fr [] H (upd H L (.lst [])) := Fr.new hL
 have hL2 : (upd H L (.lst [])) L = some (.lst []) := upd_same
 have hT2 := hT.fr e2 (fun z => nomatch z)
 have pL : p ∉ [L] := fun z => by
  obtain ⟨us, h1, _⟩ := hT
  rw [List.mem_singleton.mp z, hL] at h1
  cases h1
 generalize upd H L (.lst []) = H2 at *
 repeat walk_at "lw"
 refine g_while2 (fun σ H' => ∃ (b : Bool) (ds : List PyData) (us : List V) (j : Nat) (z9 : Option V), σ = [some (.ref p), some (.int (j : Int)), some (.bl pl), some (.int (most : Int)), some (.ref L), some (.bl b), z9] ∧ ThsAt K H' p ts ∧ H' L = some (.lst us) ∧ TdAll K H' us ds ∧ Fr [] H H' ∧ ds.length ≤ most ∧ j < ts.length ∧
   (if b = true then ∀ res, ItemR ts (fun _ => PartR ts false pl) (fun ds => decide (ds.length = most)) ds j res → SeqR ts (fun _ => PartR ts false pl) (fun ds => decide (ds.length = most)) i res else SeqR ts (fun _ => PartR ts false pl) (fun ds => decide (ds.length = most)) i (.ok (ds, j)))) (pMu ts.length)
  ⟨true, [], [], i, _, rfl, hT2, hL2, .nil, e2, by simp, hi, fun res h => item0 (decide_eq_false (by simp; omega)) h⟩ (fun σ H5 h => ?_)
 obtain ⟨b, ds, us, j, z9, rfl, hT5, hL5, td5, e5, hdl, hj5, hlo⟩ := h
 have ul := tda_len5 td5
 repeat walk_at "lw"
 cases b with
 | true =>
  have hlo : ∀ res, ItemR ts (fun _ => PartR ts false pl) (fun ds => decide (ds.length = most)) ds j res → SeqR ts (fun _ => PartR ts false pl) (fun ds => decide (ds.length = most)) i res := hlo
  refine g_tt rfl ?_
  refine g_wt ?_
  repeat walk_at "lw"
  refine g_by (fun c6 => ?_) (fun c6 => ?_)
  ·have c6' : (fun ds : List PyData => decide (ds.length = most)) ds = false := decide_eq_false (by omega)
   repeat walk_at "lw"
   refine ⟨p, ts, j, pl, rfl, hT5, g, hj5, fun d7 j7 a7 pr7 H7 hl7 hj7 e7 td7 hp7 => ?_, fun e pr7 H7 hl7 he7 e7 hp7 => ?_⟩
   ·have hT7 := hT5.fr e7 (fun z => nomatch z)
    have hL7 := e7.at hL5 (fun z => nomatch z)
    have fw := partR_fwd ts _ _ _ _ _ hl7
    refine g_gtup hp7 rfl ?_
    repeat walk_at "lw"
    refine g_ff (decide_eq_false (fun z => nomatch z)) ?_
    repeat walk_at "lw"
    refine g_app hL7 (by omega) ?_
    have e8 : Fr [L] H7 (upd H7 L (.lst (us ++ [.ref a7]))) := Fr.mut (List.mem_singleton.mpr rfl) hL7 nofix_lst
    have hL8 : (upd H7 L (.lst (us ++ [.ref a7]))) L = some (.lst (us ++ [.ref a7])) := upd_same
    have hT8 := hT7.fr e8 pL
    have td8 := (tda_snoc4 (td5.fr e7) td7).fr e8
    have e58 : Fr [] H (upd H7 L (.lst (us ++ [.ref a7]))) := (e5.trans e7).over hL
    generalize upd H7 L (.lst (us ++ [.ref a7])) = H8 at *
    repeat walk_at "lw"
    rename_i H9 e9 hT9
    refine g_intB ?_
    repeat walk_at "lw"
    have dl : (ds ++ [d7]).length ≤ most := by rw [List.length_append, List.length_singleton]; omega
    cases c9 : isT ts j7 "sign" "," with
    | true =>
     have hn9 := g.g.next hj7 (by rw [(isT_s c9 hj7).1]; decide +kernel)
     refine ⟨⟨true, ds ++ [d7], us ++ [.ref a7], j7 + 1, _, rfl, hT9, e9.at hL8 (fun z => nomatch z), td8.fr e9, e58.trans e9, dl, hn9, fun res h => hlo res (.inr ⟨c6', .inr ⟨d7, j7, hl7, item_step c9 h⟩⟩)⟩, ?_⟩
     show ts.length - ((j7 : Int) + 1).toNat + 1 < ts.length - ((j : Int)).toNat + 1
     omega
    | false =>
     refine ⟨⟨false, ds ++ [d7], us ++ [.ref a7], j7, _, by rw [show (j7 : Int) + (if false = true then 1 else 0) = (j7 : Int) from by simp]; rfl, hT9, e9.at hL8 (fun z => nomatch z), td8.fr e9, e58.trans e9, dl, hj7, hlo _ (.inr ⟨c6', .inr ⟨d7, j7, hl7, .stop c9⟩⟩)⟩, ?_⟩
     show 0 < ts.length - ((j : Int)).toNat + 1
     omega
   ·refine g_gtup hp7 rfl ?_
    repeat walk_at "lw"
    exact ⟨le_of (by simp), fun pr hpr => q.er (.inl ⟨e, hlo _ (.inr ⟨c6', .inl ⟨e, hl7, rfl⟩⟩), rfl⟩) he7 (e5.trans e7) hpr⟩
  ·repeat walk_at "lw"
   refine ⟨le_of (by simp), fun pr7 hpr7 => ?_⟩
   refine g_gtup (SqT.of upd_same) rfl ?_
   repeat walk_at "lw"
   exact ⟨le_of (by simp), fun pr hpr => q.er (.inl ⟨j, hlo _ (.inl ⟨decide_eq_true (by omega), rfl⟩), rfl⟩) hj5 (e5.trans (Fr.new hpr7)) hpr⟩
 | false =>
  have hlo : SeqR ts (fun _ => PartR ts false pl) (fun ds => decide (ds.length = most)) i (.ok (ds, j)) := hlo
  refine g_ff rfl ?_
  repeat walk_at "lw"
  refine g_tupleL (SqL.of hL5) fun t ht => ?_
  have e7 : Fr [] H5 (upd H5 t (.tup us)) := Fr.new ht
  have h7 : SqT K (upd H5 t (.tup us)) t us := SqT.of upd_same
  have td7 := td5.fr e7
  generalize upd H5 t (.tup us) = H7 at *
  repeat walk_at "lw"
  exact ⟨le_of (by simp), fun pr hpr => q.ok (.inr ⟨ds, j, hlo, rfl⟩) hj5 (e5.trans e7) (Td.tup h7 td7) hpr⟩
end
def headS : PyData → Str
 | .tuple (.str s :: _) => s
 | _ => ""
theorem fold_any {ds : List PyData} (h : ∀ d ∈ ds, ∃ s l, d = PyData.tuple (.str s :: l)) : decide (V.str "fold" ∈ (ds.map headS).map V.str) = ds.any isFold := by
 rw [Bool.eq_iff_iff, decide_eq_true_eq, List.any_eq_true]
 constructor
 ·intro z
  obtain ⟨s, hs, e⟩ := List.mem_map.mp z
  obtain ⟨d, hd, rfl⟩ := List.mem_map.mp hs
  obtain ⟨s, l, rfl⟩ := h d hd
  refine ⟨_, hd, ?_⟩
  injection e with e
  exact decide_eq_true e
 ·rintro ⟨d, hd, e⟩
  obtain ⟨s, l, rfl⟩ := h d hd
  have e2 : s = "fold" := of_decide_eq_true e
  exact List.mem_map.mpr ⟨"fold", List.mem_map.mpr ⟨_, hd, e2⟩, rfl⟩
def spLArgs (K : PySem.W.Frag) : Sp := fun vs H Q _ => ∃ (p : Addr) (ts : List Th) (i : Nat), vs = [.ref p, .int (i : Int)] ∧ ThsAt K H p ts ∧ LawTs ts ∧ i < ts.length ∧ LRd K (ArgsR ts) H ts i Q
def TestsAt (ts : List Th) (i : Nat) (r : Res) : Prop := BindR (SeqT ts (fun _ => TestR ts true) (fun _ => false)) (fun d k r => EndR ts d k r) i r
def spLTests (K : PySem.W.Frag) : Sp := fun vs H Q _ => ∃ (p : Addr) (ts : List Th), vs = [.ref p] ∧ ThsAt K H p ts ∧ LawTs ts ∧ LRd K (TestsAt ts) H ts 0 Q
abbrev s__law_args_read : Stmt := topS 64
theorem sc__law_args_read : FnScope ["_law_things_here", "_law_spot", "_law_args", "_law_going", "_law_has_fold", "_law_arg"] ["_law_things_here", "_law_spot"] (defScope s__law_args_read) := ⟨rfl, rfl, rfl, by decide +kernel, rfl, by decide +kernel, by decide +kernel⟩
abbrev s__law_tests_read : Stmt := topS 67
theorem sc__law_tests_read : FnScope ["_law_things_here", "_law_tests", "_law_spot", "_law_going", "_law_test"] ["_law_things_here"] (defScope s__law_tests_read) := ⟨rfl, rfl, rfl, by decide +kernel, rfl, by decide +kernel, by decide +kernel⟩
def gMu (l : Nat) (σ : L2.St) (_ : Hp) : Nat := match σ with
 | [_, some (.int j), _, some (.bl true), _, _] => l - j.toNat + 1
 | _ => 0
def tMu (l : Nat) (σ : L2.St) (_ : Hp) : Nat := match σ with
 | [_, _, some (.int j), some (.bl true), _] => l - j.toNat + 1
 | _ => 0
section
variable {P : Program} {w : World} {K : PySem.W.Frag} {mg : Str → Option Value} {base : Heap} {f : Addr} {fd : FuncData}
theorem ok__law_args_read (F : FnP K "_law_args_read" s__law_args_read f fd) (B : BiL mg) (C__law_arg_read : CalG P w K mg base 10 "_law_arg_read" (spLArg K)) : FnG P w K mg base CX0 12 f fd ["_law_things_here", "_law_spot"] (spLArgs K) := by
 refine okG F sc__law_args_read (fun vs H Q E h => ?_) (fun cdv A outer s H vs Q E hr h => ?_)
 ·obtain ⟨p, ts, i, rfl, _⟩ := h
  rfl
 obtain ⟨p, ts, i, rfl, hT, g, hi, q⟩ := h
 have gz := g.g.sz
 refine ⟨_, PSs.nox (pss_cons (ps_set (i := 2) sc__law_args_read.nd rfl (.inl rfl) (pe_lst pa_nil))
 (pss_cons (ps_set (i := 3) sc__law_args_read.nd rfl (.inl rfl) pe_bl)
 (pss_cons (ps_while PassesOwn.never (pt_val (pv 3)) (pss_cons (ps_set (i := 4) sc__law_args_read.nd rfl (.inl rfl) (pe_cmpR (kOp (K := K) (r := uIn) rfl opu_in) pe_str (pe_lc (own := [("_law_arg", 5)]) (g := gName 5) (tt := tYes) rfl sc__law_args_read.nd (pi_listK (K := K) rfl (pv 2)) (blkOk_by (own := [("_law_arg", 5)]) (N := ["_law_things_here", "_law_spot", "_law_args", "_law_going", "_law_has_fold", "_law_arg"]) (sc := defScope s__law_args_read) (by decide +kernel)) (fun _ _ _ _ _ => (by exact (pg_name (i := 5) sc__law_args_read.nd rfl (by first | exact Or.inl rfl | exact Or.inr rfl)))) (fun _ _ _ _ _ => pts_nil) (fun _ _ _ _ _ => (by exact (pe_ix (kIx (K := K) (r := rIx) rfl ix_seq) (pv 5) pe_int (fun _ _ => rfl))))) (by rfl)))
 (pss_cons (ps_asg (pe_ifExp (pt_cmpR (kOp (K := K) (r := uLt) rfl opu_lt) (pe_callB (kCall (K := K) (r := uLen) rfl callu_len) (by rfl) B.b_len (by decide +kernel) (pa_cons (pv 2) pa_nil)) pe_int (nomark _)) (pe_calG C__law_arg_read hr rfl (pa_cons (pv 0) (pa_cons (pv 1) (pa_cons (pv 4) pa_nil)))) (pe_tup (pa_cons pe_non (pa_cons (pv 1) pa_nil)))) (pg_tupK (K := K) rfl rfl (pgs_cons (pg_name (i := 5) sc__law_args_read.nd rfl (by first | exact Or.inl rfl | exact Or.inr rfl)) (pgs_cons (pg_name (i := 1) sc__law_args_read.nd rfl (by first | exact Or.inl rfl | exact Or.inr rfl)) pgs_nil))))
 (pss_cons (ps_if (pt_cmpR opu_is (pv 5) pe_non (nomark _)) (pss_one (ps_ret (pe_tup (pa_cons pe_non (pa_cons (pv 1) pa_nil))))) pss_nil)
 (pss_cons (ps_expr (kBM (K := K) rfl (pe_bm PySem.F.plainAttrs_list PySem.F.slot_list_append PySem.F.type_list_append mt_append (pv 2) (pa_cons (pv 5) pa_nil))))
 (pss_cons (ps_set (i := 3) sc__law_args_read.nd rfl (.inl rfl) (pe_cmpR (kOp (K := K) (r := uEq) rfl (opu_eq hr.units)) (pe_slice (kSl (K := K) (r := rSlA) rfl sl_tupA) (pe_ix (kIx (K := K) (r := rIx) rfl ix_seq) (pv 0) (pv 1) (fun _ _ => rfl)) po_none (po_some pe_int)) (pe_tup (pa_cons pe_str (pa_cons pe_str pa_nil))) (nomark _)))
 (pss_one (ps_set (i := 1) sc__law_args_read.nd rfl (.inl rfl) (pe_op (kOp (K := K) (r := uAdd) rfl opu_add) (pv 1) (pe_callTy callu_int (by rfl) B.b_int (by decide +kernel) (pa_cons (pv 3) pa_nil)))))))))))
 (pss_one (ps_ret (pe_tup (pa_cons (pe_callTy (kCall (K := K) (r := uTuple) rfl callu_tuple) (by rfl) B.b_tuple (by decide +kernel) (pa_cons (pv 2) pa_nil)) (pa_cons (pv 1) pa_nil)))))))), rd_start (σ0 := [some (.ref p), some (.int (i : Int)), none, none, none, none]) rfl ?_⟩
 repeat walk_at "lw"
 refine ⟨le_of (by simp), fun L hL => ?_⟩
 have e2 : Fr [] H (upd H L (.lst [])) := Fr.new hL
 have hL2 : (upd H L (.lst [])) L = some (.lst []) := upd_same
 have hT2 := hT.fr e2 (fun z => nomatch z)
 have pL : p ∉ [L] := fun z => by
  obtain ⟨us, h1, _⟩ := hT
  rw [List.mem_singleton.mp z, hL] at h1
  cases h1
 generalize upd H L (.lst []) = H2 at *
 repeat walk_at "lw"
 refine g_while2 (fun σ H' => ∃ (b : Bool) (ds : List PyData) (us : List V) (j : Nat) (z8 z9 : Option V), σ = [some (.ref p), some (.int (j : Int)), some (.ref L), some (.bl b), z8, z9] ∧ ThsAt K H' p ts ∧ H' L = some (.lst us) ∧ TdAll K H' us ds ∧ Fr [] H H' ∧ ds.length ≤ 4 ∧ (∀ d ∈ ds, ∃ s l, d = PyData.tuple (.str s :: l)) ∧ j < ts.length ∧
   (if b = true then ∀ res, ItemR ts (fun ds => ArgR ts (ds.any isFold)) (fun ds => decide (ds.length = 4)) ds j res → SeqR ts (fun ds => ArgR ts (ds.any isFold)) (fun ds => decide (ds.length = 4)) i res else SeqR ts (fun ds => ArgR ts (ds.any isFold)) (fun ds => decide (ds.length = 4)) i (.ok (ds, j)))) (gMu ts.length)
  ⟨true, [], [], i, _, _, rfl, hT2, hL2, .nil, e2, by simp, (fun _ z => nomatch z), hi, fun res h => item0 rfl h⟩ (fun σ H5 h => ?_)
 obtain ⟨b, ds, us, j, z8, z9, rfl, hT5, hL5, td5, e5, hdl, hsh, hj5, hlo⟩ := h
 have ul := tda_len5 td5
 repeat walk_at "lw"
 cases b with
 | true =>
  have hlo : ∀ res, ItemR ts (fun ds => ArgR ts (ds.any isFold)) (fun ds => decide (ds.length = 4)) ds j res → SeqR ts (fun ds => ArgR ts (ds.any isFold)) (fun ds => decide (ds.length = 4)) i res := hlo
  refine g_tt rfl ?_
  refine g_wt ?_
  repeat walk_at "lw"
  refine ⟨L, rfl, ⟨_, SqL.of hL5⟩, fun D hD => lc_it (walk_list (xs := us)) (fun i H' => Fr [] H5 H' ∧ H' D = some (.lst (((ds.take i).map headS).map V.str))) ⟨Fr.new hD, upd_same⟩ (fun i H' _ h => SqL.of (h.1.at hL5 (fun z => nomatch z))) (fun i' y H7 H8 hi' h yy => ?_) (fun H7z h => ?_)⟩
  ·obtain ⟨rfl, hy⟩ := yy
   obtain ⟨e7, h7⟩ := h
   obtain ⟨d, hd, tdd⟩ := (tda_get (f := id) (show TdAll K H5 us (ds.map id) by rw [List.map_id]; exact td5)).2 i' y hy
   obtain ⟨s0, l0, rfl⟩ := hsh d (List.mem_of_getElem? hd)
   obtain ⟨a0, xs0, rfl, hx0, hxs0⟩ := Td.tuple_inv tdd
   obtain ⟨x0, xr, rfl, hx1⟩ : ∃ x0 xr, xs0 = x0 :: xr ∧ Td K H5 x0 (.str s0) := by
    cases hxs0 with
    | cons a b => exact ⟨_, _, rfl, a⟩
   cases hx1.str_inv
   repeat walk_at "lw"
   refine ⟨rfl, ?_⟩
   repeat walk_at "lw"
   refine g_ixT (e7.tup hx0) (atI_nat (j := 0) rfl) ?_
   refine ⟨_, h7, lt_of (by rw [List.length_map, List.length_map, List.length_take]; omega), e7.over hD, ?_⟩
   rw [upd_same, List.take_add_one, hd, List.map_append, List.map_append]
   rfl
  obtain ⟨e7, h7⟩ := h
  rw [show us.length = ds.length from ul, List.take_length] at h7
  replace hL5 := e7.at hL5 (fun z => nomatch z)
  replace hT5 := hT5.fr e7 (fun z => nomatch z)
  replace td5 := td5.fr e7
  replace e5 := e5.trans e7
  repeat walk_at "lw"
  refine g_inSc (ws := ds.map headS) rfl (.inl (SqL.of h7)) ?_
  have ea : decide (V.str "fold" ∈ (ds.map headS).map V.str) = ds.any isFold := fold_any hsh
  rw [ea]
  repeat walk_at "lw"
  refine g_by (fun c6 => ?_) (fun c6 => ?_)
  ·have c6' : (fun ds : List PyData => decide (ds.length = 4)) ds = false := decide_eq_false (by omega)
   repeat walk_at "lw"
   refine ⟨p, ts, j, ds.any isFold, rfl, hT5, g, hj5, fun d7 j7 a7 pr7 H7 hl7 hj7 e7 td7 hp7 => ?_, fun e pr7 H7 hl7 he7 e7 hp7 => ?_⟩
   ·have hT7 := hT5.fr e7 (fun z => nomatch z)
    have hL7 := e7.at hL5 (fun z => nomatch z)
    have fw := argR_fwd ts _ _ _ _ hl7
    refine g_gtup hp7 rfl ?_
    repeat walk_at "lw"
    refine g_ff (decide_eq_false (fun z => nomatch z)) ?_
    repeat walk_at "lw"
    refine g_app hL7 (by omega) ?_
    have e8 : Fr [L] H7 (upd H7 L (.lst (us ++ [.ref a7]))) := Fr.mut (List.mem_singleton.mpr rfl) hL7 nofix_lst
    have hL8 : (upd H7 L (.lst (us ++ [.ref a7]))) L = some (.lst (us ++ [.ref a7])) := upd_same
    have hT8 := hT7.fr e8 pL
    have td8 := (tda_snoc4 (td5.fr e7) td7).fr e8
    have e58 : Fr [] H (upd H7 L (.lst (us ++ [.ref a7]))) := (e5.trans e7).over hL
    generalize upd H7 L (.lst (us ++ [.ref a7])) = H8 at *
    repeat walk_at "lw"
    rename_i H9 e9 hT9
    refine g_intB ?_
    repeat walk_at "lw"
    have dl : (ds ++ [d7]).length ≤ 4 := by rw [List.length_append, List.length_singleton]; omega
    have sh7 : ∀ d ∈ ds ++ [d7], ∃ s l, d = PyData.tuple (.str s :: l) := fun d hd => by
     rcases List.mem_append.mp hd with hd | hd
     ·exact hsh d hd
     ·rw [List.mem_singleton.mp hd]; exact argR_shape hl7
    cases c9 : isT ts j7 "sign" "," with
    | true =>
     have hn9 := g.g.next hj7 (by rw [(isT_s c9 hj7).1]; decide +kernel)
     refine ⟨⟨true, ds ++ [d7], us ++ [.ref a7], j7 + 1, _, _, rfl, hT9, e9.at hL8 (fun z => nomatch z), td8.fr e9, e58.trans e9, dl, sh7, hn9, fun res h => hlo res (.inr ⟨c6', .inr ⟨d7, j7, hl7, item_step c9 h⟩⟩)⟩, ?_⟩
     show ts.length - ((j7 : Int) + 1).toNat + 1 < ts.length - ((j : Int)).toNat + 1
     omega
    | false =>
     refine ⟨⟨false, ds ++ [d7], us ++ [.ref a7], j7, _, _, by rw [show (j7 : Int) + (if false = true then 1 else 0) = (j7 : Int) from by simp]; rfl, hT9, e9.at hL8 (fun z => nomatch z), td8.fr e9, e58.trans e9, dl, sh7, hj7, hlo _ (.inr ⟨c6', .inr ⟨d7, j7, hl7, .stop c9⟩⟩)⟩, ?_⟩
     show 0 < ts.length - ((j : Int)).toNat + 1
     omega
   ·refine g_gtup hp7 rfl ?_
    repeat walk_at "lw"
    exact ⟨le_of (by simp), fun pr hpr => q.er (.inl ⟨e, hlo _ (.inr ⟨c6', .inl ⟨e, hl7, rfl⟩⟩), rfl⟩) he7 (e5.trans e7) hpr⟩
  ·repeat walk_at "lw"
   refine ⟨le_of (by simp), fun pr7 hpr7 => ?_⟩
   refine g_gtup (SqT.of upd_same) rfl ?_
   repeat walk_at "lw"
   exact ⟨le_of (by simp), fun pr hpr => q.er (.inl ⟨j, hlo _ (.inl ⟨decide_eq_true (by omega), rfl⟩), rfl⟩) hj5 (e5.trans (Fr.new hpr7)) hpr⟩
 | false =>
  have hlo : SeqR ts (fun ds => ArgR ts (ds.any isFold)) (fun ds => decide (ds.length = 4)) i (.ok (ds, j)) := hlo
  refine g_ff rfl ?_
  repeat walk_at "lw"
  refine g_tupleL (SqL.of hL5) fun t ht => ?_
  have e7 : Fr [] H5 (upd H5 t (.tup us)) := Fr.new ht
  have h7 : SqT K (upd H5 t (.tup us)) t us := SqT.of upd_same
  have td7 := td5.fr e7
  generalize upd H5 t (.tup us) = H7 at *
  repeat walk_at "lw"
  exact ⟨le_of (by simp), fun pr hpr => q.ok (.inr ⟨ds, j, hlo, rfl⟩) hj5 (e5.trans e7) (Td.tup h7 td7) hpr⟩
theorem ok__law_tests_read (F : FnP K "_law_tests_read" s__law_tests_read f fd) (B : BiL mg) (C__law_test_read : CalG P w K mg base 62 "_law_test_read" (spLTest K)) : FnG P w K mg base CX0 64 f fd ["_law_things_here"] (spLTests K) := by
 refine okG F sc__law_tests_read (fun vs H Q E h => ?_) (fun cdv A outer s H vs Q E hr h => ?_)
 ·obtain ⟨p, ts, rfl, _⟩ := h
  rfl
 obtain ⟨p, ts, rfl, hT, g, q⟩ := h
 have gz := g.g.sz
 have hi := g.g.ne
 refine ⟨_, PSs.nox (pss_cons (ps_set (i := 1) sc__law_tests_read.nd rfl (.inl rfl) (pe_lst pa_nil))
 (pss_cons (ps_set (i := 2) sc__law_tests_read.nd rfl (.inl rfl) pe_int)
 (pss_cons (ps_set (i := 3) sc__law_tests_read.nd rfl (.inl rfl) pe_bl)
 (pss_cons (ps_while PassesOwn.never (pt_val (pv 3)) (pss_cons (ps_asg (pe_calG C__law_test_read hr rfl (pa_cons (pv 0) (pa_cons (pv 2) (pa_cons pe_bl pa_nil)))) (pg_tupK (K := K) rfl rfl (pgs_cons (pg_name (i := 4) sc__law_tests_read.nd rfl (by first | exact Or.inl rfl | exact Or.inr rfl)) (pgs_cons (pg_name (i := 2) sc__law_tests_read.nd rfl (by first | exact Or.inl rfl | exact Or.inr rfl)) pgs_nil))))
 (pss_cons (ps_if (pt_cmpR opu_is (pv 4) pe_non (nomark _)) (pss_one (ps_ret (pe_tup (pa_cons pe_non (pa_cons (pv 2) pa_nil))))) pss_nil)
 (pss_cons (ps_expr (kBM (K := K) rfl (pe_bm PySem.F.plainAttrs_list PySem.F.slot_list_append PySem.F.type_list_append mt_append (pv 1) (pa_cons (pv 4) pa_nil))))
 (pss_cons (ps_set (i := 3) sc__law_tests_read.nd rfl (.inl rfl) (pe_cmpR (kOp (K := K) (r := uEq) rfl (opu_eq hr.units)) (pe_slice (kSl (K := K) (r := rSlA) rfl sl_tupA) (pe_ix (kIx (K := K) (r := rIx) rfl ix_seq) (pv 0) (pv 2) (fun _ _ => rfl)) po_none (po_some pe_int)) (pe_tup (pa_cons pe_str (pa_cons pe_str pa_nil))) (nomark _)))
 (pss_one (ps_set (i := 2) sc__law_tests_read.nd rfl (.inl rfl) (pe_op (kOp (K := K) (r := uAdd) rfl opu_add) (pv 2) (pe_callTy callu_int (by rfl) B.b_int (by decide +kernel) (pa_cons (pv 3) pa_nil))))))))))
 (pss_one (ps_ret (pe_ifExp (pt_cmpR (kOp (K := K) (r := uEq) rfl (opu_eq hr.units)) (pe_ix (kIx (K := K) (r := rIx) rfl ix_seq) (pe_ix (kIx (K := K) (r := rIx) rfl ix_seq) (pv 0) (pv 2) (fun _ _ => rfl)) pe_int (fun _ _ => rfl)) pe_str (nomark _)) (pe_tup (pa_cons (pe_callTy (kCall (K := K) (r := uTuple) rfl callu_tuple) (by rfl) B.b_tuple (by decide +kernel) (pa_cons (pv 1) pa_nil)) (pa_cons (pv 2) pa_nil))) (pe_tup (pa_cons pe_non (pa_cons (pv 2) pa_nil)))))))))), rd_start (σ0 := [some (.ref p), none, none, none, none]) rfl ?_⟩
 repeat walk_at "lw"
 refine ⟨le_of (by simp), fun L hL => ?_⟩
 have e2 : Fr [] H (upd H L (.lst [])) := Fr.new hL
 have hL2 : (upd H L (.lst [])) L = some (.lst []) := upd_same
 have hT2 := hT.fr e2 (fun z => nomatch z)
 have pL : p ∉ [L] := fun z => by
  obtain ⟨us, h1, _⟩ := hT
  rw [List.mem_singleton.mp z, hL] at h1
  cases h1
 generalize upd H L (.lst []) = H2 at *
 repeat walk_at "lw"
 refine g_while2 (fun σ H' => ∃ (b : Bool) (ds : List PyData) (us : List V) (j : Nat) (z9 : Option V), σ = [some (.ref p), some (.ref L), some (.int (j : Int)), some (.bl b), z9] ∧ ThsAt K H' p ts ∧ H' L = some (.lst us) ∧ TdAll K H' us ds ∧ Fr [] H H' ∧ ds.length ≤ j ∧ j < ts.length ∧
   (if b = true then ∀ res, ItemR ts (fun _ => TestR ts true) (fun _ => false) ds j res → SeqR ts (fun _ => TestR ts true) (fun _ => false) 0 res else SeqR ts (fun _ => TestR ts true) (fun _ => false) 0 (.ok (ds, j)))) (tMu ts.length)
  ⟨true, [], [], 0, _, rfl, hT2, hL2, .nil, e2, by simp, hi, fun res h => item0 rfl h⟩ (fun σ H5 h => ?_)
 obtain ⟨b, ds, us, j, z9, rfl, hT5, hL5, td5, e5, hdl, hj5, hlo⟩ := h
 have ul := tda_len5 td5
 repeat walk_at "lw"
 cases b with
 | true =>
  have hlo : ∀ res, ItemR ts (fun _ => TestR ts true) (fun _ => false) ds j res → SeqR ts (fun _ => TestR ts true) (fun _ => false) 0 res := hlo
  refine g_tt rfl ?_
  refine g_wt ?_
  repeat walk_at "lw"
  ·have c6' : (fun _ : List PyData => false) ds = false := rfl
   refine ⟨p, ts, j, true, rfl, hT5, g, hj5, fun d7 j7 a7 pr7 H7 hl7 hj7 e7 td7 hp7 => ?_, fun e pr7 H7 hl7 he7 e7 hp7 => ?_⟩
   ·have hT7 := hT5.fr e7 (fun z => nomatch z)
    have hL7 := e7.at hL5 (fun z => nomatch z)
    have fw := testR_fwd ts _ _ _ _ hl7
    refine g_gtup hp7 rfl ?_
    repeat walk_at "lw"
    refine g_ff (decide_eq_false (fun z => nomatch z)) ?_
    repeat walk_at "lw"
    refine g_app hL7 (by omega) ?_
    have e8 : Fr [L] H7 (upd H7 L (.lst (us ++ [.ref a7]))) := Fr.mut (List.mem_singleton.mpr rfl) hL7 nofix_lst
    have hL8 : (upd H7 L (.lst (us ++ [.ref a7]))) L = some (.lst (us ++ [.ref a7])) := upd_same
    have hT8 := hT7.fr e8 pL
    have td8 := (tda_snoc4 (td5.fr e7) td7).fr e8
    have e58 : Fr [] H (upd H7 L (.lst (us ++ [.ref a7]))) := (e5.trans e7).over hL
    generalize upd H7 L (.lst (us ++ [.ref a7])) = H8 at *
    repeat walk_at "lw"
    rename_i H9 e9 hT9
    refine g_intB ?_
    repeat walk_at "lw"
    have dl : (ds ++ [d7]).length ≤ j7 := by rw [List.length_append, List.length_singleton]; omega
    cases c9 : isT ts j7 "sign" "," with
    | true =>
     have hn9 := g.g.next hj7 (by rw [(isT_s c9 hj7).1]; decide +kernel)
     refine ⟨⟨true, ds ++ [d7], us ++ [.ref a7], j7 + 1, _, rfl, hT9, e9.at hL8 (fun z => nomatch z), td8.fr e9, e58.trans e9, Nat.le_succ_of_le dl, hn9, fun res h => hlo res (.inr ⟨c6', .inr ⟨d7, j7, hl7, item_step c9 h⟩⟩)⟩, ?_⟩
     show ts.length - ((j7 : Int) + 1).toNat + 1 < ts.length - ((j : Int)).toNat + 1
     omega
    | false =>
     refine ⟨⟨false, ds ++ [d7], us ++ [.ref a7], j7, _, by rw [show (j7 : Int) + (if false = true then 1 else 0) = (j7 : Int) from by simp]; rfl, hT9, e9.at hL8 (fun z => nomatch z), td8.fr e9, e58.trans e9, dl, hj7, hlo _ (.inr ⟨c6', .inr ⟨d7, j7, hl7, .stop c9⟩⟩)⟩, ?_⟩
     show 0 < ts.length - ((j : Int)).toNat + 1
     omega
   ·refine g_gtup hp7 rfl ?_
    repeat walk_at "lw"
    exact ⟨le_of (by simp), fun pr hpr => q.er (.inl ⟨e, .inl ⟨e, hlo _ (.inr ⟨c6', .inl ⟨e, hl7, rfl⟩⟩), rfl⟩, rfl⟩) he7 (e5.trans e7) hpr⟩
 | false =>
  have hlo : SeqR ts (fun _ => TestR ts true) (fun _ => false) 0 (.ok (ds, j)) := hlo
  refine g_ff rfl ?_
  have hsq : SeqT ts (fun _ => TestR ts true) (fun _ => false) 0 (.ok (.tuple ds, j)) := .inr ⟨ds, j, hlo, rfl⟩
  repeat walk_at "lw"
  refine g_by (fun c9 => ?_) (fun c9 => ?_)
  ·repeat walk_at "lw"
   refine g_tupleL (SqL.of hL5) fun t ht => ?_
   have e7 : Fr [] H5 (upd H5 t (.tup us)) := Fr.new ht
   have h7 : SqT K (upd H5 t (.tup us)) t us := SqT.of upd_same
   have td7 := td5.fr e7
   generalize upd H5 t (.tup us) = H7 at *
   repeat walk_at "lw"
   exact ⟨le_of (by simp), fun pr hpr => q.ok (.inr ⟨_, j, hsq, Eq.mpr (if_pos c9) rfl⟩) hj5 (e5.trans e7) (Td.tup h7 td7) hpr⟩
  ·repeat walk_at "lw"
   exact ⟨le_of (by simp), fun pr hpr => q.er (.inr ⟨_, j, hsq, Eq.mpr (if_neg c9) rfl⟩) hj5 e5 hpr⟩
end
theorem g_thNeC {K : PySem.W.Frag} {H : Hp} {σ : L2.St} {p : Addr} {ts : List Th} {i0 : Nat} (i : Nat) {Q : VK} {x y : Str} (h0 : σ[i0]? = some (some (.ref p))) (hx : PyData.strOk x = true) (hy : PyData.strOk y = true) (h : ThsAt K H p ts) (g : LawTs ts) (hi : i < ts.length) (q : ∀ H', Fr [] H H' → ThsAt K H' p ts → Q (.bl (!isT ts i x y)) H') :
  tOp (uNe K) (tSl (rSlA K) (tOp (rIx K) (tVar i0) (tC (.int (i : Int)))) tNoPart (tPart (tC (.int 2)))) (tTup (tCons (tC (.str x)) (tCons (tC (.str y)) tNil))) σ H Q :=
 pr_sl _ (fun A q => g_c q) h0 h g hi fun a b H' e ha hb => ne_pr ha hb g hi hx hy (q H' e (h.fr e (fun z => nomatch z)))
def spLWhole (K : PySem.W.Frag) (R : List Th → Res → Prop) : Sp := fun vs H Q _ => ∃ (p : Addr) (ts : List Th), vs = [.ref p] ∧ ThsAt K H p ts ∧ LawTs ts ∧ LRd K (fun _ => R ts) H ts 0 Q
abbrev s__law_rule_read : Stmt := topS 65
theorem sc__law_rule_read : FnScope ["_law_things_here", "_law_args", "_law_spot", "_law_parts"] ["_law_things_here"] (defScope s__law_rule_read) := ⟨rfl, rfl, rfl, by decide +kernel, rfl, by decide +kernel, by decide +kernel⟩
abbrev s__law_question_read : Stmt := topS 66
theorem sc__law_question_read : FnScope ["_law_things_here", "_law_args", "_law_spot", "_law_parts"] ["_law_things_here"] (defScope s__law_question_read) := ⟨rfl, rfl, rfl, by decide +kernel, rfl, by decide +kernel, by decide +kernel⟩
section
variable {P : Program} {w : World} {K : PySem.W.Frag} {mg : Str → Option Value} {base : Heap} {f : Addr} {fd : FuncData}
theorem ok__law_rule_read (F : FnP K "_law_rule_read" s__law_rule_read f fd) (C__law_args_read : CalG P w K mg base 12 "_law_args_read" (spLArgs K)) (C__law_parts_read : CalG P w K mg base 64 "_law_parts_read" (spLParts K)) : FnG P w K mg base CX0 66 f fd ["_law_things_here"] (spLWhole K RuleR) := by
 refine okG F sc__law_rule_read (fun vs H Q E h => ?_) (fun cdv A outer s H vs Q E hr h => ?_)
 ·obtain ⟨p, ts, rfl, _⟩ := h
  rfl
 obtain ⟨p, ts, rfl, hT, g, q⟩ := h
 have h0 := g.g.ne
 refine ⟨_, PSs.nox (pss_cons (ps_if (pt_cmpR (kOp (K := K) (r := uNe) rfl (opu_ne hr.units)) (pe_ix (kIx (K := K) (r := rIx) rfl ix_seq) (pe_ix (kIx (K := K) (r := rIx) rfl ix_seq) (pv 0) pe_int (fun _ _ => rfl)) pe_int (fun _ _ => rfl)) pe_str (nomark _)) (pss_one (ps_ret (pe_tup (pa_cons pe_non (pa_cons pe_int pa_nil))))) pss_nil)
 (pss_cons (ps_if (pt_cmpR (kOp (K := K) (r := uNe) rfl (opu_ne hr.units)) (pe_slice (kSl (K := K) (r := rSlA) rfl sl_tupA) (pe_ix (kIx (K := K) (r := rIx) rfl ix_seq) (pv 0) pe_int (fun _ _ => rfl)) po_none (po_some pe_int)) (pe_tup (pa_cons pe_str (pa_cons pe_str pa_nil))) (nomark _)) (pss_one (ps_ret (pe_tup (pa_cons pe_non (pa_cons pe_int pa_nil))))) pss_nil)
 (pss_cons (ps_asg (pe_calG C__law_args_read hr rfl (pa_cons (pv 0) (pa_cons pe_int pa_nil))) (pg_tupK (K := K) rfl rfl (pgs_cons (pg_name (i := 1) sc__law_rule_read.nd rfl (by first | exact Or.inl rfl | exact Or.inr rfl)) (pgs_cons (pg_name (i := 2) sc__law_rule_read.nd rfl (by first | exact Or.inl rfl | exact Or.inr rfl)) pgs_nil))))
 (pss_cons (ps_if (PW.pt (pw_or (pt_cmpR opu_is (pv 1) pe_non (nomark _)) (pw_or1 (pt_cmpR (kOp (K := K) (r := uNe) rfl (opu_ne hr.units)) (pe_slice (kSl (K := K) (r := rSlA) rfl sl_tupA) (pe_ix (kIx (K := K) (r := rIx) rfl ix_seq) (pv 0) (pv 2) (fun _ _ => rfl)) po_none (po_some pe_int)) (pe_tup (pa_cons pe_str (pa_cons pe_str pa_nil))) (nomark _))))) (pss_one (ps_ret (pe_tup (pa_cons pe_non (pa_cons (pv 2) pa_nil))))) pss_nil)
 (pss_cons (ps_set (i := 3) sc__law_rule_read.nd rfl (.inl rfl) (pe_tup pa_nil))
 (pss_cons (ps_set (i := 2) sc__law_rule_read.nd rfl (.inl rfl) (pe_op (kOp (K := K) (r := uAdd) rfl opu_add) (pv 2) pe_int))
 (pss_cons (ps_if (pt_cmpR (kOp (K := K) (r := uEq) rfl (opu_eq hr.units)) (pe_slice (kSl (K := K) (r := rSlA) rfl sl_tupA) (pe_ix (kIx (K := K) (r := rIx) rfl ix_seq) (pv 0) (pv 2) (fun _ _ => rfl)) po_none (po_some pe_int)) (pe_tup (pa_cons pe_str (pa_cons pe_str pa_nil))) (nomark _)) (pss_one (ps_asg (pe_calG C__law_parts_read hr rfl (pa_cons (pv 0) (pa_cons (pe_op (kOp (K := K) (r := uAdd) rfl opu_add) (pv 2) pe_int) (pa_cons pe_bl (pa_cons pe_int pa_nil))))) (pg_tupK (K := K) rfl rfl (pgs_cons (pg_name (i := 3) sc__law_rule_read.nd rfl (by first | exact Or.inl rfl | exact Or.inr rfl)) (pgs_cons (pg_name (i := 2) sc__law_rule_read.nd rfl (by first | exact Or.inl rfl | exact Or.inr rfl)) pgs_nil))))) pss_nil)
 (pss_cons (ps_if (PW.pt (pw_or (pt_cmpR opu_is (pv 3) pe_non (nomark _)) (pw_or1 (pt_cmpR (kOp (K := K) (r := uNe) rfl (opu_ne hr.units)) (pe_ix (kIx (K := K) (r := rIx) rfl ix_seq) (pe_ix (kIx (K := K) (r := rIx) rfl ix_seq) (pv 0) (pv 2) (fun _ _ => rfl)) pe_int (fun _ _ => rfl)) pe_str (nomark _))))) (pss_one (ps_ret (pe_tup (pa_cons pe_non (pa_cons (pv 2) pa_nil))))) pss_nil)
 (pss_one (ps_ret (pe_tup (pa_cons (pe_tup (pa_cons (pe_ix (kIx (K := K) (r := rIx) rfl ix_seq) (pe_ix (kIx (K := K) (r := rIx) rfl ix_seq) (pv 0) pe_int (fun _ _ => rfl)) pe_int (fun _ _ => rfl)) (pa_cons (pv 1) (pa_cons (pv 3) pa_nil)))) (pa_cons (pv 2) pa_nil))))))))))))), rd_start (σ0 := [some (.ref p), none, none, none]) rfl ?_⟩
 repeat walk_at "lw"
 refine g_ixTh (i := 0) hT g h0 fun r0 hr0 => ?_
 repeat walk_at "lw"
 refine g_byN (fun c0 => ?_) (fun c0 => ?_)
 ·repeat walk_at "lw"
  exact ⟨le_of (by simp), fun pr hpr => q.er (j := 0) (by show RuleR ts _; unfold RuleR; rw [if_neg c0]) h0 Fr.refl hpr⟩
 have h1 := g.g.next h0 (by rw [c0]; decide +kernel)
 refine g_next ?_
 dsimp only
 refine g_seq (g_if (g_test (g_thNeC 1 rfl (by decide +kernel) (by decide +kernel) hT g h1 fun H1 e1 hT1 => ⟨_, rfl, ?_⟩)))
 cases c1 : isT ts 1 "sign" "(" with
 | false =>
  refine g_tt rfl ?_
  repeat walk_at "lw"
  exact ⟨le_of (by simp), fun pr hpr => q.er (j := 1) (by show RuleR ts _; unfold RuleR; rw [if_pos c0, if_neg (by rw [c1]; exact Bool.false_ne_true)]) h1 e1 hpr⟩
 | true =>
 have h2 := g.g.next h1 (by rw [(isT_s c1 h1).1]; decide +kernel)
 have lo : ∀ {r}, _ → RuleR ts r := fun h => Eq.mpr (if_pos c0) (Eq.mpr (if_pos c1) h)
 refine g_ff rfl ?_
 repeat walk_at "lw"
 refine ⟨p, ts, 2, rfl, hT1, g, h2, fun da ja aa pr7 H7 hla hja e7 tda hp7 => ?_, fun e pr7 H7 hl7 he7 e7 hp7 => ?_⟩
 rotate_left
 ·refine g_gtup hp7 rfl ?_
  repeat walk_at "lw"
  exact ⟨le_of (by simp), fun pr hpr => q.er (lo (.inl ⟨e, hl7, rfl⟩)) he7 (e1.trans e7) hpr⟩
 have lo2 : ∀ {r}, _ → RuleR ts r := fun h => lo (.inr ⟨da, ja, hla, h⟩)
 have hT7 := hT1.fr e7 (fun z => nomatch z)
 refine g_gtup hp7 rfl ?_
 repeat walk_at "lw"
 refine g_ff (decide_eq_false (fun z => nomatch z)) ?_
 repeat walk_at "lw"
 rename_i H8 e8 hT8
 cases c8 : isT ts ja "sign" ")" with
 | false =>
  refine g_tt rfl ?_
  repeat walk_at "lw"
  exact ⟨le_of (by simp), fun pr hpr => q.er (lo2 (Eq.mpr (if_neg (by rw [c8]; exact Bool.false_ne_true)) rfl)) hja ((e1.trans e7).trans e8) hpr⟩
 | true =>
 have lo3 : ∀ {r}, _ → RuleR ts r := fun h => lo2 (Eq.mpr (if_pos c8) h)
 have hn8 := g.g.next hja (by rw [(isT_s c8 hja).1]; decide +kernel)
 have tda8 := tda.fr e8
 have e18 := (e1.trans e7).trans e8
 refine g_ff rfl ?_
 repeat walk_at "lw"
 refine ⟨le_of (by simp), fun t0 ht0 => ?_⟩
 have e9 : Fr [] H8 (upd H8 t0 (.tup [])) := Fr.new ht0
 have s9 : SqT K (upd H8 t0 (.tup [])) t0 [] := SqT.of upd_same
 have hT9 := hT8.fr e9 (fun z => nomatch z)
 have tda9 := tda8.fr e9
 have e19 := e18.trans e9
 generalize upd H8 t0 (.tup []) = H9 at *
 repeat walk_at "lwif"
 try dsimp only
 with_reducible refine g_cutS (fun σ' H' => ThsAt K H' p ts ∧ Fr [] H H' ∧ Td K H' (.ref aa) da ∧ ((∃ (d2 : PyData) (a2 : Addr) (k : Nat), σ' = [some (.ref p), some (.ref aa), some (.int (k : Int)), some (.ref a2)] ∧ k < ts.length ∧ Td K H' (.ref a2) d2 ∧ ∀ res, EndR ts (.tuple [scD (tkn ts 0).v, da, d2]) k res → RuleR ts res) ∨
  (∃ e : Nat, σ' = [some (.ref p), some (.ref aa), some (.int (e : Int)), some .non] ∧ e < ts.length ∧ RuleR ts (.error e)))) (fun σ' H' h => ?_) (fun N k => ?_)
 ·obtain ⟨hTx, ex, tdx, ⟨d2, a2, k, rfl, hk, td2, hlo⟩ | ⟨e, rfl, he, hlo⟩⟩ := h
  ·repeat walk_at "lw"
   refine g_ff (decide_eq_false (fun z => nomatch z)) ?_
   repeat walk_at "lw"
   refine g_byN (fun c => ?_) (fun c => ?_)
   ·repeat walk_at "lw"
    exact ⟨le_of (by simp), fun pr hpr => q.er (hlo _ (by unfold EndR; rw [if_neg c])) hk ex hpr⟩
   ·repeat walk_at "lw"
    refine g_ixTh (i := 0) hTx g h0 fun r0 hr0 => ?_
    repeat walk_at "lw"
    refine ⟨le_of (by simp), fun t ht => ?_⟩
    have ey : Fr [] H' (upd H' t (.tup [(tkn ts 0).v, .ref aa, .ref a2])) := Fr.new ht
    repeat walk_at "lw"
    exact ⟨le_of (by simp), fun pr hpr => q.ok (hlo _ (by unfold EndR; rw [if_pos c])) hk (ex.trans ey) (.tup (SqT.of upd_same) (.cons (sc_td (g_sc g.g h0)) (.cons (tdx.fr ey) (.cons (td2.fr ey) .nil)))) hpr⟩
  ·repeat walk_at "lw"
   exact ⟨le_of (by simp), fun pr hpr => q.er hlo he ex hpr⟩
 ·refine g_if (g_test (g_thEq0 (i := ja + 1) rfl rfl (by decide +kernel) (by decide +kernel) hT9 g hn8 fun Hx ex hTx => ⟨_, rfl, ?_⟩))
  cases c9 : isT ts (ja + 1) "kept" "if" with
  | true =>
   have hn9 := g.g.next hn8 (by rw [(isT_s c9 hn8).1]; decide +kernel)
   refine g_tt rfl ?_
   repeat walk_at "lw"
   refine ⟨p, ts, ja + 1 + 1, true, 6, rfl, by decide, by decide, hTx, g, hn9, fun dp jp ap prp Hp' hlp hjp ep tdp hpp => ?_, fun e prp Hp' hlp hep ep hpp => ?_⟩
   ·refine g_gtup hpp rfl ?_
    repeat walk_at "lw"
    exact k _ _ ⟨hTx.fr ep (fun z => nomatch z), (e19.trans ex).trans ep, tda9.fr (ex.trans ep), .inl ⟨dp, ap, jp, rfl, hjp, tdp, fun res h => lo3 (Eq.mpr (if_pos c9) (.inr ⟨dp, jp, hlp, h⟩))⟩⟩
   ·refine g_gtup hpp rfl ?_
    repeat walk_at "lw"
    exact k _ _ ⟨hTx.fr ep (fun z => nomatch z), (e19.trans ex).trans ep, tda9.fr (ex.trans ep), .inr ⟨e, rfl, hep, lo3 (Eq.mpr (if_pos c9) (.inl ⟨e, hlp, rfl⟩))⟩⟩
  | false =>
   refine g_ff rfl ?_
   repeat walk_at "lw"
   exact k _ _ ⟨hTx, e19.trans ex, tda9.fr ex, .inl ⟨.tuple [], t0, ja + 1, rfl, hn8, .tup (ex.tup s9) .nil, fun res h => lo3 (Eq.mpr (if_neg (by rw [c9]; exact Bool.false_ne_true)) h)⟩⟩
theorem ok__law_question_read (F : FnP K "_law_question_read" s__law_question_read f fd) (C__law_args_read : CalG P w K mg base 12 "_law_args_read" (spLArgs K)) (C__law_parts_read : CalG P w K mg base 64 "_law_parts_read" (spLParts K)) : FnG P w K mg base CX0 66 f fd ["_law_things_here"] (spLWhole K QuestionR) := by
 refine okG F sc__law_question_read (fun vs H Q E h => ?_) (fun cdv A outer s H vs Q E hr h => ?_)
 ·obtain ⟨p, ts, rfl, _⟩ := h
  rfl
 obtain ⟨p, ts, rfl, hT, g, q⟩ := h
 have h0 := g.g.ne
 refine ⟨_, PSs.nox (pss_cons (ps_asg (pe_calG C__law_args_read hr rfl (pa_cons (pv 0) (pa_cons pe_int pa_nil))) (pg_tupK (K := K) rfl rfl (pgs_cons (pg_name (i := 1) sc__law_question_read.nd rfl (by first | exact Or.inl rfl | exact Or.inr rfl)) (pgs_cons (pg_name (i := 2) sc__law_question_read.nd rfl (by first | exact Or.inl rfl | exact Or.inr rfl)) pgs_nil))))
 (pss_cons (ps_if (PW.pt (pw_or (pt_cmpR opu_is (pv 1) pe_non (nomark _)) (pw_or1 (pt_cmpR (kOp (K := K) (r := uNe) rfl (opu_ne hr.units)) (pe_slice (kSl (K := K) (r := rSlA) rfl sl_tupA) (pe_ix (kIx (K := K) (r := rIx) rfl ix_seq) (pv 0) (pv 2) (fun _ _ => rfl)) po_none (po_some pe_int)) (pe_tup (pa_cons pe_str (pa_cons pe_str pa_nil))) (nomark _))))) (pss_one (ps_ret (pe_tup (pa_cons pe_non (pa_cons (pv 2) pa_nil))))) pss_nil)
 (pss_cons (ps_asg (pe_calG C__law_parts_read hr rfl (pa_cons (pv 0) (pa_cons (pe_op (kOp (K := K) (r := uAdd) rfl opu_add) (pv 2) pe_int) (pa_cons pe_bl (pa_cons pe_int pa_nil))))) (pg_tupK (K := K) rfl rfl (pgs_cons (pg_name (i := 3) sc__law_question_read.nd rfl (by first | exact Or.inl rfl | exact Or.inr rfl)) (pgs_cons (pg_name (i := 2) sc__law_question_read.nd rfl (by first | exact Or.inl rfl | exact Or.inr rfl)) pgs_nil))))
 (pss_cons (ps_if (PW.pt (pw_or (pt_cmpR opu_is (pv 3) pe_non (nomark _)) (pw_or1 (pt_cmpR (kOp (K := K) (r := uNe) rfl (opu_ne hr.units)) (pe_ix (kIx (K := K) (r := rIx) rfl ix_seq) (pe_ix (kIx (K := K) (r := rIx) rfl ix_seq) (pv 0) (pv 2) (fun _ _ => rfl)) pe_int (fun _ _ => rfl)) pe_str (nomark _))))) (pss_one (ps_ret (pe_tup (pa_cons pe_non (pa_cons (pv 2) pa_nil))))) pss_nil)
 (pss_one (ps_ret (pe_tup (pa_cons (pe_tup (pa_cons (pv 1) (pa_cons (pv 3) pa_nil))) (pa_cons (pv 2) pa_nil))))))))), rd_start (σ0 := [some (.ref p), none, none, none]) rfl ?_⟩
 repeat walk_at "lw"
 refine ⟨p, ts, 0, rfl, hT, g, h0, fun da ja aa pr7 H7 hla hja e7 tda hp7 => ?_, fun e pr7 H7 hl7 he7 e7 hp7 => ?_⟩
 rotate_left
 ·refine g_gtup hp7 rfl ?_
  repeat walk_at "lw"
  exact ⟨le_of (by simp), fun pr hpr => q.er (R := fun _ => QuestionR ts) (i := 0) (.inl ⟨e, hl7, rfl⟩) he7 e7 hpr⟩
 have lo2 : ∀ {r}, _ → QuestionR ts r := fun h => .inr ⟨da, ja, hla, h⟩
 have hT7 := hT.fr e7 (fun z => nomatch z)
 refine g_gtup hp7 rfl ?_
 repeat walk_at "lw"
 refine g_ff (decide_eq_false (fun z => nomatch z)) ?_
 repeat walk_at "lw"
 rename_i H8 e8 hT8
 cases c8 : isT ts ja "kept" "if" with
 | false =>
  refine g_tt rfl ?_
  repeat walk_at "lw"
  exact ⟨le_of (by simp), fun pr hpr => q.er (lo2 (Eq.mpr (if_neg (by rw [c8]; exact Bool.false_ne_true)) rfl)) hja (e7.trans e8) hpr⟩
 | true =>
 have lo3 : ∀ {r}, _ → QuestionR ts r := fun h => lo2 (Eq.mpr (if_pos c8) h)
 have hn8 := g.g.next hja (by rw [(isT_s c8 hja).1]; decide +kernel)
 refine g_ff rfl ?_
 repeat walk_at "lw"
 refine ⟨p, ts, ja + 1, false, 8, rfl, by decide, by decide, hT8, g, hn8, fun dp jp ap prp Hp' hlp hjp ep tdp hpp => ?_, fun e prp Hp' hlp hep ep hpp => ?_⟩
 ·have hTp := hT8.fr ep (fun z => nomatch z)
  refine g_gtup hpp rfl ?_
  repeat walk_at "lw"
  refine g_ff (decide_eq_false (fun z => nomatch z)) ?_
  repeat walk_at "lw"
  refine g_byN (fun c => ?_) (fun c => ?_)
  ·repeat walk_at "lw"
   exact ⟨le_of (by simp), fun pr hpr => q.er (lo3 (.inr ⟨dp, jp, hlp, Eq.mpr (if_neg c) rfl⟩)) hjp ((e7.trans e8).trans ep) hpr⟩
  ·repeat walk_at "lw"
   refine ⟨le_of (by simp), fun t ht => ?_⟩
   have ey : Fr [] Hp' (upd Hp' t (.tup [.ref aa, .ref ap])) := Fr.new ht
   repeat walk_at "lw"
   exact ⟨le_of (by simp), fun pr hpr => q.ok (lo3 (.inr ⟨dp, jp, hlp, Eq.mpr (if_pos c) rfl⟩)) hjp (((e7.trans e8).trans ep).trans ey) (.tup (SqT.of upd_same) (.cons (tda.fr ((e8.trans ep).trans ey)) (.cons (tdp.fr ey) .nil))) hpr⟩
 ·refine g_gtup hpp rfl ?_
  repeat walk_at "lw"
  exact ⟨le_of (by simp), fun pr hpr => q.er (lo3 (.inl ⟨e, hlp, rfl⟩)) hep ((e7.trans e8).trans ep) hpr⟩
end
theorem str_tx {n : Nat} {z : Str} (h : Tx n z) : PyData.strOk z = true := by
 unfold PyData.strOk
 rw [← Array.all_toList, List.all_eq_true]
 exact fun c hc => decide_eq_true (h.ok c hc)
theorem runT_ok {z s : Str} {v : V} (hz : Tx 9000 z) (h : runT z = some (s, v)) : PyData.strOk s = true ∧ goodV v := by
 unfold runT at h
 repeat' (split at h)
 all_goals first
  | (cases h; done)
  | (cases h; exact ⟨by decide +kernel, hz⟩)
  | (cases h; exact ⟨by decide +kernel, trivial⟩)
  | (rename_i c; obtain ⟨i, hi, hb⟩ := num_int c; rw [hi] at h; cases h; exact ⟨by decide +kernel, hb⟩)
theorem nextT_ok {z : Str} {n m : Nat} {l : Option Th} {t : Th} (hz : Tx 9000 z) (h : nextT z n l = some (t, m)) : PyData.strOk t.s = true ∧ goodV t.v := by
 unfold nextT at h
 split at h
 ·cases h
 ·rename_i c hc
  split at h
  ·cases hw : wordT z n with
   | none => rw [hw] at h; cases h
   | some q =>
    rw [hw] at h; cases h
    refine ⟨show PyData.strOk "value" = true by decide +kernel, ?_⟩
    unfold wordT at hw
    split at hw
    ·cases hw
    ·split at hw
     ·cases hw; exact hz.cut
     ·cases hw
  ·split at h
   ·cases hw : runT (cutS z (some (n : Int)) (some ((runE z.cps.toList (n + 1) : Nat) : Int))) with
    | none => rw [hw] at h; cases h
    | some q => rw [hw] at h; cases h; exact runT_ok hz.cut hw
   ·split at h
    ·cases h; exact ⟨show PyData.strOk "sign" = true by decide +kernel, hz.cut⟩
    ·split at h
     ·cases h
      refine ⟨show PyData.strOk "sign" = true by decide +kernel, ⟨show 1 ≤ 9000 by decide, fun d hd => ?_⟩⟩
      have : d = c := by
       have e : (⟨#[c]⟩ : Str).cps.toList = [c] := rfl
       rw [e] at hd
       exact List.mem_singleton.mp hd
      rw [this]
      exact hz.ok c (List.mem_of_getElem? hc)
     ·cases h
theorem Cuts.okT {z : Str} {n : Nat} {ts ts' : List Th} {r : Except Nat (List Th)} (hz : Tx 9000 z) (h : Cuts z n ts r) (e : r = .ok ts') (hs : ∀ t ∈ ts, PyData.strOk t.s = true ∧ goodV t.v) : ∀ t ∈ ts', PyData.strOk t.s = true ∧ goodV t.v := by
 induction h with
 | stop l =>
  cases e
  intro t ht
  rcases List.mem_append.mp ht with ht | ht
  ·exact hs t ht
  ·rw [List.mem_singleton.mp ht]
   exact ⟨show PyData.strOk "end" = true by decide +kernel, ⟨by show Str.length "" ≤ 9000; decide +kernel, fun c hc => by
    have e : (("" : Str).cps.toList) = [] := by decide +kernel
    have hc2 : c ∈ ("" : Str).cps.toList := hc
    rw [e] at hc2
    cases hc2⟩⟩
 | skip a b c ih => exact ih e hs
 | bad a b c => cases e
 | step a b c d ih =>
  refine ih e fun t ht => ?_
  rcases List.mem_append.mp ht with ht | ht
  ·exact hs t ht
  ·rw [List.mem_singleton.mp ht]; exact nextT_ok hz c
theorem goodV_ok {v : V} (h : goodV v) : okV v = true := by
 cases v with
 | str a => exact str_tx h
 | _ => first | rfl | cases h
theorem Cuts.lawTs {z : Str} {ts : List Th} (h : Cuts z 0 [] (.ok ts)) (hz : Tx 8999 z) : LawTs ts :=
 ⟨h.goodTs hz.len, fun t ht => by
  have k := Cuts.okT (hz.mono (by omega)) h rfl (fun _ z => nomatch z) t ht
  exact ⟨k.1, goodV_ok k.2⟩⟩
def whichR (i : Int) : List Th → Res → Prop := if i = 0 then RuleR else if i = 1 then QuestionR else TestsR
def spLDue (K : PySem.W.Frag) : Sp := fun vs H Q _ => ∃ (z : Str) (wh : Int), vs = [.str z, .int wh] ∧ Tx 8999 z ∧ (∀ d a pr H', ReadR z (whichR wh) (.ok d) → Fr [] H H' → Td K H' (.ref a) d → SqT K H' pr [.ref a, .non] → Q (.ref pr) H') ∧ ∀ n pr H', ReadR z (whichR wh) (.error n) → Fr [] H H' → SqT K H' pr [.non, .int ((n : Nat) : Int)] → Q (.ref pr) H'
abbrev s__law_read_due : Stmt := topS 68
theorem sc__law_read_due : FnScope ["_law_text", "_law_which", "_law_things_here", "_law_wrong", "_law_found", "_law_spot"] ["_law_text", "_law_which"] (defScope s__law_read_due) := ⟨rfl, rfl, rfl, by decide +kernel, rfl, by decide +kernel, by decide +kernel⟩
section
variable {P : Program} {w : World} {K : PySem.W.Frag} {mg : Str → Option Value} {base : Heap} {f : Addr} {fd : FuncData}
theorem ok__law_read_due (F : FnP K "_law_read_due" s__law_read_due f fd) (C__law_things : CalG P w K mg base 28 "_law_things" (spLThings K)) (C__law_rule_read : CalG P w K mg base 66 "_law_rule_read" (spLWhole K RuleR)) (C__law_question_read : CalG P w K mg base 66 "_law_question_read" (spLWhole K QuestionR))
  (C__law_tests_read : CalG P w K mg base 64 "_law_tests_read" (spLTests K)) : FnG P w K mg base CX0 68 f fd ["_law_text", "_law_which"] (spLDue K) := by
 refine okG F sc__law_read_due (fun vs H Q E h => ?_) (fun cdv A outer s H vs Q E hr h => ?_)
 ·obtain ⟨z, wh, rfl, _⟩ := h
  rfl
 obtain ⟨z, wh, rfl, hz, q, qe⟩ := h
 refine ⟨_, PSs.nox (pss_cons (ps_asg (pe_calG C__law_things hr rfl (pa_cons (pv 0) pa_nil)) (pg_tupK (K := K) rfl rfl (pgs_cons (pg_name (i := 2) sc__law_read_due.nd rfl (by first | exact Or.inl rfl | exact Or.inr rfl)) (pgs_cons (pg_name (i := 3) sc__law_read_due.nd rfl (by first | exact Or.inl rfl | exact Or.inr rfl)) pgs_nil))))
 (pss_cons (ps_if (pt_cmpR opu_isNot (pv 3) pe_non (nomark _)) (pss_one (ps_ret (pe_tup (pa_cons pe_non (pa_cons (pv 3) pa_nil))))) pss_nil)
 (pss_cons (ps_asg (pe_tup (pa_cons pe_non (pa_cons pe_int pa_nil))) (pg_tupK (K := K) rfl rfl (pgs_cons (pg_name (i := 4) sc__law_read_due.nd rfl (by first | exact Or.inl rfl | exact Or.inr rfl)) (pgs_cons (pg_name (i := 5) sc__law_read_due.nd rfl (by first | exact Or.inl rfl | exact Or.inr rfl)) pgs_nil))))
 (pss_cons (ps_if (pt_cmpR (kOp (K := K) (r := uEq) rfl (opu_eq hr.units)) (pv 1) pe_int (nomark _)) (pss_one (ps_asg (pe_calG C__law_rule_read hr rfl (pa_cons (pv 2) pa_nil)) (pg_tupK (K := K) rfl rfl (pgs_cons (pg_name (i := 4) sc__law_read_due.nd rfl (by first | exact Or.inl rfl | exact Or.inr rfl)) (pgs_cons (pg_name (i := 5) sc__law_read_due.nd rfl (by first | exact Or.inl rfl | exact Or.inr rfl)) pgs_nil))))) (pss_one (ps_if (pt_cmpR (kOp (K := K) (r := uEq) rfl (opu_eq hr.units)) (pv 1) pe_int (nomark _)) (pss_one (ps_asg (pe_calG C__law_question_read hr rfl (pa_cons (pv 2) pa_nil)) (pg_tupK (K := K) rfl rfl (pgs_cons (pg_name (i := 4) sc__law_read_due.nd rfl (by first | exact Or.inl rfl | exact Or.inr rfl)) (pgs_cons (pg_name (i := 5) sc__law_read_due.nd rfl (by first | exact Or.inl rfl | exact Or.inr rfl)) pgs_nil))))) (pss_one (ps_if (pt_cmpR (kOp (K := K) (r := uEq) rfl (opu_eq hr.units)) (pe_ix (kIx (K := K) (r := rIx) rfl ix_seq) (pe_ix (kIx (K := K) (r := rIx) rfl ix_seq) (pv 2) pe_int (fun _ _ => rfl)) pe_int (fun _ _ => rfl)) pe_str (nomark _)) (pss_one (ps_set (i := 4) sc__law_read_due.nd rfl (.inl rfl) (pe_tup pa_nil))) (pss_one (ps_asg (pe_calG C__law_tests_read hr rfl (pa_cons (pv 2) pa_nil)) (pg_tupK (K := K) rfl rfl (pgs_cons (pg_name (i := 4) sc__law_read_due.nd rfl (by first | exact Or.inl rfl | exact Or.inr rfl)) (pgs_cons (pg_name (i := 5) sc__law_read_due.nd rfl (by first | exact Or.inl rfl | exact Or.inr rfl)) pgs_nil))))))))))
 (pss_one (ps_ret (pe_tup (pa_cons (pv 4) (pa_cons (pe_ifExp (pt_cmpR opu_isNot (pv 4) pe_non (nomark _)) pe_non (pe_ix (kIx (K := K) (r := rIx) rfl ix_seq) (pe_ix (kIx (K := K) (r := rIx) rfl ix_seq) (pv 2) (pv 5) (fun _ _ => rfl)) pe_int (fun _ _ => rfl))) pa_nil))))))))), rd_start (σ0 := [some (.str z), some (.int wh), none, none, none, none]) rfl ?_⟩
 repeat walk_at "lw"
 refine ⟨z, rfl, hz.mono (by omega), fun ts p pr H1 hc e1 hT1 hpr => ?_, fun n u pr H1 hc e1 hpr => ?_⟩
 rotate_left
 ·refine g_gtup hpr rfl ?_
  repeat walk_at "lw"
  refine g_tt (by rw [decide_eq_false (fun z => nomatch z)]; rfl) ?_
  repeat walk_at "lw"
  refine ⟨le_of (by simp), fun pr2 hpr2 => qe n pr2 _ (.inl ⟨n, hc, rfl⟩) (e1.trans (Fr.new hpr2)) (SqT.of upd_same)⟩
 have g := hc.lawTs hz
 have h0 := g.g.ne
 refine g_gtup hpr rfl ?_
 repeat walk_at "lw"
 refine ⟨le_of (by simp), fun p2 hp2 => ?_⟩
 have e2 : Fr [] H1 (upd H1 p2 (.tup [.non, .int 0])) := Fr.new hp2
 have hT2 := hT1.fr e2 (fun z => nomatch z)
 refine g_gtup (SqT.of upd_same) rfl ?_
 generalize upd H1 p2 (.tup [.non, .int 0]) = H2 at *
 repeat walk_at "lwif"
 try dsimp only
 with_reducible refine g_cutS (fun σ' H' => ThsAt K H' p ts ∧ Fr [] H H' ∧ ((∃ (d : PyData) (a : Addr) (k : Nat) (x : V), σ' = [some (.str z), some (.int wh), some (.ref p), some .non, some (.ref a), some (.int (k : Int))] ∧ Td K H' (.ref a) d ∧ whichR wh ts (.ok (d, k))) ∨
  (∃ e : Nat, σ' = [some (.str z), some (.int wh), some (.ref p), some .non, some .non, some (.int (e : Int))] ∧ e < ts.length ∧ whichR wh ts (.error e)))) (fun σ' H' h => ?_) (fun N k => ?_)
 ·obtain ⟨hTx, ex, ⟨d, a, k, x, rfl, td, hw⟩ | ⟨e, rfl, he, hw⟩⟩ := h
  ·repeat walk_at "lw"
   refine g_tt (by rw [decide_eq_false (fun z => nomatch z)]; rfl) ?_
   repeat walk_at "lw"
   refine ⟨le_of (by simp), fun pr2 hpr2 => ?_⟩
   have ey := Fr.new (M := []) (o := .tup [.ref a, .non]) hpr2
   exact q d a pr2 _ (.inr ⟨ts, hc, .inl ⟨d, k, hw, rfl⟩⟩) (ex.trans ey) (td.fr ey) (SqT.of upd_same)
  ·repeat walk_at "lw"
   exact ⟨le_of (by simp), fun pr2 hpr2 => qe _ pr2 _ (.inr ⟨ts, hc, .inr ⟨e, hw, rfl⟩⟩) (ex.trans (Fr.new hpr2)) (SqT.of upd_same)⟩
 ·repeat walk_at "lw"
  refine g_by (fun c0 => ?_) (fun c0 => ?_)
  ·have ew : whichR wh = RuleR := if_pos c0
   rw [ew] at k
   repeat walk_at "lw"
   refine ⟨p, ts, rfl, hT2, g, fun d7 j7 a7 pr7 H7 hl7 hj7 e7 td7 hp7 => ?_, fun e pr7 H7 hl7 he7 e7 hp7 => ?_⟩
   ·refine g_gtup hp7 rfl ?_
    repeat walk_at "lw"
    exact k _ _ ⟨hT2.fr e7 (fun z => nomatch z), (e1.trans e2).trans e7, .inl ⟨d7, a7, j7, .non, rfl, td7, hl7⟩⟩
   ·refine g_gtup hp7 rfl ?_
    repeat walk_at "lw"
    exact k _ _ ⟨hT2.fr e7 (fun z => nomatch z), (e1.trans e2).trans e7, .inr ⟨e, rfl, he7, hl7⟩⟩
  ·repeat walk_at "lw"
   refine g_by (fun c1 => ?_) (fun c1 => ?_)
   ·have ew : whichR wh = QuestionR := (if_neg c0).trans (if_pos c1)
    rw [ew] at k
    repeat walk_at "lw"
    refine ⟨p, ts, rfl, hT2, g, fun d7 j7 a7 pr7 H7 hl7 hj7 e7 td7 hp7 => ?_, fun e pr7 H7 hl7 he7 e7 hp7 => ?_⟩
    ·refine g_gtup hp7 rfl ?_
     repeat walk_at "lw"
     exact k _ _ ⟨hT2.fr e7 (fun z => nomatch z), (e1.trans e2).trans e7, .inl ⟨d7, a7, j7, .non, rfl, td7, hl7⟩⟩
    ·refine g_gtup hp7 rfl ?_
     repeat walk_at "lw"
     exact k _ _ ⟨hT2.fr e7 (fun z => nomatch z), (e1.trans e2).trans e7, .inr ⟨e, rfl, he7, hl7⟩⟩
   ·have ew : whichR wh = TestsR := (if_neg c0).trans (if_neg c1)
    rw [ew] at k
    repeat walk_at "lw"
    refine g_ixTh (i := 0) hT2 g h0 fun r0 hr0 => ?_
    repeat walk_at "lw"
    refine g_by (fun c2 => ?_) (fun c2 => ?_)
    ·repeat walk_at "lw"
     refine ⟨le_of (by simp), fun t0 ht0 => ?_⟩
     have e7 : Fr [] H2 (upd H2 t0 (.tup [])) := Fr.new ht0
     repeat walk_at "lw"
     exact k _ _ ⟨hT2.fr e7 (fun z => nomatch z), (e1.trans e2).trans e7, .inl ⟨.tuple [], t0, 0, .non, rfl, .tup (SqT.of upd_same) .nil, Eq.mpr (if_pos c2) rfl⟩⟩
    ·repeat walk_at "lw"
     refine ⟨p, ts, rfl, hT2, g, fun d7 j7 a7 pr7 H7 hl7 hj7 e7 td7 hp7 => ?_, fun e pr7 H7 hl7 he7 e7 hp7 => ?_⟩
     ·refine g_gtup hp7 rfl ?_
      repeat walk_at "lw"
      exact k _ _ ⟨hT2.fr e7 (fun z => nomatch z), (e1.trans e2).trans e7, .inl ⟨d7, a7, j7, .non, rfl, td7, Eq.mpr (if_neg c2) hl7⟩⟩
     ·refine g_gtup hp7 rfl ?_
      repeat walk_at "lw"
      exact k _ _ ⟨hT2.fr e7 (fun z => nomatch z), (e1.trans e2).trans e7, .inr ⟨e, rfl, he7, Eq.mpr (if_neg c2) hl7⟩⟩
end
theorem g_mkO {C : Addr} {sp : Sp} {ta : TA} {Qx : XK} {σ : L2.St} {H : Hp} (q : ta σ H fun vs H1 => vs.length ≤ 1000 ∧ ∀ a, H1 a = none → sp (.ref a :: (vs ++ [])) (upd H1 a (exo a C none))
 (fun v H2 => v = .non ∧ ∃ (d : Addr) (fs : List (Str × V)), H2 a = some (exo a C (some d)) ∧ H2 d = some (exd d fs) ∧ H1 d = none ∧ Qx (.ref C) (some d) (upd (del H2 a) d (.xd fs))) (fun _ _ _ => False)) : L2.tMkO C sp [] ta σ H Qx := q
theorem ok_LoreError_iniH {P : Program} {w : World} {K : PySem.W.Frag} {mg : Str → Option Value} {base : Heap} {f : Addr} {fd : FuncData} (F : FnM K "LoreError.__init__" s_LoreError_ini f fd) (B : BiX mg) : L2H.FnH P w K mg base CX0 1 f fd ["self", "word"] (spL K) := by
 refine okH F sc_LoreError_ini (fun vs H Q E h => ?_) (fun cdv A outer s H vs Q E p hc hr h => ?_)
 ·obtain ⟨a, C, y, rfl, _⟩ := h
  rfl
 obtain ⟨a, C, y, rfl, ⟨oe, hn, ha⟩, q⟩ := h
 refine ⟨_, (pss_cons (ps_expr (kVeI (K := K) rfl (pe_veinit (by rfl) B.b_ValueError (find_VE _) (pa_cons (pv 0) (pa_cons (pv 1) pa_nil)))))
 (pss_one (kOst (K := K) rfl (ps_ost (pv 0) (pv 1))))), rd_start (σ0 := [some (.ref a), some y]) rfl ?_⟩
 repeat walk_at "rd"
 refine ⟨a, C, [y], rfl, Nat.le_of_ble_eq_true rfl, oe, ha, ?_⟩
 repeat walk_at "rd"
 refine ⟨a, C, rfl, oe, hn, .inl ⟨ha, fun d hd hne => ?_⟩⟩
 exact q d _ hd hne (Fr.exd hd ha) upd_same (by rw [upd_ne hne]; exact upd_same)
theorem ok_BadText_iniH {P : Program} {w : World} {K : PySem.W.Frag} {mg : Str → Option Value} {base : Heap} {f a_TextError : Addr} {fd : FuncData} (F : FnM K "BadText.__init__" s_BadText_ini f fd) (H_TextError : ClH P w K mg base 1 "TextError" a_TextError (spL K)) : L2H.FnH P w K mg base CX0 2 f fd ["self", "at"] (spI1 K "badtext" "at") := by
 refine okH F sc_BadText_ini (fun vs H Q E h => ?_) (fun cdv A outer s H vs Q E p hc hr h => ?_)
 ·obtain ⟨a, C, y, rfl, _⟩ := h
  rfl
 obtain ⟨a, C, y, rfl, ⟨oe, hn, ha⟩, hf, q⟩ := h
 refine ⟨_, (pss_cons (ps_expr (pe_finiH H_TextError hc hr rfl (pa_cons (pv 0) (pa_cons pe_str pa_nil))))
 (pss_one (kOst (K := K) rfl (ps_ost (pv 0) (pv 1))))), rd_start (σ0 := [some (.ref a), some y]) rfl ?_⟩
 repeat walk_at "rd"
 refine ⟨a, C, _, rfl, ⟨oe, hn, ha⟩, fun d H1 hd hne fr e1 e2 => ?_⟩
 repeat walk_at "rd"
 refine ⟨a, C, rfl, oe, hf, .inr ⟨d, _, e1, e2, by decide, ?_⟩⟩
 exact q d _ hd hne (fr.over hd) (by rw [upd_ne (Ne.symm hne)]; exact e1) upd_same
inductive PapR : List Str → Nat → List PyData → Except Nat (List PyData) → Prop
 | done {p : Nat} {ds : List PyData} : PapR [] p ds (.ok ds)
 | bad {y : Str} {ys : List Str} {p n : Nat} {ds : List PyData} : ReadR y RuleR (.error n) → PapR (y :: ys) p ds (.error (p + n))
 | step {y : Str} {ys : List Str} {p : Nat} {ds : List PyData} {d : PyData} {r : Except Nat (List PyData)} : ReadR y RuleR (.ok d) → PapR ys (p + (y.length + 1)) (ds ++ [d]) r → PapR (y :: ys) p ds r
def linesS (z : Str) : List Str := if z = "" then [] else Txt.split z "\n"
def spPaperX (K : PySem.W.Frag) (B : Addr) : Sp := fun vs H Q E => ∃ z : Str, vs = [.str z] ∧ Tx 9000 z ∧ (linesS z).length ≤ 100 ∧ (∀ y ∈ linesS z, Tx 8999 y) ∧ (∀ ds v H', PapR (linesS z) 0 [] (.ok ds) → Fr [] H H' → Td K H' v (.tuple ds) → Q v H') ∧
 ∀ n dd H', PapR (linesS z) 0 [] (.error n) → Fr [] H H' → H' dd = some (.xd (badAt n)) → E (.ref B) (some dd) H'
structure BiP (mg : Str → Option Value) : Prop where
 b_len : mg "len" = none
 b_tuple : mg "tuple" = none
abbrev s_read_paper : Stmt := topS 41
theorem sc_read_paper : FnScope ["text", "found", "place", "line", "e"] ["text"] (defScope s_read_paper) := ⟨rfl, rfl, rfl, by decide +kernel, rfl, by decide +kernel, by decide +kernel⟩
section
variable {P : Program} {w : World} {K : PySem.W.Frag} {mg : Str → Option Value} {base : Heap} {a_BadText : Addr} {f : Addr} {fd : FuncData}
theorem ok_read_paper (F : FnP K "read_paper" s_read_paper f fd) (B : BiP mg) (C_read_rule : CalXN P w K mg base 56 "read_rule" (spRead K a_BadText RuleR)) (G_BadText : ClG P w K mg base 2 "BadText" a_BadText (spI1 K "badtext" "at")) (H_BadText : ClH P w K mg base 2 "BadText" a_BadText (spI1 K "badtext" "at"))
  (n1 : PySem.W.findIn K (.ref a_BadText) "word" = some none) (n2 : PySem.W.findIn K (.ref a_BadText) "at" = some none) (x1 : PySem.W.exmOne K (.ref a_BadText) (.ref a_BadText) = some true) : FnG P w K mg base (L2.CX P w) 58 f fd ["text"] (spPaperX K a_BadText) := by
 refine okX F sc_read_paper (fun vs H Q E h => ?_) (fun cdv A outer s H vs Q E hr h tk => ?_)
 ·obtain ⟨z, rfl, _⟩ := h
  rfl
 obtain ⟨z, rfl, tz, hl1, hln, q, qe⟩ := h
 refine ⟨_, (pss_cons (ps_set (i := 1) sc_read_paper.nd rfl (.inl rfl) (pe_lst pa_nil))
 (pss_cons (ps_set (i := 2) sc_read_paper.nd rfl (.inl rfl) pe_int)
 (pss_cons (ps_for (L2.passes_of rfl) rfl (pi_listK (K := K) rfl (pe_ifExp (pt_cmpR (kOp (K := K) (r := uNe) rfl (opu_ne hr.units)) (pv 0) pe_str (nomark _)) (kBM (K := K) rfl (pe_bm PySem.F.plainAttrs_str PySem.F.slot_str_split PySem.F.type_str_split mt_split (pv 0) (pa_cons pe_str pa_nil))) (pe_lst pa_nil))) (pg_name (i := 3) sc_read_paper.nd rfl (by first | exact Or.inl rfl | exact Or.inr rfl)) (pss_cons (ps_tryX (K := K) (i := 4) (Wout := fun cls d _ H => E cls d H) rfl rfl rfl sc_read_paper.nd rfl rfl ⟨rfl, by decide, .inl G_BadText.m⟩ tk (fun W pn xe tk _ => by exact (pss_one (ps_expr (kBM (K := K) rfl (pe_bm PySem.F.plainAttrs_list PySem.F.slot_list_append PySem.F.type_list_append mt_append (pv 1) (pa_cons (pe_calXN C_read_rule tk hr rfl (pa_cons (pv 3) pa_nil)) pa_nil)))))) (fun a oe cls d pn xe hz hf tk hc => by exact (pss_one (ps_rsHN hc tk (pmk_mkH H_BadText hc (L2H.roomH_mark hr.rm _) rfl (pa_cons (pe_op (kOp (K := K) (r := uAdd) rfl opu_add) (pv 2) (kXs (K := K) rfl (pe_xsE "at" hz hf (pv 4)))) pa_nil))))))
 (pss_one (ps_aug (i := 2) sc_read_paper.nd rfl (.inl rfl) (pe_op (kOp (K := K) (r := uAdd) rfl opu_add) (pe_callB (kCall (K := K) (r := uLen) rfl callu_len) (by rfl) B.b_len (by decide +kernel) (pa_cons (pv 3) pa_nil)) pe_int) ip_add))))
 (pss_one (ps_ret (pe_callTy (kCall (K := K) (r := uTuple) rfl callu_tuple) (by rfl) B.b_tuple (by decide +kernel) (pa_cons (pv 1) pa_nil))))))), rd_start (σ0 := [some (.str z), none, none, none, none]) rfl ?_⟩
 repeat walk_at "rd"
 refine ⟨le_of (by simp), fun D hD => ?_⟩
 have hD0 : (upd H D (.lst [])) D = some (.lst []) := upd_same
 have e0 : Fr [] H (upd H D (.lst [])) := Fr.new hD
 generalize upd H D (.lst []) = H0 at *
 repeat walk_at "rd"
 have hDH : H D = none := hD
 obtain ⟨zs, ezs⟩ : ∃ zs, zs = linesS z := ⟨_, rfl⟩
 rw [← ezs] at hl1 hln q qe
 have loop : ∀ (L : Addr) (H1 : Hp), L ≠ D → H1 L = some (.lst (zs.map V.str)) → Fr [] H0 H1 → ∃ Pv : Nat → L2.St → Hp → Prop, Pv 0 [some (.str z), some (.ref D), some (.int 0), none, none] H1 ∧ (∀ i σ H', Pv i σ H' → SqL K H' L (zs.map V.str)) ∧
   (∀ i σ H', Pv i σ H' → ∃ (pl : Nat) (z3 z4 : Option V) (ys : List V) (ds : List PyData), σ = [some (.str z), some (.ref D), some (.int (pl : Int)), z3, z4] ∧ pl ≤ 9001 * i ∧ H' D = some (.lst ys) ∧ TdAll K H' ys ds ∧ ys.length = i ∧ Fr [] H H' ∧ ∀ r, PapR (zs.drop i) pl ds r → PapR zs 0 [] r) ∧
   (∀ i (pl : Nat) (z3 z4 : Option V) (ys : List V) (ds : List PyData) (H' : Hp), pl ≤ 9001 * i → H' L = some (.lst (zs.map V.str)) → H' D = some (.lst ys) → TdAll K H' ys ds → ys.length = i → Fr [] H H' → (∀ r, PapR (zs.drop i) pl ds r → PapR zs 0 [] r) → Pv i [some (.str z), some (.ref D), some (.int (pl : Int)), z3, z4] H') ∧ (∀ i σ H', Pv i σ H' → H' L = some (.lst (zs.map V.str))) :=
  fun L H1 hLD hL e1 => ⟨fun i σ H' => H' L = some (.lst (zs.map V.str)) ∧ ∃ (pl : Nat) (z3 z4 : Option V) (ys : List V) (ds : List PyData), σ = [some (.str z), some (.ref D), some (.int (pl : Int)), z3, z4] ∧ pl ≤ 9001 * i ∧ H' D = some (.lst ys) ∧ TdAll K H' ys ds ∧ ys.length = i ∧ Fr [] H H' ∧ ∀ r, PapR (zs.drop i) pl ds r → PapR zs 0 [] r,
   ⟨hL, 0, none, none, [], [], rfl, Nat.zero_le _, e1.at hD0 (fun z => nomatch z), .nil, rfl, e0.trans e1, fun r h => h⟩, fun i σ H' h => SqL.of h.1, fun i σ H' h => h.2, fun i pl z3 z4 ys ds H' h1 h2 h3 h4 h5 h6 h7 => ⟨h2, pl, z3, z4, ys, ds, rfl, h1, h3, h4, h5, h6, h7⟩, fun i σ H' h => h.1⟩
 refine g_byN (fun c => ?_) (fun c => ?_)
 ·have hs : Txt.split z "\n" = zs := by rw [ezs]; unfold linesS; rw [if_neg c]
  have ltz := tz.len
  repeat walk_at "rd"
  refine ⟨z, "\n", rfl, rfl, by decide +kernel, le_of (by omega), fun L hL => ?_⟩
  rw [hs]
  have hLD : L ≠ D := fun e => by rw [e, hD0] at hL; cases hL
  have eL : Fr [] H0 (upd H0 L (.lst (zs.map V.str))) := Fr.new hL
  obtain ⟨Pv, p0, p1, p2, p3, p4⟩ := loop L _ hLD upd_same eL
  refine ⟨L, rfl, ⟨_, SqL.of upd_same⟩, for_list (xs := zs.map V.str) Pv p0 (fun i σ H' _ h => p1 i σ H' h) (fun i x σ H1 hx h => ?_) (fun σ H1 h => ?_)⟩
  ·have hL1 := p4 _ _ _ h
   obtain ⟨pl, z3, z4, ys, ds, rfl, hpl, hD1, hty, hyl, e1, hlo⟩ := p2 _ _ _ h
   rw [List.getElem?_map] at hx
   cases ey : zs[i]? with
   | none => rw [ey] at hx; cases hx
   | some y =>
    rw [ey] at hx
    cases hx
    have ty := hln y (List.mem_of_getElem? ey)
    have hi : i < zs.length := (List.getElem?_eq_some_iff.mp ey).1
    have ed : zs.drop i = y :: zs.drop (i + 1) := by
     rw [List.drop_eq_getElem_cons hi]
     congr 1
     exact (List.getElem?_eq_some_iff.mp ey).2
    have lty := ty.len
    repeat walk_at "rd"
    refine ⟨y, rfl, ty, fun d v H2 hm e2 tv => ?_, fun n dd H2 hm e2 hd => ?_⟩
    ·have hD2 := e2.at hD1 (fun z => nomatch z)
     refine ⟨D, ys, _, rfl, rfl, hD2, lt_of (by omega), ?_⟩
     have eD : Fr [D] H2 (upd H2 D (.lst (ys ++ [v]))) := Fr.mut (List.mem_singleton.mpr rfl) hD2 nofix_lst
     have ht3 : TdAll K (upd H2 D (.lst (ys ++ [v]))) (ys ++ [v]) (ds ++ [d]) := (tda_snoc4 (hty.fr e2) tv).fr eD
     have hL3 : (upd H2 D (.lst (ys ++ [v]))) L = some (.lst (zs.map V.str)) := by rw [upd_ne hLD]; exact e2.at hL1 (fun z => nomatch z)
     have e3 : Fr [] H (upd H2 D (.lst (ys ++ [v]))) := (e1.trans e2).over hDH
     have hD3 : (upd H2 D (.lst (ys ++ [v]))) D = some (.lst (ys ++ [v])) := upd_same
     generalize upd H2 D (.lst (ys ++ [v])) = H3 at *
     try dsimp only
     refine ⟨_, rfl, ?_⟩
     repeat walk_at "rd"
     refine g_lenS (le_of (by omega)) ?_
     repeat walk_at "rd"
     refine ⟨_, _, rfl, rfl, ?_⟩
     try dsimp only
     have p := p3 (i + 1) (pl + (y.length + 1)) (some (.str y)) z4 (ys ++ [v]) (ds ++ [d]) H3 (by omega) hL3 hD3 ht3 (by rw [List.length_append, hyl]; rfl) e3 (fun r h => hlo r (by rw [ed]; exact .step hm h))
     have en : (pl : Int) + ((y.length : Int) + 1) = ((pl + (y.length + 1) : Nat) : Int) := by omega
     show Pv (i + 1) _ H3
     rw [en]
     exact p
    ·refine g_wAs x1 fun a ha => ?_
     refine g_rsN ?_
     refine g_mkO ?_
     repeat walk_at "rd"
     refine ⟨rfl, a_BadText, dd, badAt n, .int (n : Int), rfl, rfl, G_BadText.ec, n2, hd, rfl, ?_⟩
     repeat walk_at "rd"
     refine mkX_I1 G_BadText.ec n1 n2 fun d4 H4 e4 hd4 => qe (pl + n) d4 H4 (hlo _ (by rw [ed]; exact .bad hm)) ((e1.trans e2).trans e4) (by rw [hd4]; rfl)
  ·obtain ⟨pl, z3, z4, ys, ds, rfl, hpl, hD1, hty, hyl, e1, hlo⟩ := p2 _ _ _ h
   repeat walk_at "rd"
   refine g_tupleL (SqL.of hD1) fun p hp => ?_
   have ep : Fr [] H1 (upd H1 p (.tup ys)) := Fr.new hp
   exact q ds _ _ (hlo _ (by rw [List.length_map, List.drop_length]; exact .done)) (e1.trans ep) (.tup (SqT.of upd_same) (hty.fr ep))
 ·have hzs : zs = [] := by rw [ezs]; unfold linesS; rw [if_pos c]
  rw [hzs] at loop q
  repeat walk_at "rd"
  refine ⟨le_of (by simp), fun L hL => ?_⟩
  have hLD : L ≠ D := fun e => by rw [e, hD0] at hL; cases hL
  have eL : Fr [] H0 (upd H0 L (.lst [])) := Fr.new hL
  obtain ⟨Pv, p0, p1, p2, p3, p4⟩ := loop L _ hLD upd_same eL
  refine ⟨L, rfl, ⟨[], SqL.of upd_same⟩, for_list (xs := ([] : List V)) Pv p0 (fun i σ H' _ h => p1 i σ H' h) (fun i x σ H1 hx h => by cases hx) (fun σ H1 h => ?_)⟩
  obtain ⟨pl, z3, z4, ys, ds, rfl, hpl, hD1, hty, hyl, e1, hlo⟩ := p2 _ _ _ h
  repeat walk_at "rd"
  refine g_tupleL (SqL.of hD1) fun p hp => ?_
  have ep : Fr [] H1 (upd H1 p (.tup ys)) := Fr.new hp
  exact q ds _ _ (hlo _ .done) (e1.trans ep) (.tup (SqT.of upd_same) (hty.fr ep))
end
structure TO (n m : Nat) (z : Str) : Prop where
 tx : Tx n z
 ops : opz z ≤ m
 nl : 10 ∉ z.cps.toList
theorem nl_app {a b : Str} (h : 10 ∉ a.cps.toList) (k : 10 ∉ b.cps.toList) : 10 ∉ (a ++ b : Str).cps.toList := by
 rw [tl_app, List.mem_append]
 exact fun z => z.elim h k
theorem opz_app (a b : Str) : opz (a ++ b) = opz a + opz b := by
 unfold opz
 rw [tl_app, List.countP_append]
theorem TO.app {n m n' m' : Nat} {a b : Str} (h : TO n m a) (k : TO n' m' b) : TO (n + n') (m + m') (a ++ b) := ⟨h.tx.app k.tx, by rw [opz_app]; exact Nat.add_le_add h.ops k.ops, nl_app h.nl k.nl⟩
theorem TO.mono {n m n' m' : Nat} {a : Str} (h : TO n m a) (l : n ≤ n') (k : m ≤ m') : TO n' m' a := ⟨h.tx.mono l, Nat.le_trans h.ops k, h.nl⟩
theorem TO.lit {n m : Nat} {z : Str} (h : ((txB n z && decide (opz z ≤ m)) && decide (10 ∉ z.cps.toList)) = true) : TO n m z := by
 obtain ⟨h0, h3⟩ := Bool.and_eq_true_iff.mp h
 obtain ⟨h1, h2⟩ := Bool.and_eq_true_iff.mp h0
 exact ⟨Tx.lit h1, of_decide_eq_true h2, of_decide_eq_true h3⟩
theorem WordP.to {x : Str} (h : WordP x) : TO 12 0 x := by
 obtain ⟨c, r, e, hc, hr, hl⟩ := h
 have key : ∀ d ∈ x.cps.toList, (isLet d || isFig d) = true := fun d hd => by
  rw [e] at hd
  rcases List.mem_cons.mp hd with rfl | hd
  ·rw [hc]; rfl
  ·exact hr d hd
 refine ⟨⟨by rw [len_l, e, List.length_cons]; omega, fun d hd => ?_⟩, ?_, fun hm => absurd (key 10 hm) (by decide)⟩
 ·have z := key d hd
  unfold isLet isFig at z
  simp only [Bool.or_eq_true, decide_eq_true_eq] at z
  omega
 ·have : opz x = 0 := by
   unfold opz
   rw [List.countP_eq_zero]
   intro d hd
   have z := key d hd
   unfold isLet isFig at z
   simp only [Bool.or_eq_true, decide_eq_true_eq] at z
   unfold isOpc
   rw [decide_eq_false (by omega)]
   exact Bool.false_ne_true
  omega
theorem TO.join {n m a b : Nat} {sep : Str} (hs : TO a b sep) : ∀ {ys : List Str}, (∀ y ∈ ys, TO n m y) → TO (ys.length * (n + a)) (ys.length * (m + b)) (Txt.join sep ys)
 | [], _ => by
  rw [show Txt.join sep [] = Str.empty from rfl]
  exact (TO.lit (n := 0) (m := 0) (by decide +kernel)).mono (Nat.zero_le _) (Nat.zero_le _)
 | [y], h => by
  have e : Txt.join sep [y] = y := by rw [TL.join_eq]; rfl
  rw [e]
  exact (h y (by simp)).mono (by simp) (by simp)
 | y :: z :: r, h => by
  rw [join_cons]
  have i := TO.join hs (ys := z :: r) fun x hx => h x (List.mem_cons_of_mem _ hx)
  have k := ((h y (by simp)).app hs).app i
  refine k.mono ?_ ?_
  ·rw [List.length_cons (a := y), Nat.succ_mul]; omega
  ·rw [List.length_cons (a := y), Nat.succ_mul]; omega
theorem g_addT {K : PySem.W.Frag} {H : Hp} {Q : VK} {a b : Nat} {x y : Str} (hx : Tx a x) (hy : Tx b y) (hab : a + b ≤ 10000) (q : Q (.str (x ++ y)) H) : uAdd K (.str x) (.str y) H Q :=
 g_addS (le_of (by have := hx.len; have := hy.len; omega)) q
def AllTO (n m : Nat) (xs : List V) : Prop := ∀ v ∈ xs, ∃ z, v = .str z ∧ TO n m z
theorem allTO_nil {n m : Nat} : AllTO n m [] := fun _ z => nomatch z
theorem allTO_cons {n m : Nat} {z : Str} {xs : List V} (h : TO n m z) (k : AllTO n m xs) : AllTO n m (.str z :: xs) := fun v hv => by
 rcases List.mem_cons.mp hv with rfl | hv
 ·exact ⟨z, rfl, h⟩
 ·exact k v hv
theorem allTO_app {n m : Nat} {xs ys : List V} (h : AllTO n m xs) (k : AllTO n m ys) : AllTO n m (xs ++ ys) := fun v hv => by
 rcases List.mem_append.mp hv with hv | hv
 ·exact h v hv
 ·exact k v hv
theorem allTO_strs {n m : Nat} : ∀ {xs : List V}, AllTO n m xs → ∃ ys : List Str, xs = ys.map V.str ∧ ∀ y ∈ ys, TO n m y
 | [], _ => ⟨[], rfl, fun _ z => nomatch z⟩
 | x :: r, h => by
  obtain ⟨z, rfl, hz⟩ := h x (by simp)
  obtain ⟨ys, rfl, hys⟩ := allTO_strs (xs := r) fun v hv => h v (List.mem_cons_of_mem _ hv)
  exact ⟨z :: ys, rfl, fun y hy => (List.mem_cons.mp hy).elim (fun e => e ▸ hz) (hys y)⟩
theorem sum_len {n m : Nat} : ∀ {ys : List Str}, (∀ y ∈ ys, TO n m y) → (ys.map (·.length)).sum ≤ ys.length * n
 | [], _ => by simp
 | y :: r, h => by
  have i := sum_len (ys := r) fun x hx => h x (List.mem_cons_of_mem _ hx)
  have k := (h y (by simp)).tx.len
  rw [List.map_cons, List.sum_cons, List.length_cons, Nat.succ_mul]
  omega
def spPlain : Sp := fun vs H Q _ => ∃ (b cs : Addr) (wh : Int), vs = [.ref b, .int wh] ∧ 0 ≤ wh ∧ wh < 3 ∧ BagAt H b cs ∧ ∀ z H', TO 400 27 z → BagAt H' b cs → Fr [b] H H' → Q (.str z) H'
abbrev s__law_plain_text : Stmt := topS 69
theorem sc__law_plain_text : FnScope ["_law_bag_here", "_law_which", "_law_name", "_law_some", "_law_tests", "_law_parts", "_law_args", "_law_k"] ["_law_bag_here", "_law_which"] (defScope s__law_plain_text) := ⟨rfl, rfl, rfl, by decide +kernel, rfl, by decide +kernel, by decide +kernel⟩
section
variable {P : Program} {w : World} {K : PySem.W.Frag} {mg : Str → Option Value} {base : Heap} {f : Addr} {fd : FuncData}
theorem ok__law_plain_text (F : FnP K "_law_plain_text" s__law_plain_text f fd) (B : Bi mg) (C__law_pull : CalG P w K mg base 10 "_law_pull" spPull) (C__law_one : CalG P w K mg base 20 "_law_one" (spOne K)) (C__law_word : CalG P w K mg base 30 "_law_word" spWord) : FnG P w K mg base CX0 40 f fd ["_law_bag_here", "_law_which"] spPlain := by
 refine okG F sc__law_plain_text (fun vs H Q E h => ?_) (fun cdv A outer s H vs Q E hr h => ?_)
 ·obtain ⟨b, cs, wh, rfl, _⟩ := h
  rfl
 obtain ⟨b, cs, wh, rfl, w0, w3, hB, q⟩ := h
 refine ⟨_, PSs.nox (pss_cons (ps_set (i := 2) sc__law_plain_text.nd rfl (.inl rfl) (pe_calG C__law_word hr rfl (pa_cons (pv 0) pa_nil)))
 (pss_cons (ps_set (i := 3) sc__law_plain_text.nd rfl (.inr rfl) (pe_lst (pa_cons (pe_op (kOp (K := K) (r := uAdd) rfl opu_add) (pe_op (kOp (K := K) (r := uAdd) rfl opu_add) (pe_op (kOp (K := K) (r := uAdd) rfl opu_add) (pv 2) pe_str) (pv 2)) pe_str) (pa_cons pe_str (pa_cons pe_str (pa_cons pe_str (pa_cons pe_str pa_nil)))))))
 (pss_cons (ps_set (i := 3) sc__law_plain_text.nd rfl (.inr rfl) (pe_op (kOp (K := K) (r := uAdd) rfl opu_add) (pv 3) (pe_lst (pa_cons (pe_op (kOp (K := K) (r := uAdd) rfl opu_add) (pe_op (kOp (K := K) (r := uAdd) rfl opu_add) pe_str (pv 2)) pe_str) (pa_cons pe_str (pa_cons pe_str (pa_cons pe_str pa_nil)))))))
 (pss_cons (ps_set (i := 3) sc__law_plain_text.nd rfl (.inr rfl) (pe_op (kOp (K := K) (r := uAdd) rfl opu_add) (pv 3) (pe_lst (pa_cons (pe_ix (kIx (K := K) (r := rIx) rfl ix_seq) (pe_lst (pa_cons pe_str (pa_cons pe_str (pa_cons pe_str pa_nil)))) (pv 1) (fun _ _ => rfl)) pa_nil))))
 (pss_cons (ps_set (i := 4) sc__law_plain_text.nd rfl (.inr rfl) (pe_lst (pa_cons pe_str (pa_cons pe_str (pa_cons pe_str (pa_cons pe_str (pa_cons pe_str (pa_cons pe_str pa_nil))))))))
 (pss_cons (ps_set (i := 5) sc__law_plain_text.nd rfl (.inl rfl) (kBM (K := K) rfl (pe_bm PySem.F.plainAttrs_str PySem.F.slot_str_join PySem.F.type_str_join (kMt (K := K) (r := rJoin) rfl mt_joinU) pe_str (pa_cons (pe_lc (own := [("_law_k", 7)]) (g := gName 7) (tt := tYes) rfl sc__law_plain_text.nd (pi_range1 rfl B.b_range (pa_cons (pe_op (kOp (K := K) (r := uAdd) rfl opu_add) pe_int (pe_calG C__law_pull hr rfl (pa_cons (pv 0) (pa_cons pe_int pa_nil)))) pa_nil)) (blkOk_by (own := [("_law_k", 7)]) (N := ["_law_bag_here", "_law_which", "_law_name", "_law_some", "_law_tests", "_law_parts", "_law_args", "_law_k"]) (sc := defScope s__law_plain_text) (by decide +kernel)) (fun _ _ _ _ _ => (by exact (pg_name (i := 7) sc__law_plain_text.nd rfl (by first | exact Or.inl rfl | exact Or.inr rfl)))) (fun _ _ _ _ _ => pts_nil) (fun _ _ _ _ _ => (by exact (pe_calG C__law_one hr rfl (pa_cons (pv 0) (pa_cons (pe_ifExp (pt_cmpR (kOp (K := K) (r := uEq) rfl (opu_eq hr.units)) (pv 1) pe_int (nomark _)) (pv 4) (pv 3)) pa_nil)))))) pa_nil))))
 (pss_cons (ps_set (i := 6) sc__law_plain_text.nd rfl (.inl rfl) (pe_calG C__law_one hr rfl (pa_cons (pv 0) (pa_cons (pe_lst (pa_cons pe_str (pa_cons pe_str (pa_cons pe_str (pa_cons pe_str (pa_cons pe_str (pa_cons pe_str (pa_cons pe_str pa_nil)))))))) pa_nil))))
 (pss_cons (ps_if (pt_cmpR (kOp (K := K) (r := uEq) rfl (opu_eq hr.units)) (pv 1) pe_int (nomark _)) (pss_one (ps_ret (pv 5))) pss_nil)
 (pss_cons (ps_if (pt_cmpR (kOp (K := K) (r := uEq) rfl (opu_eq hr.units)) (pv 1) pe_int (nomark _)) (pss_one (ps_ret (pe_op (kOp (K := K) (r := uAdd) rfl opu_add) (pe_op (kOp (K := K) (r := uAdd) rfl opu_add) (pv 6) pe_str) (pv 5)))) pss_nil)
 (pss_one (ps_ret (pe_op (kOp (K := K) (r := uAdd) rfl opu_add) (pe_op (kOp (K := K) (r := uAdd) rfl opu_add) (pe_op (kOp (K := K) (r := uAdd) rfl opu_add) (pe_op (kOp (K := K) (r := uAdd) rfl opu_add) (pe_calG C__law_one hr rfl (pa_cons (pv 0) (pa_cons (pe_lst (pa_cons (pv 2) (pa_cons pe_str pa_nil))) pa_nil))) pe_str) (pv 6)) pe_str) (pe_calG C__law_one hr rfl (pa_cons (pv 0) (pa_cons (pe_lst (pa_cons pe_str (pa_cons (pe_op (kOp (K := K) (r := uAdd) rfl opu_add) pe_str (pv 5)) (pa_cons (pe_op (kOp (K := K) (r := uAdd) rfl opu_add) pe_str (pv 5)) pa_nil)))) pa_nil))))))))))))))), rd_start (σ0 := [some (.ref b), some (.int wh), none, none, none, none, none, none]) rfl ?_⟩
 repeat walk_at "rd"
 refine ⟨b, cs, rfl, hB, fun x H1 hx hB1 e1 => ?_⟩
 have x0 := hx.to
 have i1 : TO 31 3 ("not h.b(x)" : Str) := TO.lit (by decide +kernel)
 repeat walk_at "rd"
 refine g_addT x0.tx (Tx.lit (n := 1) (by decide +kernel)) (by decide) ?_
 have x1 : TO 13 0 (x ++ ".") := x0.app (TO.lit (n := 1) (m := 0) (by decide +kernel))
 repeat walk_at "rd"
 refine g_addT x1.tx x0.tx (by decide) ?_
 have x2 : TO 25 0 (x ++ "." ++ x) := x1.app x0
 repeat walk_at "rd"
 refine g_addT x2.tx (Tx.lit (n := 6) (by decide +kernel)) (by decide) ?_
 have x3 : TO 31 3 (x ++ "." ++ x ++ "(x, _)") := (x2.app (TO.lit (n := 6) (m := 0) (by decide +kernel))).mono (by decide) (by decide)
 generalize x ++ "." ++ x ++ "(x, _)" = y1 at *
 repeat walk_at "rd"
 refine ⟨le_of (by simp), fun p1 hp1 => ?_⟩
 have f1 : AllTO 31 3 [V.str y1, .str "not h.b(x)", .str "x < y + 1", .str "y is x * (2 - -3)", .str "x = y - (1 - x) * 2"] := allTO_cons x3 (allTO_cons i1 (allTO_cons (TO.lit (by decide +kernel)) (allTO_cons (TO.lit (by decide +kernel)) (allTO_cons (TO.lit (by decide +kernel)) allTO_nil))))
 have l1 : (upd H1 p1 (.lst [V.str y1, .str "not h.b(x)", .str "x < y + 1", .str "y is x * (2 - -3)", .str "x = y - (1 - x) * 2"])) p1 = some (.lst [V.str y1, .str "not h.b(x)", .str "x < y + 1", .str "y is x * (2 - -3)", .str "x = y - (1 - x) * 2"]) := upd_same
 have g1 : Fr [] H1 (upd H1 p1 (.lst [V.str y1, .str "not h.b(x)", .str "x < y + 1", .str "y is x * (2 - -3)", .str "x = y - (1 - x) * 2"])) := Fr.new hp1
 have hB2 := hB1.fr0 g1
 have e2 := e1.trans g1.nil
 have n1 : [V.str y1, .str "not h.b(x)", .str "x < y + 1", .str "y is x * (2 - -3)", .str "x = y - (1 - x) * 2"].length = 5 := rfl
 generalize upd H1 p1 (.lst [V.str y1, .str "not h.b(x)", .str "x < y + 1", .str "y is x * (2 - -3)", .str "x = y - (1 - x) * 2"]) = H2 at *
 generalize [V.str y1, .str "not h.b(x)", .str "x < y + 1", .str "y is x * (2 - -3)", .str "x = y - (1 - x) * 2"] = xs1 at *
 repeat walk_at "rd"
 refine g_addT (Tx.lit (n := 11) (by decide +kernel)) x0.tx (by decide) ?_
 have x4 : TO 23 1 ("h.p.q(-1, '" ++ x) := (TO.lit (n := 11) (m := 1) (by decide +kernel)).app x0
 repeat walk_at "rd"
 refine g_addT x4.tx (Tx.lit (n := 7) (by decide +kernel)) (by decide) ?_
 have x5 : TO 31 3 ("h.p.q(-1, '" ++ x ++ "', yes)") := (x4.app (TO.lit (n := 7) (m := 0) (by decide +kernel))).mono (by decide) (by decide)
 generalize "h.p.q(-1, '" ++ x ++ "', yes)" = y2 at *
 repeat walk_at "rd"
 refine ⟨le_of (by simp), fun p2 hp2 => ?_⟩
 have f2 : AllTO 31 3 [V.str y2, .str "h.b(x, y, 3, u)", .str "'a' != x", .str "u >= 0"] := allTO_cons x5 (allTO_cons (TO.lit (by decide +kernel)) (allTO_cons (TO.lit (by decide +kernel)) (allTO_cons (TO.lit (by decide +kernel)) allTO_nil)))
 have l2 : (upd H2 p2 (.lst [V.str y2, .str "h.b(x, y, 3, u)", .str "'a' != x", .str "u >= 0"])) p2 = some (.lst [V.str y2, .str "h.b(x, y, 3, u)", .str "'a' != x", .str "u >= 0"]) := upd_same
 have g2 : Fr [] H2 (upd H2 p2 (.lst [V.str y2, .str "h.b(x, y, 3, u)", .str "'a' != x", .str "u >= 0"])) := Fr.new hp2
 have l12 := g2.at l1 (fun z => nomatch z)
 have n2 : [V.str y2, .str "h.b(x, y, 3, u)", .str "'a' != x", .str "u >= 0"].length = 4 := rfl
 have hB3 := hB2.fr0 g2
 have e3 := e2.trans g2.nil
 generalize upd H2 p2 (.lst [V.str y2, .str "h.b(x, y, 3, u)", .str "'a' != x", .str "u >= 0"]) = H3 at *
 generalize [V.str y2, .str "h.b(x, y, 3, u)", .str "'a' != x", .str "u >= 0"] = xs2 at *
 refine g_addL l12 l2 (le_of (by omega)) (fun p3 hp3 => ?_)
 have f3 := allTO_app f1 f2
 have n3 : (xs1 ++ xs2).length = 9 := by rw [List.length_append]; omega
 have l3 : (upd H3 p3 (.lst (xs1 ++ xs2))) p3 = some (.lst (xs1 ++ xs2)) := upd_same
 have g3 : Fr [] H3 (upd H3 p3 (.lst (xs1 ++ xs2))) := Fr.new hp3
 have hB4 := hB3.fr0 g3
 have e4 := e3.trans g3.nil
 generalize upd H3 p3 (.lst (xs1 ++ xs2)) = H4 at *
 generalize xs1 ++ xs2 = xs3 at *
 repeat walk_at "rd"
 refine ⟨le_of (by simp), fun p4 hp4 => ?_⟩
 have g4 : Fr [] H4 (upd H4 p4 (.lst [.str "q(x)", .str "x <= 1", .str "me = x"])) := Fr.new hp4
 have l4 : (upd H4 p4 (.lst [.str "q(x)", .str "x <= 1", .str "me = x"])) p4 = some (.lst [.str "q(x)", .str "x <= 1", .str "me = x"]) := upd_same
 have l34 := g4.at l3 (fun z => nomatch z)
 have hB5 := hB4.fr0 g4
 have e5 := e4.trans g4.nil
 generalize upd H4 p4 (.lst [.str "q(x)", .str "x <= 1", .str "me = x"]) = H5 at *
 repeat walk_at "rd"
 obtain ⟨v4, hv4, ha4⟩ := atI_in (xs := [V.str "q(x)", .str "x <= 1", .str "me = x"]) w0 w3
 refine g_ixL (SqL.of l4) ha4 ?_
 have f4 : AllTO 31 3 [V.str "q(x)", .str "x <= 1", .str "me = x"] := allTO_cons (TO.lit (by decide +kernel)) (allTO_cons (TO.lit (by decide +kernel)) (allTO_cons (TO.lit (by decide +kernel)) allTO_nil))
 obtain ⟨z4, rfl, hz4⟩ := f4 v4 hv4
 repeat walk_at "rd"
 refine ⟨le_of (by simp), fun p5 hp5 => ?_⟩
 have g5 : Fr [] H5 (upd H5 p5 (.lst [.str z4])) := Fr.new hp5
 have l5 : (upd H5 p5 (.lst [.str z4])) p5 = some (.lst [.str z4]) := upd_same
 have l35 := g5.at l34 (fun z => nomatch z)
 have hB6 := hB5.fr0 g5
 have e6 := e5.trans g5.nil
 generalize upd H5 p5 (.lst [.str z4]) = H6 at *
 refine g_addL l35 l5 (le_of (by simp; omega)) (fun p6 hp6 => ?_)
 have f6 := allTO_app f3 (allTO_cons hz4 allTO_nil)
 have n6 : (xs3 ++ [V.str z4]).length = 10 := by rw [List.length_append]; simp; omega
 have l6 : (upd H6 p6 (.lst (xs3 ++ [V.str z4]))) p6 = some (.lst (xs3 ++ [V.str z4])) := upd_same
 have g6 : Fr [] H6 (upd H6 p6 (.lst (xs3 ++ [V.str z4]))) := Fr.new hp6
 have b6 : p6 ≠ b := (hB6.some hp6).1
 have hB7 := hB6.fr0 g6
 have e7 := e6.trans g6.nil
 generalize upd H6 p6 (.lst (xs3 ++ [V.str z4])) = H7 at *
 generalize xs3 ++ [V.str z4] = xs6 at *
 repeat walk_at "rd"
 refine ⟨le_of (by simp), fun p7 hp7 => ?_⟩
 have f7 : AllTO 31 3 [V.str "x < y + 1", .str "x = me", .str "x = y - (1 - x) * 2", .str "'a' != x", .str "u >= 0", .str "((x)) > 7"] := allTO_cons (TO.lit (by decide +kernel)) (allTO_cons (TO.lit (by decide +kernel)) (allTO_cons (TO.lit (by decide +kernel)) (allTO_cons (TO.lit (by decide +kernel)) (allTO_cons (TO.lit (by decide +kernel)) (allTO_cons (TO.lit (by decide +kernel)) allTO_nil)))))
 have n7 : [V.str "x < y + 1", .str "x = me", .str "x = y - (1 - x) * 2", .str "'a' != x", .str "u >= 0", .str "((x)) > 7"].length = 6 := rfl
 have l7 : (upd H7 p7 (.lst [V.str "x < y + 1", .str "x = me", .str "x = y - (1 - x) * 2", .str "'a' != x", .str "u >= 0", .str "((x)) > 7"])) p7 = some (.lst [V.str "x < y + 1", .str "x = me", .str "x = y - (1 - x) * 2", .str "'a' != x", .str "u >= 0", .str "((x)) > 7"]) := upd_same
 have g7 : Fr [] H7 (upd H7 p7 (.lst [V.str "x < y + 1", .str "x = me", .str "x = y - (1 - x) * 2", .str "'a' != x", .str "u >= 0", .str "((x)) > 7"])) := Fr.new hp7
 have b7 : p7 ≠ b := (hB7.some hp7).1
 have l67 := g7.at l6 (fun z => nomatch z)
 have hB8 := hB7.fr0 g7
 have e8 := e7.trans g7.nil
 generalize upd H7 p7 (.lst [V.str "x < y + 1", .str "x = me", .str "x = y - (1 - x) * 2", .str "'a' != x", .str "u >= 0", .str "((x)) > 7"]) = H8 at *
 generalize [V.str "x < y + 1", .str "x = me", .str "x = y - (1 - x) * 2", .str "'a' != x", .str "u >= 0", .str "((x)) > 7"] = xs7 at *
 repeat walk_at "rd"
 refine ⟨b, cs, _, rfl, hB8, by decide, by decide, fun d9 H9 d0 d1 hB9 g9 => ?_⟩
 obtain ⟨m, rfl⟩ : ∃ m : Nat, d9 = (m : Int) := ⟨d9.toNat, by omega⟩
 have l69 := g9.at l67 (fun z => b6 (List.mem_singleton.mp z))
 have l79 := g9.at l7 (fun z => b7 (List.mem_singleton.mp z))
 have e9 := e8.trans g9
 repeat walk_at "rd"
 refine ⟨_, rfl, by omega, by omega, fun D hD => lc_it (walk_range (lo := 0) (n := 1 + m)) (fun i H' => BagAt H' b cs ∧ Fr [b] H9 H' ∧ ∃ (us : List V), H' D = some (.lst us) ∧ us.length = i ∧ AllTO 31 3 us)
   ⟨hB9.fr0 (Fr.new hD), Fr.new hD, [], upd_same, rfl, allTO_nil⟩ (fun i H' _ h => trivial) (fun i x H' H'' hi h y => ?_) (fun H3 h => ?_)⟩
 ·obtain ⟨rfl, rfl⟩ := y
  obtain ⟨hBi, hFi, us, hDi, hul, huv⟩ := h
  have hDb := hB9.some hD
  have hDM : D ∉ [b] := fun z => hDb.1 (List.mem_singleton.mp z)
  have l6i := hFi.at l69 (fun z => b6 (List.mem_singleton.mp z))
  have l7i := hFi.at l79 (fun z => b7 (List.mem_singleton.mp z))
  repeat walk_at "rd"
  refine ⟨rfl, ?_⟩
  have fin : ∀ (v : V) (H4 : Hp), (∃ z, v = .str z ∧ TO 31 3 z) → BagAt H4 b cs → Fr [b] H'' H4 → ∃ acc, H4 D = some (.lst acc) ∧ acc.length < sizeLine ∧ BagAt (upd H4 D (.lst (acc ++ [v]))) b cs ∧ Fr [b] H9 (upd H4 D (.lst (acc ++ [v]))) ∧
    ∃ us, upd H4 D (.lst (acc ++ [v])) D = some (.lst us) ∧ us.length = i + 1 ∧ AllTO 31 3 us := fun v H4 hv hB4 e4 => by
   have hD4 := e4.at hDi hDM
   have eD : Fr [D] H4 (upd H4 D (.lst (us ++ [v]))) := Fr.mut (List.mem_singleton.mpr rfl) hD4 nofix_lst
   refine ⟨us, hD4, lt_of (by omega), hB4.fr eD (fun z => hDb.1 (List.mem_singleton.mp z).symm) (fun z => hDb.2 (List.mem_singleton.mp z).symm), (hFi.trans e4).over hD, us ++ [v], upd_same, by rw [List.length_append, hul]; rfl, allTO_app huv (fun u hu => ?_)⟩
   rw [List.mem_singleton.mp hu]; exact hv
  repeat walk_at "rd"
  refine g_by (fun c2 => ?_) (fun c2 => ?_)
  ·repeat walk_at "rd"
   exact ⟨b, cs, p7, xs7, rfl, hBi, .inl ⟨SqL.of l7i, b7⟩, by omega, by omega, fun v H4 hv hB4 e4 => fin v H4 (f7 v hv) hB4 e4⟩
  ·repeat walk_at "rd"
   exact ⟨b, cs, p6, xs6, rfl, hBi, .inl ⟨SqL.of l6i, b6⟩, by omega, by omega, fun v H4 hv hB4 e4 => fin v H4 (f6 v hv) hB4 e4⟩
 ·obtain ⟨hB3, hF3, us, hD3, hul, huv⟩ := h
  obtain ⟨ys, rfl, hys⟩ := allTO_strs huv
  rw [List.length_map] at hul
  have sl := sum_len hys
  have eA := e9.trans hF3
  have zj : TO 297 27 (Txt.join ", " ys) := (TO.join (TO.lit (n := 2) (m := 0) (by decide +kernel)) hys).mono (by omega) (by omega)
  have ll : (", " : Str).length = 2 := by decide +kernel
  repeat walk_at "rd"
  refine ⟨", ", D, ys, rfl, rfl, .inl (SqL.of hD3), by rw [ll]; omega, ?_⟩
  generalize Txt.join ", " ys = z5 at *
  repeat walk_at "rd"
  refine ⟨le_of (by simp), fun pa hpa => ?_⟩
  have fa : AllTO 20 0 [V.str "x", .str "x, y", .str "count", .str "x, sum y", .str "most u, 3", .str "x, y, 'a', u", .str "no, least x"] := allTO_cons (TO.lit (by decide +kernel)) (allTO_cons (TO.lit (by decide +kernel)) (allTO_cons (TO.lit (by decide +kernel)) (allTO_cons (TO.lit (by decide +kernel)) (allTO_cons (TO.lit (by decide +kernel)) (allTO_cons (TO.lit (by decide +kernel)) (allTO_cons (TO.lit (by decide +kernel)) allTO_nil))))))
  have la : (upd H3 pa (.lst [V.str "x", .str "x, y", .str "count", .str "x, sum y", .str "most u, 3", .str "x, y, 'a', u", .str "no, least x"])) pa = some (.lst [V.str "x", .str "x, y", .str "count", .str "x, sum y", .str "most u, 3", .str "x, y, 'a', u", .str "no, least x"]) := upd_same
  have ga : Fr [] H3 (upd H3 pa (.lst [V.str "x", .str "x, y", .str "count", .str "x, sum y", .str "most u, 3", .str "x, y, 'a', u", .str "no, least x"])) := Fr.new hpa
  have ba : pa ≠ b := (hB3.some hpa).1
  have hBa := hB3.fr0 ga
  have eB := eA.trans ga.nil
  generalize upd H3 pa (.lst [V.str "x", .str "x, y", .str "count", .str "x, sum y", .str "most u, 3", .str "x, y, 'a', u", .str "no, least x"]) = Ha at *
  repeat walk_at "rd"
  refine ⟨b, cs, pa, _, rfl, hBa, .inl ⟨SqL.of la, ba⟩, by decide, by decide, fun v Hc hv hBc ec => ?_⟩
  obtain ⟨z6, rfl, hz6⟩ := fa v hv
  have eC := eB.trans ec
  repeat walk_at "rd"
  refine g_by (fun c2 => ?_) (fun c2 => ?_)
  ·repeat walk_at "rd"
   exact q _ _ (zj.mono (by decide) (by decide)) hBc eC
  repeat walk_at "rd"
  have zi : TO 301 27 (" if " ++ z5) := ((TO.lit (n := 4) (m := 0) (by decide +kernel)).app zj).mono (by decide) (by decide)
  refine g_by (fun c1 => ?_) (fun c1 => ?_)
  ·repeat walk_at "rd"
   refine g_addT hz6.tx (Tx.lit (n := 4) (by decide +kernel)) (by decide) ?_
   have zk : TO 24 0 (z6 ++ " if ") := hz6.app (TO.lit (n := 4) (m := 0) (by decide +kernel))
   repeat walk_at "rd"
   refine g_addT zk.tx zj.tx (by decide) ?_
   exact q _ _ ((zk.app zj).mono (by decide) (by decide)) hBc eC
  ·repeat walk_at "rd"
   refine ⟨le_of (by simp), fun pn hpn => ?_⟩
   have fn : AllTO 12 0 [V.str x, .str "q"] := allTO_cons x0 (allTO_cons (TO.lit (by decide +kernel)) allTO_nil)
   have gn : Fr [] Hc (upd Hc pn (.lst [V.str x, .str "q"])) := Fr.new hpn
   have ln : (upd Hc pn (.lst [V.str x, .str "q"])) pn = some (.lst [V.str x, .str "q"]) := upd_same
   have bn : pn ≠ b := (hBc.some hpn).1
   have hBn := hBc.fr0 gn
   have eD := eC.trans gn.nil
   generalize upd Hc pn (.lst [V.str x, .str "q"]) = Hn at *
   repeat walk_at "rd"
   refine ⟨b, cs, pn, _, rfl, hBn, .inl ⟨SqL.of ln, bn⟩, by simp, by simp, fun v Hd hv hBd ed => ?_⟩
   obtain ⟨z7, rfl, hz7⟩ := fn v hv
   have eE := eD.trans ed
   repeat walk_at "rd"
   refine g_addT hz7.tx (Tx.lit (n := 1) (by decide +kernel)) (by decide) ?_
   have k1 : TO 13 0 (z7 ++ "(") := hz7.app (TO.lit (n := 1) (m := 0) (by decide +kernel))
   repeat walk_at "rd"
   refine g_addT k1.tx hz6.tx (by decide) ?_
   have k2 : TO 33 0 (z7 ++ "(" ++ z6) := k1.app hz6
   repeat walk_at "rd"
   refine g_addT k2.tx (Tx.lit (n := 1) (by decide +kernel)) (by decide) ?_
   have k3 : TO 34 0 (z7 ++ "(" ++ z6 ++ ")") := k2.app (TO.lit (n := 1) (m := 0) (by decide +kernel))
   generalize z7 ++ "(" ++ z6 ++ ")" = z8 at *
   repeat walk_at "rd"
   refine g_addT (Tx.lit (n := 4) (by decide +kernel)) zj.tx (by decide) ?_
   repeat walk_at "rd"
   refine g_addT (Tx.lit (n := 4) (by decide +kernel)) zj.tx (by decide) ?_
   repeat walk_at "rd"
   refine ⟨le_of (by simp), fun po hpo => ?_⟩
   have fo : AllTO 301 27 [V.str "", .str (" if " ++ z5), .str (" if " ++ z5)] := allTO_cons (TO.lit (by decide +kernel)) (allTO_cons zi (allTO_cons zi allTO_nil))
   have go : Fr [] Hd (upd Hd po (.lst [V.str "", .str (" if " ++ z5), .str (" if " ++ z5)])) := Fr.new hpo
   have lo : (upd Hd po (.lst [V.str "", .str (" if " ++ z5), .str (" if " ++ z5)])) po = some (.lst [V.str "", .str (" if " ++ z5), .str (" if " ++ z5)]) := upd_same
   have bo : po ≠ b := (hBd.some hpo).1
   have hBo := hBd.fr0 go
   have eF := eE.trans go.nil
   generalize upd Hd po (.lst [V.str "", .str (" if " ++ z5), .str (" if " ++ z5)]) = Ho at *
   repeat walk_at "rd"
   refine ⟨b, cs, po, _, rfl, hBo, .inl ⟨SqL.of lo, bo⟩, by simp, by simp, fun v Hf hv hBf ef => ?_⟩
   obtain ⟨z9, rfl, hz9⟩ := fo v hv
   refine g_addT k3.tx hz9.tx (by decide) ?_
   exact q _ _ ((k3.app hz9).mono (by decide) (by decide)) hBf (eF.trans ef)
end
structure Pcs (N M : Nat) (ys : List Str) : Prop where
 len : (ys.map fun y => y.length + 1).sum ≤ N
 ops : (ys.map opz).sum ≤ M
 ok : ∀ y ∈ ys, ∀ c ∈ y.cps.toList, c < 0x110000
 nl : ∀ y ∈ ys, 10 ∉ y.cps.toList
theorem Pcs.app {N M N' M' : Nat} {xs ys : List Str} (h : Pcs N M xs) (k : Pcs N' M' ys) : Pcs (N + N') (M + M') (xs ++ ys) :=
 ⟨by rw [List.map_append, List.sum_append]; exact Nat.add_le_add h.len k.len, by rw [List.map_append, List.sum_append]; exact Nat.add_le_add h.ops k.ops, fun y hy => (List.mem_append.mp hy).elim (h.ok y) (k.ok y), fun y hy => (List.mem_append.mp hy).elim (h.nl y) (k.nl y)⟩
theorem sub_sum {f : Str → Nat} {xs ys : List Str} (h : xs.Sublist ys) : (xs.map f).sum ≤ (ys.map f).sum := by
 induction h with
 | slnil => exact Nat.le_refl _
 | cons a _ ih => rw [List.map_cons, List.sum_cons]; omega
 | cons_cons a _ ih => rw [List.map_cons, List.sum_cons, List.map_cons, List.sum_cons]; omega
theorem Pcs.sub {N M : Nat} {xs ys : List Str} (h : Pcs N M ys) (s : xs.Sublist ys) : Pcs N M xs := ⟨Nat.le_trans (sub_sum s) h.len, Nat.le_trans (sub_sum s) h.ops, fun y hy => h.ok y (s.subset hy), fun y hy => h.nl y (s.subset hy)⟩
theorem Pcs.one {N M : Nat} {z : Str} (h : TO N M z) : Pcs (N + 1) M [z] := ⟨by simpa using h.tx.len, by simpa using h.ops, fun y hy => by rw [List.mem_singleton.mp hy]; exact h.tx.ok, fun y hy => by rw [List.mem_singleton.mp hy]; exact h.nl⟩
theorem joinS_len : ∀ (ys : List Str), (Txt.join " " ys).length ≤ (ys.map fun y => y.length + 1).sum ∧ opz (Txt.join " " ys) ≤ (ys.map opz).sum ∧ ((∀ y ∈ ys, ∀ c ∈ y.cps.toList, c < 0x110000) → ∀ c ∈ (Txt.join " " ys).cps.toList, c < 0x110000)
 | [] => by
  rw [show Txt.join " " [] = Str.empty from rfl]
  exact ⟨by decide, by decide, fun _ c hc => by cases hc⟩
 | [y] => by
  have e : Txt.join " " [y] = y := by rw [TL.join_eq]; rfl
  rw [e]
  exact ⟨by simp, by simp, fun h => h y (by simp)⟩
 | y :: z :: r => by
  obtain ⟨i1, i2, i3⟩ := joinS_len (z :: r)
  have l1 : (" " : Str).length = 1 := by decide +kernel
  have o1 : opz " " = 0 := by decide +kernel
  rw [join_cons]
  refine ⟨?_, ?_, fun h c hc => ?_⟩
  ·rw [app_len, app_len, l1, List.map_cons, List.sum_cons]; omega
  ·rw [opz_app, opz_app, o1, List.map_cons, List.sum_cons]; omega
  ·rw [tl_app, tl_app] at hc
   rcases List.mem_append.mp hc with hc | hc
   ·rcases List.mem_append.mp hc with hc | hc
    ·exact h y (by simp) c hc
    ·have e : (" " : Str).cps.toList = [32] := by decide +kernel
     rw [e, List.mem_singleton] at hc
     omega
   ·exact i3 (fun y hy => h y (List.mem_cons_of_mem _ hy)) c hc
theorem joinS_nl : ∀ (ys : List Str), (∀ y ∈ ys, 10 ∉ y.cps.toList) → 10 ∉ (Txt.join " " ys).cps.toList
 | [], _ => by
  rw [show Txt.join " " [] = Str.empty from rfl]
  exact fun hc => by cases hc
 | [y], h => by
  have e : Txt.join " " [y] = y := by rw [TL.join_eq]; rfl
  rw [e]
  exact h y (by simp)
 | y :: z :: r, h => by
  rw [join_cons]
  exact nl_app (nl_app (h y (by simp)) (by decide +kernel)) (joinS_nl (z :: r) fun y hy => h y (List.mem_cons_of_mem _ hy))
theorem Pcs.join {N M : Nat} {ys : List Str} (h : Pcs N M ys) : TO N M (Txt.join " " ys) := by
 obtain ⟨i1, i2, i3⟩ := joinS_len ys
 exact ⟨⟨Nat.le_trans i1 h.len, i3 h.ok⟩, Nat.le_trans i2 h.ops, joinS_nl ys h.nl⟩
theorem join_ops : ∀ (ys : List Str), opz (Txt.join " " ys) = (ys.map opz).sum
 | [] => by rw [show Txt.join " " [] = Str.empty from rfl]; decide +kernel
 | [y] => by
  have e : Txt.join " " [y] = y := by rw [TL.join_eq]; rfl
  rw [e]; simp
 | y :: z :: r => by
  have i := join_ops (z :: r)
  have o1 : opz " " = 0 := by decide +kernel
  rw [join_cons, opz_app, opz_app, o1, i, List.map_cons (a := y), List.sum_cons]
  omega
theorem split_pcs {N M : Nat} {z : Str} (h : TO N M z) : Pcs (N + 1) M (Txt.split z " ") := by
 have w := PyProof.Rows.split_weight z " " (by decide)
 have hl := h.tx.len
 have ej : Txt.join " " (Txt.split z " ") = z := (TL.join_eq _ _).trans (StrLaws.join_split z " ")
 refine ⟨?_, ?_, fun y hy c hc => h.tx.ok c ?_, fun y hy hc => h.nl ?_⟩
 ·have e : ∀ ys : List Str, (ys.map fun y => y.length + 1).sum = (ys.map (·.length)).sum + ys.length := by
   intro ys
   induction ys with
   | nil => rfl
   | cons a r ih => rw [List.map_cons, List.sum_cons, List.map_cons, List.sum_cons, List.length_cons, ih]; omega
  rw [e]; omega
 ·rw [← join_ops, ej]; exact h.ops
 ·have j := join_mem (sep := " ") hy hc
  rwa [ej] at j
 ·have j := join_mem (sep := " ") hy hc
  rwa [ej] at j
theorem TO.cut {N M : Nat} {z : Str} (h : TO N M z) {lo hi : Option Int} : TO N M (cutS z lo hi) := ⟨h.tx.cut, by
 refine Nat.le_trans ?_ h.ops
 unfold opz cutS
 exact List.Sublist.countP_le ((List.take_sublist _ _).trans (List.drop_sublist _ _)), fun hm => h.nl (((List.take_sublist _ _).trans (List.drop_sublist _ _)).subset hm)⟩
theorem rep_to {N M : Nat} {z : Str} {k : Int} (h : TO N M z) (k1 : 1 ≤ k) (k2 : k ≤ 14) : TO (N + 14) M (repl1 z "(" (repS "(" k)) := by
 have el : ("(" : Str).cps.toList = [40] := by decide +kernel
 have eo : ("(" : Str).length = 1 := by decide +kernel
 have er : (repS "(" k).cps.toList = (List.replicate k.toNat [40]).flatten := by rw [repS_toList, el]
 have rl : (repS "(" k).cps.toList.length ≤ 14 := by
  rw [er, List.length_flatten, List.map_replicate, List.sum_replicate_nat]
  simp
  omega
 have rc : ∀ c ∈ (repS "(" k).cps.toList, c = 40 := fun c hc => by
  rw [er] at hc
  obtain ⟨l, hl, hc⟩ := List.mem_flatten.mp hc
  rw [List.eq_of_mem_replicate hl] at hc
  exact List.mem_singleton.mp hc
 have ro : (repS "(" k).cps.toList.countP isOpc = 0 := by
  rw [List.countP_eq_zero]
  intro c hc
  rw [rc c hc]
  decide
 rcases repl1_list z "(" (repS "(" k) with e | ⟨i, e⟩
 ·have ez : repl1 z "(" (repS "(" k) = z := str_ext e
  rw [ez]
  exact h.mono (by omega) (Nat.le_refl _)
 ·have hl := h.tx.len
  have ho := h.ops
  rw [len_l] at hl
  refine ⟨⟨?_, fun c hc => ?_⟩, ?_, fun hm => ?_⟩
  ·rw [len_l, e, List.length_append, List.length_append, List.length_take, List.length_drop, eo]; omega
  ·rw [e] at hc
   rcases List.mem_append.mp hc with hc | hc
   ·rcases List.mem_append.mp hc with hc | hc
    ·exact h.tx.ok c (List.mem_of_mem_take hc)
    ·rw [rc c hc]; decide
   ·exact h.tx.ok c (List.mem_of_mem_drop hc)
  ·unfold opz at ho ⊢
   rw [e, List.countP_append, List.countP_append, ro, eo]
   have := List.take_append_drop i z.cps.toList
   have h3 : z.cps.toList.countP isOpc = (z.cps.toList.take i).countP isOpc + (z.cps.toList.drop i).countP isOpc := by rw [← List.countP_append, this]
   have h4 : (z.cps.toList.drop (i + 1)).countP isOpc ≤ (z.cps.toList.drop i).countP isOpc := List.Sublist.countP_le (List.drop_sublist_drop_left _ (by omega))
   omega
  ·rw [e] at hm
   rcases List.mem_append.mp hm with hc | hc
   ·rcases List.mem_append.mp hc with hc | hc
    ·exact h.nl (List.mem_of_mem_take hc)
    ·exact absurd (rc 10 hc) (by decide)
   ·exact h.nl (List.mem_of_mem_drop hc)
theorem ge_rep1 {to tk : TE} {y : Str} {σ : L2.St} {H : Hp} {Q : VK} (q : to σ H fun v H1 => ∃ x : Str, v = .str x ∧ x.length ≤ 10000 ∧ tk σ H1 fun w H2 => ∃ k : Int, w = .int k ∧ 1 ≤ k ∧ k ≤ 1000 ∧ Q (.str (repl1 x y (repS y k))) H2) : tRep1 to tk y σ H Q := q
theorem g_tk {K : PySem.W.Frag} {H : Hp} {Q : VK} {p : Addr} {ws : List Str} {n : Nat} (h : H p = some (.lst (ws.map V.str))) (q : ∀ r H', Fr [] H H' → H' r = some (.lst ((ws.take n).map V.str)) → Q (.ref r) H') : rSlL K (.ref p) none (some (n : Int)) H Q :=
 g_slL (SqL.of h) fun r hr => q r _ (Fr.new hr) (by rw [upd_same, cut0, List.map_take])
theorem g_dp {K : PySem.W.Frag} {H : Hp} {Q : VK} {p : Addr} {ws : List Str} {n : Nat} (h : H p = some (.lst (ws.map V.str))) (q : ∀ r H', Fr [] H H' → H' r = some (.lst ((ws.drop n).map V.str)) → Q (.ref r) H') : rSlL K (.ref p) (some (n : Int)) none H Q :=
 g_slL (SqL.of h) fun r hr => q r _ (Fr.new hr) (by rw [upd_same, cutA, List.map_drop])
theorem g_ad {K : PySem.W.Frag} {H : Hp} {Q : VK} {p r : Addr} {ws vs : List Str} (h : H p = some (.lst (ws.map V.str))) (k : H r = some (.lst (vs.map V.str))) (l : ws.length + vs.length ≤ 10000) (q : ∀ t H', Fr [] H H' → H' t = some (.lst ((ws ++ vs).map V.str)) → Q (.ref t) H') : uAdd K (.ref p) (.ref r) H Q :=
 g_addL h k (le_of (by rw [List.length_map, List.length_map]; omega)) fun t ht => q t _ (Fr.new ht) (by rw [upd_same, List.map_append])
def spBent : Sp := fun vs H Q _ => ∃ (N M : Nat) (b cs : Addr) (z : Str), N ≤ 2000 ∧ vs = [.ref b, .str z] ∧ TO N M z ∧ BagAt H b cs ∧ ∀ z' H', TO (2 * N + 40) (2 * M + 1) z' → BagAt H' b cs → Fr [b] H H' → Q (.str z') H'
abbrev s__law_bent : Stmt := topS 70
theorem sc__law_bent : FnScope ["_law_bag_here", "_law_text", "_law_fork", "_law_words", "_law_spot", "_law_some", "_law_place", "_law_sign"] ["_law_bag_here", "_law_text"] (defScope s__law_bent) := ⟨rfl, rfl, rfl, by decide +kernel, rfl, by decide +kernel, by decide +kernel⟩
section
variable {P : Program} {w : World} {K : PySem.W.Frag} {mg : Str → Option Value} {base : Heap} {f : Addr} {fd : FuncData}
theorem ok__law_bent (F : FnP K "_law_bent" s__law_bent f fd) (B : Bi mg) (nb : PySem.W.nsIn K cStatics sharingNotToldKey = some none) (C__law_pull : CalG P w K mg base 10 "_law_pull" spPull) (C__law_one : CalG P w K mg base 20 "_law_one" (spOne K)) : FnG P w K mg base CX0 40 f fd ["_law_bag_here", "_law_text"] spBent := by
 refine okG F sc__law_bent (fun vs H Q E h => ?_) (fun cdv A outer s H vs Q E hr h => ?_)
 ·obtain ⟨N, M, b, cs, z, hN, rfl, _⟩ := h
  rfl
 obtain ⟨N, M, b, cs, z, hN, rfl, hz, hB, q⟩ := h
 have zl := hz.tx.len
 have zs : z.length ≤ sizeLine := le_of (by omega)
 have zs2 : z.length + 2 ≤ sizeLine := le_of (by omega)
 refine ⟨_, PSs.nox (pss_cons (ps_set (i := 2) sc__law_bent.nd rfl (.inl rfl) (pe_calG C__law_pull hr rfl (pa_cons (pv 0) (pa_cons pe_int pa_nil))))
 (pss_cons (ps_set (i := 3) sc__law_bent.nd rfl (.inl rfl) (kBM (K := K) rfl (pe_bm PySem.F.plainAttrs_str PySem.F.slot_str_split PySem.F.type_str_split mt_split (pv 1) (pa_cons pe_str pa_nil))))
 (pss_cons (ps_set (i := 4) sc__law_bent.nd rfl (.inl rfl) (pe_calG C__law_pull hr rfl (pa_cons (pv 0) (pa_cons (pe_callB (kCall (K := K) (r := uLen) rfl callu_len) (by rfl) B.b_len (by decide +kernel) (pa_cons (pv 3) pa_nil)) pa_nil))))
 (pss_cons (ps_if (pt_cmpR (kOp (K := K) (r := uEq) rfl (opu_eq hr.units)) (pv 2) pe_int (nomark _)) (pss_one (ps_ret (kBM (K := K) rfl (pe_bm PySem.F.plainAttrs_str PySem.F.slot_str_join PySem.F.type_str_join (kMt (K := K) (r := rJoin) rfl mt_joinU) pe_str (pa_cons (pe_op (kOp (K := K) (r := uAdd) rfl opu_add) (pe_slice (kSl (K := K) (r := rSlL) rfl sl_list) (pv 3) po_none (po_some (pv 4))) (pe_slice (kSl (K := K) (r := rSlL) rfl sl_list) (pv 3) (po_some (pe_op (kOp (K := K) (r := uAdd) rfl opu_add) (pv 4) pe_int)) po_none)) pa_nil))))) pss_nil)
 (pss_cons (ps_if (pt_cmpR (kOp (K := K) (r := uEq) rfl (opu_eq hr.units)) (pv 2) pe_int (nomark _)) (pss_one (ps_ret (kBM (K := K) rfl (pe_bm PySem.F.plainAttrs_str PySem.F.slot_str_join PySem.F.type_str_join (kMt (K := K) (r := rJoin) rfl mt_joinU) pe_str (pa_cons (pe_op (kOp (K := K) (r := uAdd) rfl opu_add) (pe_slice (kSl (K := K) (r := rSlL) rfl sl_list) (pv 3) po_none (po_some (pe_op (kOp (K := K) (r := uAdd) rfl opu_add) (pv 4) pe_int))) (pe_slice (kSl (K := K) (r := rSlL) rfl sl_list) (pv 3) (po_some (pv 4)) po_none)) pa_nil))))) pss_nil)
 (pss_cons (ps_if (pt_cmpR (kOp (K := K) (r := uEq) rfl (opu_eq hr.units)) (pv 2) pe_int (nomark _)) (pss_cons (ps_set (i := 5) sc__law_bent.nd rfl (.inl rfl) (pe_lst (pa_cons pe_str (pa_cons pe_str (pa_cons pe_str (pa_cons pe_str (pa_cons pe_str (pa_cons pe_str (pa_cons pe_str (pa_cons pe_str (pa_cons pe_str (pa_cons pe_str (pa_cons pe_str pa_nil)))))))))))))
 (pss_cons (ps_set (i := 5) sc__law_bent.nd rfl (.inl rfl) (pe_op (kOp (K := K) (r := uAdd) rfl opu_add) (pv 5) (pe_lst (pa_cons pe_str (pa_cons pe_str (pa_cons pe_str (pa_cons pe_str (pa_cons pe_str (pa_cons pe_str (pa_cons (pe_op opu_mul pe_str pe_int) (pa_cons pe_str (pa_cons pe_str (pa_cons pe_str pa_nil)))))))))))))
 (pss_one (ps_ret (kBM (K := K) rfl (pe_bm PySem.F.plainAttrs_str PySem.F.slot_str_join PySem.F.type_str_join (kMt (K := K) (r := rJoin) rfl mt_joinU) pe_str (pa_cons (pe_op (kOp (K := K) (r := uAdd) rfl opu_add) (pe_op (kOp (K := K) (r := uAdd) rfl opu_add) (pe_slice (kSl (K := K) (r := rSlL) rfl sl_list) (pv 3) po_none (po_some (pv 4))) (pe_lst (pa_cons (pe_calG C__law_one hr rfl (pa_cons (pv 0) (pa_cons (pv 5) pa_nil))) pa_nil))) (pe_slice (kSl (K := K) (r := rSlL) rfl sl_list) (pv 3) (po_some (pe_op (kOp (K := K) (r := uAdd) rfl opu_add) (pv 4) (pe_calG C__law_pull hr rfl (pa_cons (pv 0) (pa_cons pe_int pa_nil))))) po_none)) pa_nil))))))) pss_nil)
 (pss_cons (ps_ifT (i := 0) (pv 2) (kOp (K := K) (r := uEq) rfl (opu_eq hr.units)) (CwR.psst_one (CwR.pst_ret (pet_rep1 (pv 1) (pe_op (kOp (K := K) (r := uAdd) rfl opu_add) pe_int (pe_calG C__law_pull hr rfl (pa_cons (pv 0) (pa_cons pe_int pa_nil)))) nb))))
 (pss_cons (ps_set (i := 6) sc__law_bent.nd rfl (.inl rfl) (pe_calG C__law_pull hr rfl (pa_cons (pv 0) (pa_cons (pe_op (kOp (K := K) (r := uAdd) rfl opu_add) (pe_callB (kCall (K := K) (r := uLen) rfl callu_len) (by rfl) B.b_len (by decide +kernel) (pa_cons (pv 1) pa_nil)) pe_int) pa_nil))))
 (pss_cons (ps_set (i := 7) sc__law_bent.nd rfl (.inl rfl) (pe_calG C__law_one hr rfl (pa_cons (pv 0) (pa_cons (pe_lst (pa_cons pe_str (pa_cons pe_str (pa_cons pe_str (pa_cons pe_str (pa_cons pe_str (pa_cons pe_str (pa_cons pe_str (pa_cons pe_str (pa_cons pe_str (pa_cons pe_str (pa_cons pe_str (pa_cons pe_str (pa_cons pe_str (pa_cons pe_str (pa_cons pe_str pa_nil)))))))))))))))) pa_nil))))
 (pss_one (ps_ret (pe_op (kOp (K := K) (r := uAdd) rfl opu_add) (pe_op (kOp (K := K) (r := uAdd) rfl opu_add) (pe_slice sl_str (pv 1) po_none (po_some (pv 6))) (pv 7)) (pe_slice sl_str (pv 1) (po_some (pe_op (kOp (K := K) (r := uAdd) rfl opu_add) (pv 6) (pe_calG C__law_pull hr rfl (pa_cons (pv 0) (pa_cons pe_int pa_nil))))) po_none))))))))))))), rd_start (σ0 := [some (.ref b), some (.str z), none, none, none, none, none, none]) rfl ?_⟩
 repeat walk_at "rd"
 refine ⟨b, cs, _, rfl, hB, by decide, by decide, fun fk H1 k0 k1 hB1 e1 => ?_⟩
 repeat walk_at "rd"
 refine ⟨z, " ", rfl, rfl, by decide +kernel, zs2, fun pw hpw => ?_⟩
 have hP := split_pcs hz
 have wp := PyProof.Rows.split_pos z " "
 have wle := PyProof.Rows.split_le z " "
 have gw : Fr [] H1 (upd H1 pw (.lst ((Txt.split z " ").map V.str))) := Fr.new hpw
 have lw : (upd H1 pw (.lst ((Txt.split z " ").map V.str))) pw = some (.lst ((Txt.split z " ").map V.str)) := upd_same
 have bw : pw ≠ b := (hB1.some hpw).1
 have hB2 := hB1.fr0 gw
 have e2 := e1.trans gw.nil
 generalize upd H1 pw (.lst ((Txt.split z " ").map V.str)) = H2 at *
 generalize Txt.split z " " = ws at *
 have wl : ws.length ≤ 2010 := by omega
 have fin : ∀ (ys : List Str) (p' : Addr) (H' : Hp), Pcs (2 * N + 40) (2 * M + 1) ys → H' p' = some (.lst (ys.map V.str)) → BagAt H' b cs → Fr [b] H H' → rJoin K (.str " ") [.ref p'] H' Q := fun ys p' H' hy h' hB' e' => by
  refine ⟨" ", p', ys, rfl, rfl, .inl (SqL.of h'), ?_, q _ _ hy.join hB' e'⟩
  have e : (ys.map fun y => y.length + 1).sum = (ys.map (·.length)).sum + ys.length := by
   clear hy h'
   induction ys with
   | nil => rfl
   | cons a r ih => rw [List.map_cons, List.sum_cons, List.map_cons, List.sum_cons, List.length_cons, ih]; omega
  have k := hy.len
  rw [e] at k
  have l1 : (" " : Str).length = 1 := by decide +kernel
  rw [l1]; omega
 repeat walk_at "rd"
 refine ⟨b, cs, _, rfl, hB2, by rw [List.length_map]; omega, Int.lt_of_le_of_lt (b := 3000) (by rw [List.length_map]; omega) (by decide), fun sp H3 s0 s1 hB3 e3 => ?_⟩
 obtain ⟨n, rfl⟩ : ∃ n : Nat, sp = (n : Int) := ⟨sp.toNat, by omega⟩
 have lw3 := e3.at lw (fun z => bw (List.mem_singleton.mp z))
 have e03 := e2.trans e3
 have tkl : (ws.take n).length ≤ ws.length := by rw [List.length_take]; omega
 have hn1 : (n : Int) + 1 = ((n + 1 : Nat) : Int) := by omega
 repeat walk_at "rd"
 refine g_by (fun c0 => ?_) (fun c0 => ?_)
 ·repeat walk_at "rd"
  refine g_tk lw3 fun r4 H4 e4 l4 => ?_
  have lw4 := e4.at lw3 (fun z => nomatch z)
  repeat walk_at "rd"
  rw [hn1]
  refine g_dp lw4 fun r5 H5 e5 l5 => ?_
  have l45 := e5.at l4 (fun z => nomatch z)
  refine g_ad l45 l5 (by rw [List.length_take, List.length_drop]; omega) fun r6 H6 e6 l6 => ?_
  repeat walk_at "rd"
  have E := (e4.trans e5).trans e6
  exact fin _ r6 H6 ⟨Nat.le_trans ((hP.sub (List.take_sublist n ws)).app (hP.sub (List.drop_sublist (n + 1) ws))).len (by omega), Nat.le_trans ((hP.sub (List.take_sublist n ws)).app (hP.sub (List.drop_sublist (n + 1) ws))).ops (by omega), ((hP.sub (List.take_sublist n ws)).app (hP.sub (List.drop_sublist (n + 1) ws))).ok, ((hP.sub (List.take_sublist n ws)).app (hP.sub (List.drop_sublist (n + 1) ws))).nl⟩ l6 (hB3.fr0 E) (e03.trans E.nil)
 repeat walk_at "rd"
 refine g_by (fun c1 => ?_) (fun c1 => ?_)
 ·repeat walk_at "rd"
  rw [hn1]
  refine g_tk lw3 fun r4 H4 e4 l4 => ?_
  have lw4 := e4.at lw3 (fun z => nomatch z)
  repeat walk_at "rd"
  refine g_dp lw4 fun r5 H5 e5 l5 => ?_
  have l45 := e5.at l4 (fun z => nomatch z)
  refine g_ad l45 l5 (by rw [List.length_take, List.length_drop]; omega) fun r6 H6 e6 l6 => ?_
  repeat walk_at "rd"
  have E := (e4.trans e5).trans e6
  have pp := (hP.sub (List.take_sublist (n + 1) ws)).app (hP.sub (List.drop_sublist n ws))
  exact fin _ r6 H6 ⟨Nat.le_trans pp.len (by omega), Nat.le_trans pp.ops (by omega), pp.ok, pp.nl⟩ l6 (hB3.fr0 E) (e03.trans E.nil)
 repeat walk_at "rd"
 refine g_by (fun c2 => ?_) (fun c2 => ?_)
 ·repeat walk_at "rd"
  refine ⟨le_of (by simp), fun pa hpa => ?_⟩
  have fa : AllTO 31 1 [V.str "if", .str "not", .str "is", .str ",", .str "(", .str ")", .str "count", .str "sum", .str "-1", .str "- 1", .str "me"] := allTO_cons (TO.lit (by decide +kernel)) (allTO_cons (TO.lit (by decide +kernel)) (allTO_cons (TO.lit (by decide +kernel)) (allTO_cons (TO.lit (by decide +kernel)) (allTO_cons (TO.lit (by decide +kernel)) (allTO_cons (TO.lit (by decide +kernel)) (allTO_cons (TO.lit (by decide +kernel)) (allTO_cons (TO.lit (by decide +kernel)) (allTO_cons (TO.lit (by decide +kernel)) (allTO_cons (TO.lit (by decide +kernel)) (allTO_cons (TO.lit (by decide +kernel)) allTO_nil))))))))))
  have na : [V.str "if", .str "not", .str "is", .str ",", .str "(", .str ")", .str "count", .str "sum", .str "-1", .str "- 1", .str "me"].length = 11 := rfl
  have ga : Fr [] H3 (upd H3 pa (.lst [V.str "if", .str "not", .str "is", .str ",", .str "(", .str ")", .str "count", .str "sum", .str "-1", .str "- 1", .str "me"])) := Fr.new hpa
  have la : (upd H3 pa (.lst [V.str "if", .str "not", .str "is", .str ",", .str "(", .str ")", .str "count", .str "sum", .str "-1", .str "- 1", .str "me"])) pa = some (.lst [V.str "if", .str "not", .str "is", .str ",", .str "(", .str ")", .str "count", .str "sum", .str "-1", .str "- 1", .str "me"]) := upd_same
  generalize upd H3 pa (.lst [V.str "if", .str "not", .str "is", .str ",", .str "(", .str ")", .str "count", .str "sum", .str "-1", .str "- 1", .str "me"]) = Ha at *
  generalize [V.str "if", .str "not", .str "is", .str ",", .str "(", .str ")", .str "count", .str "sum", .str "-1", .str "- 1", .str "me"] = xa at *
  repeat walk_at "rd"
  refine g_mulS (by decide) (by decide) (by decide +kernel) (by decide +kernel) ?_
  have t31 : TO 31 1 (⟨(List.replicate (31 : Int).toNat ("1" : Str).cps).foldl (· ++ ·) #[]⟩ : Str) := TO.lit (by decide +kernel)
  generalize (⟨(List.replicate (31 : Int).toNat ("1" : Str).cps).foldl (· ++ ·) #[]⟩ : Str) = y31 at *
  repeat walk_at "rd"
  refine ⟨le_of (by simp), fun pb hpb => ?_⟩
  have fb : AllTO 31 1 [V.str "x", .str "a.b", .str "_", .str "h.b(x)", .str "=", .str "01", .str y31, .str "h.p.q.r(x)", .str "h.if(x)", .str "h.me.q(x)"] := allTO_cons (TO.lit (by decide +kernel)) (allTO_cons (TO.lit (by decide +kernel)) (allTO_cons (TO.lit (by decide +kernel)) (allTO_cons (TO.lit (by decide +kernel)) (allTO_cons (TO.lit (by decide +kernel)) (allTO_cons (TO.lit (by decide +kernel)) (allTO_cons t31 (allTO_cons (TO.lit (by decide +kernel)) (allTO_cons (TO.lit (by decide +kernel)) (allTO_cons (TO.lit (by decide +kernel)) allTO_nil)))))))))
  have nb2 : [V.str "x", .str "a.b", .str "_", .str "h.b(x)", .str "=", .str "01", .str y31, .str "h.p.q.r(x)", .str "h.if(x)", .str "h.me.q(x)"].length = 10 := rfl
  have gb : Fr [] Ha (upd Ha pb (.lst [V.str "x", .str "a.b", .str "_", .str "h.b(x)", .str "=", .str "01", .str y31, .str "h.p.q.r(x)", .str "h.if(x)", .str "h.me.q(x)"])) := Fr.new hpb
  have lb : (upd Ha pb (.lst [V.str "x", .str "a.b", .str "_", .str "h.b(x)", .str "=", .str "01", .str y31, .str "h.p.q.r(x)", .str "h.if(x)", .str "h.me.q(x)"])) pb = some (.lst [V.str "x", .str "a.b", .str "_", .str "h.b(x)", .str "=", .str "01", .str y31, .str "h.p.q.r(x)", .str "h.if(x)", .str "h.me.q(x)"]) := upd_same
  have lab := gb.at la (fun z => nomatch z)
  generalize upd Ha pb (.lst [V.str "x", .str "a.b", .str "_", .str "h.b(x)", .str "=", .str "01", .str y31, .str "h.p.q.r(x)", .str "h.if(x)", .str "h.me.q(x)"]) = Hb at *
  generalize [V.str "x", .str "a.b", .str "_", .str "h.b(x)", .str "=", .str "01", .str y31, .str "h.p.q.r(x)", .str "h.if(x)", .str "h.me.q(x)"] = xb at *
  refine g_addL lab lb (le_of (by omega)) (fun pc hpc => ?_)
  have fc := allTO_app fa fb
  have nc : (xa ++ xb).length = 21 := by rw [List.length_append]; omega
  have gc : Fr [] Hb (upd Hb pc (.lst (xa ++ xb))) := Fr.new hpc
  have lc : (upd Hb pc (.lst (xa ++ xb))) pc = some (.lst (xa ++ xb)) := upd_same
  have hBc := hB3.fr0 ((ga.trans gb).trans gc)
  have ec := e03.trans ((ga.trans gb).trans gc).nil
  have lwc := ((ga.trans gb).trans gc).at lw3 (fun z => nomatch z)
  have bc : pc ≠ b := ((hB3.fr0 (ga.trans gb)).some hpc).1
  generalize upd Hb pc (.lst (xa ++ xb)) = Hc at *
  generalize xa ++ xb = xc at *
  repeat walk_at "rd"
  refine g_tk lwc fun r4 H4 e4 l4 => ?_
  have lc4 := e4.at lc (fun z => nomatch z)
  have lw4 := e4.at lwc (fun z => nomatch z)
  have hB4 := hBc.fr0 e4
  have b4 : r4 ≠ b := fun z => by
   obtain ⟨cells, i, r, k, h1, _⟩ := hB4.ex
   rw [z, h1] at l4
   obtain ⟨s1, hs1, hz1⟩ := List.mem_map.mp (show V.ref cs ∈ (ws.take n).map V.str by
    have := (HO.lst.inj (Option.some.inj l4)).symm
    rw [this]; simp [bagO])
   cases hz1
  repeat walk_at "rd"
  refine ⟨b, cs, pc, xc, rfl, hB4, .inl ⟨SqL.of lc4, bc⟩, by omega, by omega, fun v H5 hv hB5 e5 => ?_⟩
  obtain ⟨y, rfl, hy⟩ := fc v hv
  have l45 := e5.at l4 (fun z => b4 (List.mem_singleton.mp z))
  have lw5 := e5.at lw4 (fun z => bw (List.mem_singleton.mp z))
  repeat walk_at "rd"
  refine ⟨le_of (by simp), fun p6 hp6 => ?_⟩
  have e6 : Fr [] H5 (upd H5 p6 (.lst [.str y])) := Fr.new hp6
  have l6 : (upd H5 p6 (.lst [.str y])) p6 = some (.lst (([y] : List Str).map V.str)) := upd_same
  have l46 := e6.at l45 (fun z => nomatch z)
  have lw6 := e6.at lw5 (fun z => nomatch z)
  have hB6 := hB5.fr0 e6
  generalize upd H5 p6 (.lst [.str y]) = H6 at *
  refine g_ad l46 l6 (by simp; omega) fun r7 H7 e7 l7 => ?_
  have lw7 := e7.at lw6 (fun z => nomatch z)
  have hB7 := hB6.fr0 e7
  have b7 : r7 ≠ b := fun z => by
   obtain ⟨cells, i, r, k, h1, _⟩ := hB7.ex
   rw [z, h1] at l7
   obtain ⟨s1, hs1, hz1⟩ := List.mem_map.mp (show V.ref cs ∈ (ws.take n ++ [y]).map V.str by
    have := (HO.lst.inj (Option.some.inj l7)).symm
    rw [this]; simp [bagO])
   cases hz1
  repeat walk_at "rd"
  refine ⟨b, cs, _, rfl, hB7, by decide, by decide, fun d8 H8 d0 d1 hB8 e8 => ?_⟩
  obtain ⟨m, rfl⟩ : ∃ m : Nat, d8 = (m : Int) := ⟨d8.toNat, by omega⟩
  have lw8 := e8.at lw7 (fun z => bw (List.mem_singleton.mp z))
  have l78 := e8.at l7 (fun z => b7 (List.mem_singleton.mp z))
  repeat walk_at "rd"
  rw [show (n : Int) + (m : Int) = ((n + m : Nat) : Int) by omega]
  refine g_dp lw8 fun r9 H9 e9 l9 => ?_
  have l79 := e9.at l78 (fun z => nomatch z)
  refine g_ad l79 l9 (by rw [List.length_append, List.length_take, List.length_drop]; simp; omega) fun rx Hx ex lx => ?_
  repeat walk_at "rd"
  have pp := ((hP.sub (List.take_sublist n ws)).app (Pcs.one hy)).app (hP.sub (List.drop_sublist (n + m) ws))
  exact fin _ rx Hx ⟨Nat.le_trans pp.len (by omega), Nat.le_trans pp.ops (by omega), pp.ok, pp.nl⟩ lx (hB8.fr0 (e9.trans ex)) ((((((ec.trans e4.nil).trans e5).trans e6.nil).trans e7.nil).trans e8).trans (e9.trans ex).nil)
 repeat walk_at "rd"
 refine g_by (fun c3 => ?_) (fun c3 => ?_)
 ·repeat walk_at "rd"
  refine ge_rep1 ?_
  repeat walk_at "rd"
  refine ⟨z, rfl, by omega, ?_⟩
  repeat walk_at "rd"
  refine ⟨b, cs, _, rfl, hB3, by decide, by decide, fun d8 H8 d0 d1 hB8 e8 => ?_⟩
  repeat walk_at "rd"
  exact ⟨by omega, by omega, q _ _ ((rep_to hz (by omega) (by omega)).mono (by omega) (by omega)) hB8 (e03.trans e8)⟩
 repeat walk_at "rd"
 refine g_lenS zs ?_
 repeat walk_at "rd"
 refine ⟨b, cs, _, rfl, hB3, by omega, Int.lt_of_le_of_lt (b := 3000) (by omega) (by decide), fun pl H4 s0 s1 hB4 e4 => ?_⟩
 repeat walk_at "rd"
 refine ⟨le_of (by simp), fun pa hpa => ?_⟩
 have fa : AllTO 1 1 [V.str "", .str "(", .str ")", .str ",", .str "'", .str "-", .str "0", .str ".", .str "A", .str "_", .str "!", .str "=", .str " ", .str "a", .str "*"] := allTO_cons (TO.lit (by decide +kernel)) (allTO_cons (TO.lit (by decide +kernel)) (allTO_cons (TO.lit (by decide +kernel)) (allTO_cons (TO.lit (by decide +kernel)) (allTO_cons (TO.lit (by decide +kernel)) (allTO_cons (TO.lit (by decide +kernel)) (allTO_cons (TO.lit (by decide +kernel)) (allTO_cons (TO.lit (by decide +kernel)) (allTO_cons (TO.lit (by decide +kernel)) (allTO_cons (TO.lit (by decide +kernel)) (allTO_cons (TO.lit (by decide +kernel)) (allTO_cons (TO.lit (by decide +kernel)) (allTO_cons (TO.lit (by decide +kernel)) (allTO_cons (TO.lit (by decide +kernel)) (allTO_cons (TO.lit (by decide +kernel)) allTO_nil))))))))))))))
 have ga : Fr [] H4 (upd H4 pa (.lst [V.str "", .str "(", .str ")", .str ",", .str "'", .str "-", .str "0", .str ".", .str "A", .str "_", .str "!", .str "=", .str " ", .str "a", .str "*"])) := Fr.new hpa
 have la : (upd H4 pa (.lst [V.str "", .str "(", .str ")", .str ",", .str "'", .str "-", .str "0", .str ".", .str "A", .str "_", .str "!", .str "=", .str " ", .str "a", .str "*"])) pa = some (.lst [V.str "", .str "(", .str ")", .str ",", .str "'", .str "-", .str "0", .str ".", .str "A", .str "_", .str "!", .str "=", .str " ", .str "a", .str "*"]) := upd_same
 have ba : pa ≠ b := (hB4.some hpa).1
 have hBa := hB4.fr0 ga
 generalize upd H4 pa (.lst [V.str "", .str "(", .str ")", .str ",", .str "'", .str "-", .str "0", .str ".", .str "A", .str "_", .str "!", .str "=", .str " ", .str "a", .str "*"]) = Ha at *
 repeat walk_at "rd"
 refine ⟨b, cs, pa, _, rfl, hBa, .inl ⟨SqL.of la, ba⟩, by decide, by decide, fun v H5 hv hB5 e5 => ?_⟩
 obtain ⟨y, rfl, hy⟩ := fa v hv
 repeat walk_at "rd"
 refine g_slS zs ?_
 have t1 : TO N M (cutS z none (some pl)) := hz.cut
 repeat walk_at "rd"
 refine g_addT t1.tx hy.tx (by omega) ?_
 have t2 := t1.app hy
 repeat walk_at "rd"
 refine ⟨b, cs, _, rfl, hB5, by decide, by decide, fun d8 H8 d0 d1 hB8 e8 => ?_⟩
 repeat walk_at "rd"
 refine g_slS zs ?_
 have t3 : TO N M (cutS z (some (pl + d8)) none) := hz.cut
 refine g_addT t2.tx t3.tx (by omega) ?_
 exact q _ _ ((t2.app t3).mono (by omega) (by omega)) hB8 ((((e03.trans e4).trans ga.nil).trans e5).trans e8)
end
theorem nextT_n {z : Str} {n m : Nat} {l : Option Th} {t : Th} (h : nextT z n l = some (t, m)) : t.n = n := by
 unfold nextT at h
 split at h
 ·cases h
 ·split at h
  ·cases hw : wordT z n with
   | none => rw [hw] at h; cases h
   | some q => rw [hw] at h; cases h; rfl
  ·split at h
   ·cases hw : runT (cutS z (some (n : Int)) (some ((runE z.cps.toList (n + 1) : Nat) : Int))) with
    | none => rw [hw] at h; cases h
    | some q => rw [hw] at h; cases h; rfl
   ·split at h
    ·cases h; rfl
    ·split at h
     ·cases h; rfl
     ·cases h
theorem Cuts.places {z : Str} {n : Nat} {ts : List Th} {r : Except Nat (List Th)} (h : Cuts z n ts r) (hs : ∀ t ∈ ts, t.n ≤ z.length) : (∀ e, r = .error e → e ≤ z.length) ∧ ∀ ts', r = .ok ts' → ∀ t ∈ ts', t.n ≤ z.length := by
 induction h with
 | stop l =>
  refine ⟨(fun e z => nomatch z), fun ts' e t ht => ?_⟩
  cases e
  rcases List.mem_append.mp ht with ht | ht
  ·exact hs t ht
  ·rw [List.mem_singleton.mp ht]; exact Nat.le_refl _
 | skip a b c ih => exact ih hs
 | bad a b c => exact ⟨fun e h => by cases h; omega, fun _ z => nomatch z⟩
 | step a b c d ih =>
  refine ih fun t ht => ?_
  rcases List.mem_append.mp ht with ht | ht
  ·exact hs t ht
  ·rw [List.mem_singleton.mp ht, nextT_n c]; omega
theorem tkn_mem {ts : List Th} (i : Nat) : tkn ts i ∈ ts ∨ tkn ts i = ⟨"end", .str "", 0⟩ := by
 unfold tkn
 rw [List.getD_eq_getElem?_getD]
 cases e : ts[i]? with
 | none => exact .inr rfl
 | some t => exact .inl (List.mem_of_getElem? e)
theorem read_place {z : Str} {F : List Th → Res → Prop} {n : Nat} (h : ReadR z F (.error n)) : n ≤ z.length := by
 rcases h with ⟨e, h1, h2⟩ | ⟨ts, h1, h2⟩
 ·cases h2; exact (h1.places (fun _ z => nomatch z)).1 _ rfl
 ·rcases h2 with ⟨d, j, _, h3⟩ | ⟨e, _, h3⟩
  ·cases h3
  ·cases h3
   rcases tkn_mem (ts := ts) e with h | h
   ·exact (h1.places (fun _ z => nomatch z)).2 _ rfl _ h
   ·rw [h]; exact Nat.zero_le _
theorem Cuts.okTs {z : Str} {ts : List Th} (h : Cuts z 0 [] (.ok ts)) (hz : Tx 8999 z) : OkTs ts :=
 ⟨fun i => by
  rcases tkn_mem (ts := ts) i with k | k
  ·exact (Cuts.okT (hz.mono (by omega)) h rfl (fun _ z => nomatch z) _ k).2
  ·rw [k]; exact ⟨by show Str.length "" ≤ 9000; decide +kernel, fun c hc => by
   have e : (("" : Str).cps.toList) = [] := by decide +kernel
   have hc2 : c ∈ ("" : Str).cps.toList := hc
   rw [e] at hc2
   cases hc2⟩, h.goodTs hz.len⟩
theorem read_sm {z : Str} {wh : Int} {d : PyData} {M : Nat} (hz : Tx 8999 z) (ho : opz z ≤ M) (h : ReadR z (whichR wh) (.ok d)) : Sm (6 + M) d := by
 rcases h with ⟨e, _, h2⟩ | ⟨ts, h1, h2⟩
 ·cases h2
 ·rcases h2 with ⟨d', j, h3, h4⟩ | ⟨e, _, h3⟩
  ·cases h4
   have g := h1.okTs hz
   have c := cuts_ops h1 rfl
   have c2 : ts.countP isOpT ≤ M := by
    simp only [List.countP_nil, List.drop_zero, Nat.zero_add] at c
    exact Nat.le_trans c ho
   unfold whichR at h3
   split at h3
   ·exact sm_mono (rule_bd g h3) (by omega)
   ·split at h3
    ·exact sm_mono (question_bd g h3) (by omega)
    ·exact sm_mono (tests_bd g h3) (by omega)
  ·cases h3
structure ExF (K : PySem.W.Frag) (a_BadText a_LoreError : Addr) : Prop where
 n1 : PySem.W.findIn K (.ref a_BadText) "word" = some none
 n2 : PySem.W.findIn K (.ref a_BadText) "at" = some none
 ex : PySem.W.exmOne K (.ref a_BadText) (.ref a_LoreError) = some true
 k1 : PySem.W.kitOne K (.ref a_BadText) (.ref a_BadText) = some true
structure BiQ (mg : Str → Option Value) : Prop where
 b_isinstance : mg "isinstance" = none
 b_range : mg "range" = none
def spTold (K : PySem.W.Frag) : Sp := fun vs H Q _ => ∃ z : Str, vs = [.str z] ∧ Tx 9000 z ∧ (linesS z).length ≤ 100 ∧ (∀ y ∈ linesS z, Tx 8999 y) ∧ (∀ ds v pr H', PapR (linesS z) 0 [] (.ok ds) → Fr [] H H' → Td K H' v (.tuple ds) → SqT K H' pr [v, .non] → Q (.ref pr) H') ∧
 ∀ n pr H', PapR (linesS z) 0 [] (.error n) → Fr [] H H' → SqT K H' pr [.non, .int ((n : Nat) : Int)] → Q (.ref pr) H'
abbrev s__law_told : Stmt := topS 71
theorem sc__law_told : FnScope ["_law_text", "_law_found", "_law_place", "e"] ["_law_text"] (defScope s__law_told) := ⟨rfl, rfl, rfl, by decide +kernel, rfl, by decide +kernel, by decide +kernel⟩
section
variable {P : Program} {w : World} {K : PySem.W.Frag} {mg : Str → Option Value} {base : Heap} {a_BadText a_LoreError : Addr} {f : Addr} {fd : FuncData}
theorem ok__law_told (F : FnP K "_law_told" s__law_told f fd) (B : BiQ mg) (C_read_paper : CalX P w K mg base 58 "read_paper" (spPaperX K a_BadText))
  (G_BadText : ClG P w K mg base 2 "BadText" a_BadText (spI1 K "badtext" "at")) (G_LoreError : ClG P w K mg base 1 "LoreError" a_LoreError (spL K)) (X : ExF K a_BadText a_LoreError) : FnG P w K mg base CX0 60 f fd ["_law_text"] (spTold K) := by
 refine okG F sc__law_told (fun vs H Q E h => ?_) (fun cdv A outer s H vs Q E hr h => ?_)
 ·obtain ⟨z, rfl, _⟩ := h
  rfl
 obtain ⟨z, rfl, hz, hl1, hln, q, qe⟩ := h
 refine ⟨_, PSs.nox (pss_cons (ps_set (i := 1) sc__law_told.nd rfl (.inl rfl) pe_non)
 (pss_cons (ps_set (i := 2) sc__law_told.nd rfl (.inl rfl) pe_non)
 (pss_cons (ps_tryK (K := K) (i := 3) (Wout := fun _ _ _ _ => False) rfl rfl rfl sc__law_told.nd rfl rfl ⟨rfl, by decide, .inl G_LoreError.m⟩ takes0 (fun W pn xe tk _ => by exact (pss_one (ps_set (i := 1) sc__law_told.nd rfl (.inl rfl) (pe_calX C_read_paper tk hr rfl (pa_cons (pv 0) pa_nil))))) (fun a oe cls d pn hz hf => by exact (pss_one (ps_set (i := 2) sc__law_told.nd rfl (.inl rfl) (pe_ifExp (pt_val (pe_callB (kCall (K := K) (r := fun K => rIsS K a cls d) rfl (call_isS hz hf)) (by rfl) B.b_isinstance (by decide +kernel) (pa_cons (pv 3) (pa_cons (pe_glob (v := .ref a_BadText) rfl G_BadText.m rfl) pa_nil)))) (kXs (K := K) rfl (pe_xs "at" hz hf (pv 3))) (pe_op opu_sub pe_int pe_int))))))
 (pss_one (ps_ret (pe_tup (pa_cons (pv 1) (pa_cons (pv 2) pa_nil)))))))), rd_start (σ0 := [some (.str z), none, none, none]) rfl ?_⟩
 repeat walk_at "rd"
 refine ⟨z, rfl, hz, hl1, hln, fun ds v H2 hm e2 td => ?_, fun n dd H2 hm e2 hd => ?_⟩
 ·repeat walk_at "rd"
  refine ⟨le_of (by simp), fun p2 hp2 => ?_⟩
  have e3 := Fr.new (M := []) (o := .tup [v, .non]) hp2
  exact q ds v p2 _ hm (e2.trans e3) (td.fr e3) (SqT.of upd_same)
 ·refine g_wAs X.ex fun a ha => ?_
  repeat walk_at "rd"
  refine ⟨a_BadText, dd, badAt n, .ref a_BadText, .ref a_BadText, true, rfl, rfl, rfl, hd, G_BadText.ec, fun u h => h, X.k1, ?_⟩
  repeat walk_at "rd"
  refine ⟨rfl, a_BadText, dd, badAt n, .int (n : Int), rfl, rfl, G_BadText.ec, X.n2, hd, rfl, ?_⟩
  repeat walk_at "rd"
  refine ⟨le_of (by simp), fun p2 hp2 => ?_⟩
  exact qe n p2 _ hm (e2.trans (Fr.new hp2)) (SqT.of upd_same)
end
def okD : Except Nat PyData → PyData
 | .ok d => d
 | .error _ => .none
def wrF : List Str → List (Except Nat PyData) → Nat → Option Nat
 | y :: ys, .ok _ :: rs, p => wrF ys rs (p + (y.length + 1))
 | _ :: _, .error n :: _, p => some (p + n)
 | _, _, _ => none
inductive RdAll : List Str → List (Except Nat PyData) → Prop
 | nil : RdAll [] []
 | cons {y : Str} {ys : List Str} {r : Except Nat PyData} {rs : List (Except Nat PyData)} : ReadR y RuleR r → RdAll ys rs → RdAll (y :: ys) (r :: rs)
def plen (ys : List Str) : Nat := (ys.map fun y => y.length + 1).sum
def wV : Option Nat → V
 | none => .non
 | some n => .int (n : Int)
theorem rule_det : ∀ ts r r', RuleR ts r → RuleR ts r' → r = r' := fun _ _ _ h h' => h.det h'
theorem pap_due {ys : List Str} {rs : List (Except Nat PyData)} (h : RdAll ys rs) : ∀ {p : Nat} {ds : List PyData} {r : Except Nat (List PyData)}, PapR ys p ds r → (∀ n, wrF ys rs p = some n → r = .error n) ∧ (wrF ys rs p = none → r = .ok (ds ++ rs.map okD)) := by
 induction h with
 | nil =>
  intro p ds r hp
  cases hp
  exact ⟨fun n e => (nomatch (show (none : Option Nat) = some n from e)), fun _ => by rw [List.map_nil, List.append_nil]⟩
 | @cons y ys r0 rs hr _ ih =>
  intro p ds r hp
  cases hp with
  | bad hb =>
   have e := ReadR.det rule_det hr hb
   subst e
   exact ⟨fun n e => by
    have e2 : some (p + _) = some n := e
    cases e2
    rfl, fun e => by cases e⟩
  | step hd hp =>
   have e := ReadR.det rule_det hr hd
   subst e
   obtain ⟨i1, i2⟩ := ih hp
   exact ⟨fun n e => i1 n e, fun e => by rw [i2 e]; simp [okD]⟩
theorem RdAll.snoc {ys : List Str} {rs : List (Except Nat PyData)} {y : Str} {r : Except Nat PyData} (h : RdAll ys rs) (k : ReadR y RuleR r) : RdAll (ys ++ [y]) (rs ++ [r]) := by
 induction h with
 | nil => exact .cons k .nil
 | cons a _ ih => exact .cons a ih
theorem wr_snoc {ys : List Str} {rs : List (Except Nat PyData)} {y : Str} {r : Except Nat PyData} (h : RdAll ys rs) : ∀ p, wrF (ys ++ [y]) (rs ++ [r]) p = match wrF ys rs p with
  | some n => some n
  | none => match r with
   | .error n => some (p + plen ys + n)
   | .ok _ => none := by
 induction h with
 | nil =>
  intro p
  cases r with
  | ok d => rfl
  | error n => show some (p + n) = some (p + 0 + n); rw [Nat.add_zero]
 | @cons y0 ys r0 rs hr _ ih =>
  intro p
  cases r0 with
  | error n => rfl
  | ok d =>
   have e1 : wrF (y0 :: ys) (.ok d :: rs) p = wrF ys rs (p + (y0.length + 1)) := rfl
   have e2 : wrF (y0 :: ys ++ [y]) (.ok d :: rs ++ [r]) p = wrF (ys ++ [y]) (rs ++ [r]) (p + (y0.length + 1)) := rfl
   have e3 : plen (y0 :: ys) = y0.length + 1 + plen ys := by unfold plen; rw [List.map_cons, List.sum_cons]
   rw [e1, e2, ih, e3]
   cases wrF ys rs (p + (y0.length + 1)) with
   | some n => rfl
   | none => cases r with
    | ok d => rfl
    | error n => show some (p + (y0.length + 1) + plen ys + n) = some (p + (y0.length + 1 + plen ys) + n); congr 1; omega
theorem plen_snoc (ys : List Str) (y : Str) : plen (ys ++ [y]) = plen ys + (y.length + 1) := by unfold plen; rw [List.map_append, List.sum_append]; simp
theorem RdAll.len {ys : List Str} {rs : List (Except Nat PyData)} (h : RdAll ys rs) : rs.length = ys.length := by
 induction h with
 | nil => rfl
 | cons _ _ ih => rw [List.length_cons, List.length_cons, ih]
theorem RdAll.sm {ys : List Str} {rs : List (Except Nat PyData)} (h : RdAll ys rs) (hy : ∀ y ∈ ys, TO 840 55 y) : ∀ d ∈ rs.map okD, Sm 61 d := by
 induction h with
 | nil => exact fun d hd => by cases hd
 | @cons y ys r rs hr _ ih =>
  intro d hd
  rcases List.mem_cons.mp hd with e | hd
  ·subst e
   cases r with
   | ok d => exact read_sm (wh := 0) ((hy y List.mem_cons_self).tx.mono (by decide)) (hy y List.mem_cons_self).ops hr
   | error n => show Sm 61 .none; simp only [Sm]
  ·exact ih (fun y h => hy y (List.mem_cons_of_mem _ h)) d hd
theorem lines_join (ts : List Str) (hn : ∀ t ∈ ts, 10 ∉ t.cps.toList) : linesS (Txt.join "\n" ts) = if ts = [("" : Str)] then [] else ts := by
 match ts, hn with
 | [], _ =>
  have e : Txt.join "\n" [] = "" := by rw [show Txt.join "\n" [] = Str.empty from rfl]; decide +kernel
  rw [e, if_neg (by simp)]
  unfold linesS
  rw [if_pos rfl]
 | [t], hn =>
  have e : Txt.join "\n" [t] = t := by rw [TL.join_eq]; rfl
  rw [e]
  unfold linesS
  by_cases c : t = ""
  ·rw [if_pos c, if_pos (by rw [c])]
  ·rw [if_neg c, if_neg (fun h => c (by injection h))]
   have := TL.split_join (y := "\n") (s := 10) (S := []) (parts := [t]) (by decide +kernel) (by decide +kernel) (by simp) hn
   rwa [e] at this
 | t :: u :: r, hn =>
  rw [if_neg (by simp)]
  unfold linesS
  rw [if_neg]
  ·exact TL.split_join (y := "\n") (s := 10) (S := []) (by decide +kernel) (by decide +kernel) (by simp) hn
  ·intro e
   rw [join_cons] at e
   have z := congrArg (fun s : Str => s.cps.toList.length) e
   simp only [tl_app, List.length_append] at z
   have z2 : ("\n" : Str).cps.toList.length = 1 := by decide +kernel
   have z3 : ("" : Str).cps.toList.length = 0 := by decide +kernel
   omega
abbrev s_law : Stmt := topS 72
theorem sc_law : FnScope ["_law_script", "_law_bag_here", "_law_k", "_law_texts", "_law_spot", "_law_due", "_law_place", "_law_wrong", "_law_text", "_law_rule", "_law_bad", "_law_whole", "_law_j"] ["_law_script"] (defScope s_law) := ⟨rfl, rfl, rfl, by decide +kernel, rfl, by decide +kernel, by decide +kernel⟩
def spLaw (K : PySem.W.Frag) : Sp := fun vs H Q _ => ∃ (a : Addr) (ns : List Int), vs = [.ref a] ∧ SqL K H a (ns.map V.int) ∧ ns.length ≤ 63 ∧ ∀ H', Q (.bl true) H'
theorem sm_nat {n m : Nat} (h : n ≤ 10000) : Sm (m + 1) (.int (n : Int)) := by
 simp only [Sm]
 rw [Int.natAbs_natCast]
 by_cases z : n = 0
 ·rw [z]; decide
 ·exact Nat.lt_of_lt_of_le ((Nat.log2_lt z).mpr (Nat.lt_of_le_of_lt h (by decide : 10000 < 2 ^ 14))) (by decide)
theorem eqv_one (ts : List Str) : PyData.eqv (.list (ts.map PyData.str)) (.list [.str ""]) = decide (ts = [("" : Str)]) := by
 match ts with
 | [] => simp [PyData.eqv, PyData.eqvAll]
 | [t] => simp [PyData.eqv, PyData.eqvAll]; rfl
 | t :: u :: r => simp [PyData.eqv, PyData.eqvAll]
theorem strs_dpa {K : PySem.W.Frag} {H : Hp} : ∀ ts : List Str, DpAll K H (ts.map V.str) (ts.map PyData.str)
 | [] => .nil
 | t :: r => .cons (.str t) (strs_dpa r)
theorem strs_shaped {ws : List Str} (h : ∀ x ∈ ws, PyData.strOk x = true) : SeqAt.shaped (.list (ws.map PyData.str)) = true := by
 have h1 : ∀ ws : List Str, (∀ x ∈ ws, PyData.strOk x = true) → PyData.canLayAll0 (ws.map .str) = true := by
  intro ws h
  induction ws with
  | nil => simp only [List.map_nil, PyData.canLayAll0]
  | cons x r ih => simp only [List.map_cons, PyData.canLayAll0, PyData.canLay0, h x List.mem_cons_self, ih fun y hy => h y (List.mem_cons_of_mem _ hy), Bool.and_self]
 have h2 : ∀ ws : List Str, PyData.depthAll (ws.map .str) = 0 := by
  intro ws
  induction ws with
  | nil => simp only [List.map_nil, PyData.depthAll]
  | cons x r ih => simp only [List.map_cons, PyData.depthAll, PyData.depth, ih, Nat.max_self]
 unfold SeqAt.shaped
 simp only [PyData.canLay0, h1 ws h, PyData.depth, h2 ws, Bool.true_and]
 decide
theorem Tx.sok {n : Nat} {x : Str} (h : Tx n x) : PyData.strOk x = true := by
 unfold PyData.strOk
 rw [← Array.all_toList]
 exact List.all_eq_true.mpr fun c hc => decide_eq_true (h.ok c hc)
structure BiK (mg : Str → Option Value) : Prop where
 b_range : mg "range" = none
 b_len : mg "len" = none
 b_tuple : mg "tuple" = none
section
variable {P : Program} {w : World} {K : PySem.W.Frag} {mg : Str → Option Value} {base : Heap} {f : Addr} {fd : FuncData}
theorem ok_law (F : FnP K "law" s_law f fd) (B : BiK mg) (C__law_bag : CalG P w K mg base 10 "_law_bag" (spBag K)) (C__law_pull : CalG P w K mg base 10 "_law_pull" spPull) (C__law_one : CalG P w K mg base 20 "_law_one" (spOne K)) (C__law_plain_text : CalG P w K mg base 40 "_law_plain_text" spPlain) (C__law_bent : CalG P w K mg base 40 "_law_bent" spBent)
  (C__law_told : CalG P w K mg base 60 "_law_told" (spTold K)) (C__law_read_due : CalG P w K mg base 68 "_law_read_due" (spLDue K)) (C__law_same : CalG P w K mg base 130 "_law_same" (spSame K 130)) : FnG P w K mg base CX0 140 f fd ["_law_script"] (spLaw K) := by
 refine okG F sc_law (fun vs H Q E h => ?_) (fun cdv A outer s H vs Q E hr h => ?_)
 ·obtain ⟨a, ns, rfl, _⟩ := h
  rfl
 obtain ⟨a, ns, rfl, hS, hl, q⟩ := h
 refine ⟨_, PSs.nox (pss_cons (ps_set (i := 1) sc_law.nd rfl (.inr rfl) (pe_calG C__law_bag hr rfl (pa_cons (pv 0) pa_nil)))
 (pss_cons (ps_for PassesOwn.never rfl (pi_range1 rfl B.b_range (pa_cons pe_int pa_nil)) (pg_name (i := 2) sc_law.nd rfl (by first | exact Or.inl rfl | exact Or.inr rfl)) (pss_cons (ps_setLc (i := 3) (own := [("_law_j", 12)]) (g := gName 12) (tt := tYes) rfl sc_law.nd rfl rfl (sw_true rfl rfl rfl (by decide +kernel)) (pi_range1 rfl B.b_range (pa_cons (pe_calG C__law_pull hr rfl (pa_cons (pv 1) (pa_cons pe_int pa_nil))) pa_nil)) (blkOk_by (own := [("_law_j", 12)]) (N := ["_law_script", "_law_bag_here", "_law_k", "_law_texts", "_law_spot", "_law_due", "_law_place", "_law_wrong", "_law_text", "_law_rule", "_law_bad", "_law_whole", "_law_j"]) (sc := defScope s_law) (by decide +kernel)) (fun _ _ _ _ _ => (by exact (pg_name (i := 12) sc_law.nd rfl (by first | exact Or.inl rfl | exact Or.inr rfl)))) (fun _ _ _ _ _ => pts_nil) (fun _ _ _ _ _ => (by exact (pe_calG C__law_plain_text hr rfl (pa_cons (pv 1) (pa_cons pe_int pa_nil))))))
 (pss_cons (ps_if (PW.pt (pw_and (pt_cmpR (kOp (K := K) (r := uNe) rfl (opu_ne hr.units)) (pv 3) (pe_lst pa_nil) (nomark _)) (pw_and1 (pt_cmpR (kOp (K := K) (r := uEq) rfl (opu_eq hr.units)) (pe_calG C__law_pull hr rfl (pa_cons (pv 1) (pa_cons pe_int pa_nil))) pe_int (nomark _))))) (pss_cons (ps_set (i := 4) sc_law.nd rfl (.inl rfl) (pe_calG C__law_pull hr rfl (pa_cons (pv 1) (pa_cons (pe_callB (kCall (K := K) (r := uLen) rfl callu_len) (by rfl) B.b_len (by decide +kernel) (pa_cons (pv 3) pa_nil)) pa_nil))))
 (pss_one (ps_asg (pe_calG C__law_one hr rfl (pa_cons (pv 1) (pa_cons (pe_lst (pa_cons pe_str (pa_cons pe_str (pa_cons (pe_calG C__law_bent hr rfl (pa_cons (pv 1) (pa_cons (pe_ix (kIx (K := K) (r := rIx) rfl ix_seq) (pv 3) (pv 4) (fun _ _ => rfl)) pa_nil))) (pa_cons (pe_calG C__law_bent hr rfl (pa_cons (pv 1) (pa_cons (pe_ix (kIx (K := K) (r := rIx) rfl ix_seq) (pv 3) (pv 4) (fun _ _ => rfl)) pa_nil))) pa_nil))))) pa_nil))) (pg_sub (pv 3) (pv 4) set_list)))) pss_nil)
 (pss_cons (ps_set (i := 5) sc_law.nd rfl (.inl rfl) (pe_lst pa_nil))
 (pss_cons (ps_set (i := 6) sc_law.nd rfl (.inl rfl) pe_int)
 (pss_cons (ps_set (i := 7) sc_law.nd rfl (.inl rfl) pe_non)
 (pss_cons (ps_for PassesOwn.never rfl (pi_listK (K := K) rfl (pv 3)) (pg_name (i := 8) sc_law.nd rfl (by first | exact Or.inl rfl | exact Or.inr rfl)) (pss_cons (ps_asg (pe_calG C__law_read_due hr rfl (pa_cons (pv 8) (pa_cons pe_int pa_nil))) (pg_tupK (K := K) rfl rfl (pgs_cons (pg_name (i := 9) sc_law.nd rfl (by first | exact Or.inl rfl | exact Or.inr rfl)) (pgs_cons (pg_name (i := 10) sc_law.nd rfl (by first | exact Or.inl rfl | exact Or.inr rfl)) pgs_nil))))
 (pss_cons (ps_if (PW.pt (pw_and (pt_cmpR opu_isNot (pv 10) pe_non (nomark _)) (pw_and1 (pt_cmpR opu_is (pv 7) pe_non (nomark _))))) (pss_one (ps_set (i := 7) sc_law.nd rfl (.inl rfl) (pe_op (kOp (K := K) (r := uAdd) rfl opu_add) (pv 6) (pv 10)))) pss_nil)
 (pss_cons (ps_expr (kBM (K := K) rfl (pe_bm PySem.F.plainAttrs_list PySem.F.slot_list_append PySem.F.type_list_append mt_append (pv 5) (pa_cons (pv 9) pa_nil))))
 (pss_one (ps_set (i := 6) sc_law.nd rfl (.inl rfl) (pe_op (kOp (K := K) (r := uAdd) rfl opu_add) (pe_op (kOp (K := K) (r := uAdd) rfl opu_add) (pv 6) (pe_callB (kCall (K := K) (r := uLen) rfl callu_len) (by rfl) B.b_len (by decide +kernel) (pa_cons (pv 8) pa_nil))) pe_int)))))))
 (pss_cons (ps_set (i := 11) sc_law.nd rfl (.inl rfl) (kBM (K := K) rfl (pe_bm PySem.F.plainAttrs_str PySem.F.slot_str_join PySem.F.type_str_join (kMt (K := K) (r := rJoin) rfl mt_joinU) pe_str (pa_cons (pv 3) pa_nil))))
 (pss_cons (ps_if (pt_cmpR (kOp (K := K) (r := uEq) rfl (opu_eq hr.units)) (pv 3) (pe_lst (pa_cons pe_str pa_nil)) (nomark _)) (pss_one (ps_par (i := 5) (j := 7) (by rfl) sc_law.nd rfl rfl (by decide) rfl rfl (pa_cons (pe_lst pa_nil) (pa_cons pe_non pa_nil)) (by rfl))) pss_nil)
 (pss_one (ps_if (pt_not (pt_val (pe_calG C__law_same hr rfl (pa_cons (pe_calG C__law_told hr rfl (pa_cons (pv 11) pa_nil)) (pa_cons (pe_tup (pa_cons (pe_ifExp (pt_cmpR opu_is (pv 7) pe_non (nomark _)) (pe_callTy (kCall (K := K) (r := uTuple) rfl callu_tuple) (by rfl) B.b_tuple (by decide +kernel) (pa_cons (pv 5) pa_nil)) pe_non) (pa_cons (pv 7) pa_nil))) pa_nil))))) (pss_one (ps_ret pe_bl)) pss_nil)))))))))))
 (pss_one (ps_ret pe_bl)))), rd_start (σ0 := [some (.ref a), none, none, none, none, none, none, none, none, none, none, none, none]) rfl ?_⟩
 repeat walk_at "rd"
 refine ⟨a, ns, rfl, hS, hl, fun b cs H1 hF1 hb1 hB1 => ?_⟩
 repeat walk_at "rd"
 refine ⟨3, rfl, by decide, by decide, for_range (lo := 0) (n := 3) (fun i σ H' => BagAt H' b cs ∧ ∃ z2 z3 z4 z5 z6 z7 z8 z9 z10 z11 z12, σ = [some (.ref a), some (.ref b), z2, z3, z4, z5, z6, z7, z8, z9, z10, z11, z12]) ⟨hB1, _, _, _, _, _, _, _, _, _, _, _, rfl⟩ (fun i σ H0 hi h => ?_) (fun σ H' h => ?_)⟩
 ·obtain ⟨hB0, z2, z3, z4, z5, z6, z7, z8, z9, z10, z11, z12, rfl⟩ := h
  repeat walk_at "rd"
  refine ⟨b, cs, _, rfl, hB0, by decide, by decide, fun dd H2 d0 d1 hB2 hF2 => ?_⟩
  obtain ⟨m, rfl⟩ : ∃ m : Nat, dd = (m : Int) := ⟨dd.toNat, by omega⟩
  repeat walk_at "rd"
  refine ⟨_, rfl, by omega, by omega, fun D hD => lc_it (walk_range (lo := 0) (n := m)) (fun i H' => BagAt H' b cs ∧ Fr [b] H2 H' ∧ ∃ ts : List Str, H' D = some (.lst (ts.map V.str)) ∧ ts.length = i ∧ ∀ t ∈ ts, TO 400 27 t)
   ⟨hB2.fr0 (Fr.new hD), Fr.new hD, [], upd_same, rfl, (fun _ z => nomatch z)⟩ (fun i H' _ h => trivial) (fun i x H' H'' hi h y => ?_) (fun H3 h => ?_)⟩
  ·obtain ⟨rfl, rfl⟩ := y
   obtain ⟨hBi, hFi, ts, hDi, htl, htt⟩ := h
   have hDb := hB2.some hD
   have hDM : D ∉ [b] := fun z => hDb.1 (List.mem_singleton.mp z)
   repeat walk_at "rd"
   refine ⟨rfl, ?_⟩
   repeat walk_at "rd"
   refine ⟨b, cs, 0, rfl, by decide, by decide, hBi, fun z H4 hz hB4 e4 => ?_⟩
   have hD4 := e4.at hDi hDM
   have eD : Fr [D] H4 (upd H4 D (.lst (ts.map V.str ++ [.str z]))) := Fr.mut (List.mem_singleton.mpr rfl) hD4 nofix_lst
   refine ⟨ts.map V.str, hD4, lt_of (by rw [List.length_map]; omega), hB4.fr eD (fun z => hDb.1 (List.mem_singleton.mp z).symm) (fun z => hDb.2 (List.mem_singleton.mp z).symm), (hFi.trans e4).over hD, ts ++ [z], by rw [List.map_append]; exact upd_same, by rw [List.length_append, htl]; rfl, fun t ht => ?_⟩
   rcases List.mem_append.mp ht with ht | ht
   ·exact htt t ht
   ·rw [List.mem_singleton.mp ht]; exact hz
  obtain ⟨hB3, hF3, ts, hD3, htl, htt⟩ := h
  have hDb := hB2.some hD
  have hDM : D ∉ [b] := fun z => hDb.1 (List.mem_singleton.mp z)
  repeat walk_at "rdif"
  try dsimp only
  with_reducible refine g_cutS (fun σ' H' => ∃ (ts : List Str) (z2 z4 z12 : Option V), σ' = [some (.ref a), some (.ref b), z2, some (.ref D), z4, z5, z6, z7, z8, z9, z10, z11, z12] ∧ BagAt H' b cs ∧ H' D = some (.lst (ts.map V.str)) ∧ ts.length ≤ 4 ∧ ∀ t ∈ ts, TO 840 55 t) (fun σ' H4 h => ?_) (fun Nx k => ?_)
  ·obtain ⟨ts, z2, z4, z12, rfl, hB4, hD4, htl, htt⟩ := h
   repeat walk_at "rd"
   refine ⟨le_of (by decide), fun U hU => ?_⟩
   have e5 : Fr [] H4 (upd H4 U (.lst [])) := Fr.new hU
   have hU5 : (upd H4 U (.lst [])) U = some (.lst []) := upd_same
   have hD5 := e5.at hD4 (fun z => nomatch z)
   have hB5 := hB4.fr0 e5
   have hUb := hB4.some hU
   have hUD : U ≠ D := fun e => by rw [e, hD4] at hU; cases hU
   generalize upd H4 U (.lst []) = H5 at *
   repeat walk_at "rd"
   refine ⟨D, rfl, ⟨_, SqL.of hD5⟩, for_list (xs := ts.map V.str) (fun j σ H' => BagAt H' b cs ∧ H' D = some (.lst (ts.map V.str)) ∧ ∃ (us : List V) (rs : List (Except Nat PyData)) (z8 z9 z10 : Option V), σ = [some (.ref a), some (.ref b), z2, some (.ref D), z4, some (.ref U), some (.int (plen (ts.take j) : Int)), some (wV (wrF (ts.take j) rs 0)), z8, z9, z10, z11, z12] ∧
    H' U = some (.lst us) ∧ TdAll K H' us (rs.map okD) ∧ RdAll (ts.take j) rs) ⟨hB5, hD5, [], [], _, _, _, rfl, hU5, .nil, .nil⟩ (fun j σ H' _ h => SqL.of h.2.1) (fun j x σ H6 hx h => ?_) (fun σ H6 h => ?_)⟩
   ·obtain ⟨hB6, hD6, us, rs, z8, z9, z10, rfl, hU6, htd, hrd⟩ := h
    rw [List.getElem?_map] at hx
    cases ey : ts[j]? with
    | none => rw [ey] at hx; cases hx
    | some y =>
     rw [ey] at hx
     cases hx
     have hj : j < ts.length := (List.getElem?_eq_some_iff.mp ey).1
     have ety : ts.take (j + 1) = ts.take j ++ [y] := by rw [List.take_succ, ey]; rfl
     have hy := htt y (List.mem_of_getElem? ey)
     have ly := hy.tx.len
     have hul : us.length = j := by rw [(tda_get htd).1, hrd.len, List.length_take]; omega
     have ew : whichR 0 = RuleR := if_pos rfl
     have hpl : plen (ts.take j) ≤ 841 * 4 := by
      have e : ∀ xs : List Str, (∀ x ∈ xs, x.length ≤ 840) → plen xs ≤ 841 * xs.length := fun xs hx => by
       induction xs with
       | nil => exact Nat.le_refl 0
       | cons x xs ih =>
        have := ih fun y hy => hx y (List.mem_cons_of_mem _ hy)
        have l := hx x List.mem_cons_self
        unfold plen at this ⊢
        rw [List.map_cons, List.sum_cons, List.length_cons]
        omega
      have := e (ts.take j) fun x hx => (htt x (List.mem_of_mem_take hx)).tx.len
      rw [List.length_take] at this
      omega
     have fin : ∀ (r : Except Nat PyData) (v : V) (H7 : Hp) (w7 : V) (z10' : V), ReadR y RuleR r → Td K H7 v (okD r) → Fr [] H6 H7 → w7 = wV (match wrF (ts.take j) rs 0 with | some n => some n | none => match r with | .error n => some (0 + plen (ts.take j) + n) | .ok _ => none) →
       BagAt (upd H7 U (.lst (us ++ [v]))) b cs ∧ (upd H7 U (.lst (us ++ [v]))) D = some (.lst (ts.map V.str)) ∧ ∃ (us' : List V) (rs' : List (Except Nat PyData)) (z8 z9 z10 : Option V), [some (V.ref a), some (V.ref b), z2, some (V.ref D), z4, some (V.ref U), some (V.int ((plen (ts.take j) : Int) + (y.length : Int) + 1)), some w7, some (V.str y), some v, some z10', z11, z12] = [some (.ref a), some (.ref b), z2, some (.ref D), z4, some (.ref U), some (.int (plen (ts.take (j + 1)) : Int)), some (wV (wrF (ts.take (j + 1)) rs' 0)), z8, z9, z10, z11, z12] ∧
       (upd H7 U (.lst (us ++ [v]))) U = some (.lst us') ∧ TdAll K (upd H7 U (.lst (us ++ [v]))) us' (rs'.map okD) ∧ RdAll (ts.take (j + 1)) rs' := fun r v H7 w7 z10' hr tv e7 hw => by
      have hU7 := e7.at hU6 (fun z => nomatch z)
      have eU : Fr [U] H7 (upd H7 U (.lst (us ++ [v]))) := Fr.mut (List.mem_singleton.mpr rfl) hU7 nofix_lst
      refine ⟨(hB6.fr0 e7).fr eU (fun z => hUb.1 (List.mem_singleton.mp z).symm) (fun z => hUb.2 (List.mem_singleton.mp z).symm), by rw [upd_ne (Ne.symm hUD)]; exact e7.at hD6 (fun z => nomatch z), us ++ [v], rs ++ [r], some (.str y), some v, some z10', ?_, upd_same, by rw [List.map_append]; exact (tda_snoc4 (htd.fr e7) tv).fr eU, by rw [ety]; exact hrd.snoc hr⟩
      rw [ety, wr_snoc hrd, plen_snoc, hw]
      have en : (plen (ts.take j) : Int) + (y.length : Int) + 1 = ((plen (ts.take j) + (y.length + 1) : Nat) : Int) := by omega
      first
       | (rw [en]; done)
       | (rw [en]; cases wrF (ts.take j) rs 0 <;> cases r <;> rfl)
     repeat walk_at "rd"
     refine ⟨y, 0, rfl, hy.tx.mono (by decide), fun d a2 pr H7 hm e7 td hp => ?_, fun n pr H7 hm e7 hp => ?_⟩
     ·rw [ew] at hm
      have hU7 := e7.at hU6 (fun z => nomatch z)
      repeat walk_at "rd"
      refine ⟨U, us, _, rfl, rfl, hU7, lt_of (by omega), ?_⟩
      repeat walk_at "rd"
      refine g_lenS (le_of (by omega)) ?_
      repeat walk_at "rd"
      exact fin (.ok d) (.ref a2) H7 _ _ hm td e7 (by cases wrF (ts.take j) rs 0 <;> rfl)
     ·rw [ew] at hm
      have hU7 := e7.at hU6 (fun z => nomatch z)
      repeat walk_at "rd"
      refine g_tt (by simp) ?_
      cases hw : wrF (ts.take j) rs 0 with
      | none =>
       repeat walk_at "rd"
       refine ⟨U, us, _, rfl, rfl, hU7, lt_of (by omega), ?_⟩
       repeat walk_at "rd"
       refine g_lenS (le_of (by omega)) ?_
       repeat walk_at "rd"
       exact fin (.error n) .non H7 _ _ hm .non e7 (by rw [hw]; show V.int _ = V.int _; congr 1; omega)
      | some m' =>
       repeat walk_at "rd"
       refine g_ff (by simp [wV]) ?_
       repeat walk_at "rd"
       refine ⟨U, us, _, rfl, rfl, hU7, lt_of (by omega), ?_⟩
       repeat walk_at "rd"
       refine g_lenS (le_of (by omega)) ?_
       repeat walk_at "rd"
       exact fin (.error n) .non H7 _ _ hm .non e7 (by rw [hw])
   ·obtain ⟨hB6, hD6, us, rs, z8, z9, z10, rfl, hU6, htd, hrd⟩ := h
    rw [List.length_map, List.take_length] at hrd ⊢
    repeat walk_at "rd"
    refine ⟨_, D, ts, rfl, rfl, .inl (SqL.of hD6), ?_, ?_⟩
    ·rw [show ("\n" : Str).length = 1 by decide +kernel]
     have := sum_len (n := 840) (m := 55) htt
     omega
    repeat walk_at "rdif"
    try dsimp only
    have htj : Tx 3364 (Txt.join "\n" ts) := (Tx.join (k := 1) (m := 840) (Tx.lit (by decide +kernel)) (ts := ts) fun t ht => (htt t ht).tx).mono (by omega)
    have hlj := lines_join ts fun t ht => (htt t ht).nl
    with_reducible refine g_cutS (fun σ' H' => ∃ (U : Addr) (us : List V) (rs : List (Except Nat PyData)) (z6 z8 z9 z10 : Option V), σ' = [some (.ref a), some (.ref b), z2, some (.ref D), z4, some (.ref U), z6, some (wV (wrF (linesS (Txt.join "\n" ts)) rs 0)), z8, z9, z10, some (.str (Txt.join "\n" ts)), z12] ∧ BagAt H' b cs ∧
     H' U = some (.lst us) ∧ TdAll K H' us (rs.map okD) ∧ RdAll (linesS (Txt.join "\n" ts)) rs) (fun σ' H8 h => ?_) (fun Nx k => ?_)
    ·obtain ⟨U, us, rs, z6, z8, z9, z10, rfl, hB8, hU8, htd8, hrd8⟩ := h
     have hlt : ∀ t ∈ linesS (Txt.join "\n" ts), TO 840 55 t := fun t ht => by
      rw [hlj] at ht
      split at ht
      ·cases ht
      ·exact htt t ht
     have hll : (linesS (Txt.join "\n" ts)).length ≤ 4 := by
      rw [hlj]
      split
      ·exact Nat.zero_le _
      ·exact htl
     generalize Txt.join "\n" ts = whole at *
     repeat walk_at "rd"
     refine ⟨whole, rfl, htj.mono (by decide), by omega, fun y hy => (hlt y hy).tx.mono (by decide), fun ds v pr H9 hm e9 td hp => ?_, fun n pr H9 hm e9 hp => ?_⟩
     ·obtain ⟨p1, p2⟩ := pap_due hrd8 hm
      have hU9 := e9.at hU8 (fun z => nomatch z)
      have hB9 := hB8.fr0 e9
      have htd9 := htd8.fr e9
      have hsm := hrd8.sm hlt
      have hrl : rs.length ≤ 4 := by rw [hrd8.len]; exact hll
      cases hw : wrF (linesS whole) rs 0 with
      | some n => exact absurd (p1 n hw) (fun z => nomatch z)
      | none =>
       have ed : ds = rs.map okD := by
        have z := Except.ok.inj (p2 hw)
        rw [List.nil_append] at z
        exact z
       subst ed
       repeat walk_at "rd"
       refine g_tupleL (SqL.of hU9) fun q1 hq1 => ?_
       have e10 : Fr [] H9 (upd H9 q1 (.tup us)) := Fr.new hq1
       have d10 : Td K (upd H9 q1 (.tup us)) (.ref q1) (.tuple (rs.map okD)) := .tup (SqT.of upd_same) (htd9.fr e10)
       generalize upd H9 q1 (.tup us) = H10 at *
       repeat walk_at "rd"
       refine ⟨le_of (by show 2 ≤ 100000; decide), fun q2 hq2 => ?_⟩
       have e11 : Fr [] H10 (upd H10 q2 (.tup [.ref q1, wV none])) := Fr.new hq2
       have s11 : SqT K (upd H10 q2 (.tup [.ref q1, wV none])) q2 [.ref q1, .non] := SqT.of upd_same
       have d11 := d10.fr e11
       generalize upd H10 q2 (.tup [.ref q1, wV none]) = H11 at *
       have E := e10.trans e11
       repeat walk_at "rd"
       refine ⟨.ref pr, .ref q2, .tuple [.tuple (rs.map okD), .none], rfl, Td.dp (.tup (E.tup hp) (.cons (td.fr E) (.cons .non .nil))), Td.dp (.tup s11 (.cons d11 (.cons .non .nil))), sm_mono (n := 63) (sm_tup (n := 62) (by simp) fun x hx => ?_) (by decide), fun H12 e12 => ?_⟩
       ·simp only [List.mem_cons, List.not_mem_nil, or_false] at hx
        rcases hx with rfl | rfl
        ·exact sm_tup (n := 61) (by rw [List.length_map]; omega) hsm
        ·simp only [Sm]
       ·repeat walk_at "rd"
        exact ⟨hB9.fr0 (E.trans e12), _, _, _, _, _, _, _, _, _, _, _, rfl⟩
     ·obtain ⟨p1, p2⟩ := pap_due hrd8 hm
      have hB9 := hB8.fr0 e9
      cases hw : wrF (linesS whole) rs 0 with
      | none => exact absurd (p2 hw) (fun z => nomatch z)
      | some n' =>
       have en : n = n' := by
        have z := p1 n' hw
        injection z
       subst en
       have hnb : n ≤ 10000 := by
        have key : ∀ {ys rs}, RdAll ys rs → (∀ y ∈ ys, TO 840 55 y) → ∀ p n, wrF ys rs p = some n → n ≤ p + 841 * ys.length := fun {ys rs} h => by
         induction h with
         | nil => exact fun _ p n e => by cases e
         | @cons y ys r rs hr _ ih =>
          intro hy p n e
          have ly := (hy y List.mem_cons_self).tx.len
          cases r with
          | error m =>
           have e2 : some (p + m) = some n := e
           have hm2 := read_place hr
           injection e2 with e2
           rw [List.length_cons]
           omega
          | ok d =>
           have := ih (fun y h => hy y (List.mem_cons_of_mem _ h)) (p + (y.length + 1)) n e
           rw [List.length_cons]
           omega
        have := key hrd8 hlt 0 n hw
        omega
       repeat walk_at "rd"
       refine g_ff (by simp [wV]) ?_
       repeat walk_at "rd"
       refine ⟨le_of (by show 2 ≤ 100000; decide), fun q2 hq2 => ?_⟩
       have e11 : Fr [] H9 (upd H9 q2 (.tup [.non, wV (some n)])) := Fr.new hq2
       have s11 : SqT K (upd H9 q2 (.tup [.non, wV (some n)])) q2 [.non, wV (some n)] := SqT.of upd_same
       generalize upd H9 q2 (.tup [.non, wV (some n)]) = H11 at *
       repeat walk_at "rd"
       refine ⟨.ref pr, .ref q2, .tuple [.none, .int (n : Int)], rfl, Td.dp (.tup (e11.tup hp) (.cons .non (.cons (.int _) .nil))), Td.dp (.tup s11 (.cons .non (.cons (.int _) .nil))), sm_mono (n := 63) (sm_tup (n := 62) (by simp) fun x hx => ?_) (by decide), fun H12 e12 => ?_⟩
       ·simp only [List.mem_cons, List.not_mem_nil, or_false] at hx
        rcases hx with rfl | rfl
        ·simp only [Sm]
        ·exact sm_nat hnb
       ·repeat walk_at "rd"
        exact ⟨hB9.fr0 (e11.trans e12), _, _, _, _, _, _, _, _, _, _, _, rfl⟩
    ·repeat walk_at "rd"
     refine ⟨le_of (by decide), fun p7 hp7 => ?_⟩
     have e7 : Fr [] H6 (upd H6 p7 (.lst [.str ""])) := Fr.new hp7
     have h7 : (upd H6 p7 (.lst [.str ""])) p7 = some (.lst [.str ""]) := upd_same
     have hD7 := e7.at hD6 (fun z => nomatch z)
     have hU7 := e7.at hU6 (fun z => nomatch z)
     have htd7 := htd.fr e7
     have hB7 := hB6.fr0 e7
     generalize upd H6 p7 (.lst [.str ""]) = H7 at *
     refine g_eqD (d := .list (ts.map PyData.str)) (e := .list [.str ""]) (.lst (SqL.of hD7) (strs_dpa ts)) (.lst (SqL.of h7) (.cons (.str "") .nil)) (strs_shaped fun x hx => ((htt x hx).tx).sok) (by decide +kernel) ?_
     rw [eqv_one]
     repeat walk_at "rd"
     refine g_by (fun c => ?_) (fun c => ?_)
     ·refine (show tCons (tLst tNil) (tCons (tC V.non) tNil) _ _ (fun vs H1 => ∃ v w, vs = [v, w] ∧ Nx _ H1) from ?_)
      repeat walk_at "rd"
      refine ⟨le_of (by decide), fun U2 hU2 => ?_⟩
      repeat walk_at "rd"
      refine ⟨_, _, rfl, ?_⟩
      rw [if_pos c] at hlj
      refine k _ _ ⟨U2, [], [], _, _, _, _, by rw [hlj]; rfl, hB7.fr0 (Fr.new hU2), upd_same, .nil, by rw [hlj]; exact .nil⟩
     ·repeat walk_at "rd"
      rw [if_neg c] at hlj
      exact k _ _ ⟨U, us, rs, _, _, _, _, by rw [hlj]; rfl, hB7, hU7, htd7, by rw [hlj]; exact hrd⟩
  ·repeat walk_at "rd"
   refine ⟨le_of (by decide), fun p9 hp9 => ?_⟩
   have e9 : Fr [] H3 (upd H3 p9 (.lst [])) := Fr.new hp9
   have h9 : (upd H3 p9 (.lst [])) p9 = some (.lst []) := upd_same
   have hD9 := e9.at hD3 (fun z => nomatch z)
   have hB9 := hB3.fr0 e9
   generalize upd H3 p9 (.lst []) = H9 at *
   refine g_neEL (SqL.of hD9) (SqL.of h9) ?_
   repeat walk_at "rd"
   have htt9 : ∀ t ∈ ts, TO 840 55 t := fun t ht => (htt t ht).mono (by decide) (by decide)
   refine g_byN (fun c => ?_) (fun c => ?_)
   ·have hl0 : 0 < ts.length := by
     cases ts with
     | nil => exact absurd rfl c
     | cons _ _ => simp
    repeat walk_at "rd"
    refine ⟨b, cs, _, rfl, hB9, by decide, by decide, fun d10 H10 d100 d101 hB10 e10 => ?_⟩
    have hD10 := e10.at hD9 hDM
    repeat walk_at "rd"
    refine g_by (fun c2 => ?_) (fun c2 => ?_)
    ·repeat walk_at "rd"
     refine ⟨b, cs, _, rfl, hB10, by rw [List.length_map]; omega, by rw [List.length_map]; omega, fun sp H11 s0 s1 hB11 e11 => ?_⟩
     rw [List.length_map] at s1
     have hD11 := e11.at hD10 hDM
     obtain ⟨n, rfl⟩ : ∃ n : Nat, sp = (n : Int) := ⟨sp.toNat, by omega⟩
     have hn : n < ts.length := by omega
     have hyn := htt ts[n] (List.getElem_mem hn)
     have hat : atI (ts.map V.str) (n : Int) = some (V.str ts[n]) := atI_nat (by rw [List.getElem?_map, List.getElem?_eq_getElem hn]; rfl)
     repeat walk_at "rd"
     refine g_ixL (SqL.of hD11) hat ?_
     repeat walk_at "rd"
     refine ⟨400, 27, b, cs, ts[n], by decide, rfl, hyn, hB11, fun x1 H12 hx1 hB12 e12 => ?_⟩
     have hD12 := e12.at hD11 hDM
     repeat walk_at "rd"
     refine g_ixL (SqL.of hD12) hat ?_
     repeat walk_at "rd"
     refine ⟨400, 27, b, cs, ts[n], by decide, rfl, hyn, hB12, fun x2 H13 hx2 hB13 e13 => ?_⟩
     have hD13 := e13.at hD12 hDM
     repeat walk_at "rd"
     refine ⟨le_of (by simp), fun L hL => ?_⟩
     have hLb := hB13.some hL
     have eL : Fr [] H13 (upd H13 L (.lst [.str "", .str " ", .str x1, .str x2])) := Fr.new hL
     have hLL : (upd H13 L (.lst [.str "", .str " ", .str x1, .str x2])) L = some (.lst [.str "", .str " ", .str x1, .str x2]) := upd_same
     have hB14 := hB13.fr0 eL
     have hD14 := eL.at hD13 (fun z => nomatch z)
     generalize upd H13 L (.lst [.str "", .str " ", .str x1, .str x2]) = H14 at *
     repeat walk_at "rd"
     refine ⟨b, cs, L, _, rfl, hB14, .inl ⟨SqL.of hLL, hLb.1⟩, by simp, by simp, fun v H15 hv hB15 e15 => ?_⟩
     have hD15 := e15.at hD14 hDM
     obtain ⟨x, rfl, hx⟩ : ∃ x, v = V.str x ∧ TO 840 55 x := by
      simp only [List.mem_cons, List.not_mem_nil, or_false] at hv
      rcases hv with rfl | rfl | rfl | rfl
      ·exact ⟨_, rfl, TO.lit (by decide +kernel)⟩
      ·exact ⟨_, rfl, TO.lit (by decide +kernel)⟩
      ·exact ⟨_, rfl, hx1.mono (by decide) (by decide)⟩
      ·exact ⟨_, rfl, hx2.mono (by decide) (by decide)⟩
     repeat walk_at "rd"
     refine g_setL (j := n) hD15 (by unfold ixN; simp; omega) ?_
     have e16 : Fr [D] H15 (upd H15 D (.lst ((ts.map V.str).set n (.str x)))) := Fr.mut (List.mem_singleton.mpr rfl) hD15 nofix_lst
     have hB16 := hB15.fr e16 (fun z => hDb.1 (List.mem_singleton.mp z).symm) (fun z => hDb.2 (List.mem_singleton.mp z).symm)
     refine k _ _ ⟨ts.set n x, _, _, _, rfl, hB16, by rw [List.map_set]; exact upd_same, by rw [List.length_set]; omega, fun t ht => ?_⟩
     rcases List.mem_or_eq_of_mem_set ht with ht | rfl
     ·exact htt9 t ht
     ·exact hx
    ·repeat walk_at "rd"
     exact k _ _ ⟨ts, _, _, _, rfl, hB10, hD10, by omega, htt9⟩
   ·repeat walk_at "rd"
    exact k _ _ ⟨ts, _, _, _, rfl, hB9, hD9, by omega, htt9⟩
 ·obtain ⟨_, _, _, _, _, _, _, _, _, _, _, _, rfl⟩ := h
  repeat walk_at "rd"
  exact q _
end
def d_LoreError_ini : He.DefD := ⟨("LoreError", some "__init__"), "__init__", "LoreError.__init__", defArgs s_LoreError_ini, defBody s_LoreError_ini, defScope s_LoreError_ini, [], []⟩
def d_BadText_ini : He.DefD := ⟨("BadText", some "__init__"), "__init__", "BadText.__init__", defArgs s_BadText_ini, defBody s_BadText_ini, defScope s_BadText_ini, [], []⟩
def d_Row_ini : He.DefD := ⟨("Row", some "__init__"), "__init__", "Row.__init__", defArgs s_Row_ini, defBody s_Row_ini, defScope s_Row_ini, [], [("mine", .bl false), ("plain", .bl true)]⟩
def d_Row_sort_here : He.DefD := ⟨("Row", some "sort_here"), "sort_here", "Row.sort_here", defArgs s_Row_sort_here, defBody s_Row_sort_here, defScope s_Row_sort_here, [.int 0], []⟩
def d_Row_thing : He.DefD := ⟨("Row", some "thing"), "thing", "Row.thing", defArgs s_Row_thing, defBody s_Row_thing, defScope s_Row_thing, [.int 0], []⟩
def d_Row_is_sign : He.DefD := ⟨("Row", some "is_sign"), "is_sign", "Row.is_sign", defArgs s_Row_is_sign, defBody s_Row_is_sign, defScope s_Row_is_sign, [.int 0], []⟩
def d_Row_is_kept : He.DefD := ⟨("Row", some "is_kept"), "is_kept", "Row.is_kept", defArgs s_Row_is_kept, defBody s_Row_is_kept, defScope s_Row_is_kept, [.int 0], []⟩
def d_Row_wrong : He.DefD := ⟨("Row", some "wrong"), "wrong", "Row.wrong", defArgs s_Row_wrong, defBody s_Row_wrong, defScope s_Row_wrong, [], []⟩
def d_Row_step : He.DefD := ⟨("Row", some "step"), "step", "Row.step", defArgs s_Row_step, defBody s_Row_step, defScope s_Row_step, [], []⟩
def d_Row_need_sign : He.DefD := ⟨("Row", some "need_sign"), "need_sign", "Row.need_sign", defArgs s_Row_need_sign, defBody s_Row_need_sign, defScope s_Row_need_sign, [], []⟩
def d_Row_need_name : He.DefD := ⟨("Row", some "need_name"), "need_name", "Row.need_name", defArgs s_Row_need_name, defBody s_Row_need_name, defScope s_Row_need_name, [], []⟩
def d_Row_need_end : He.DefD := ⟨("Row", some "need_end"), "need_end", "Row.need_end", defArgs s_Row_need_end, defBody s_Row_need_end, defScope s_Row_need_end, [], []⟩
def d_is_word : He.DefD := ⟨("is_word", none), "is_word", "is_word", defArgs s_is_word, defBody s_is_word, defScope s_is_word, [], []⟩
def d_is_name : He.DefD := ⟨("is_name", none), "is_name", "is_name", defArgs s_is_name, defBody s_is_name, defScope s_is_name, [], []⟩
def d_is_number : He.DefD := ⟨("is_number", none), "is_number", "is_number", defArgs s_is_number, defBody s_is_number, defScope s_is_number, [], []⟩
def d_run_end : He.DefD := ⟨("run_end", none), "run_end", "run_end", defArgs s_run_end, defBody s_run_end, defScope s_run_end, [], []⟩
def d_is_full : He.DefD := ⟨("is_full", none), "is_full", "is_full", defArgs s_is_full, defBody s_is_full, defScope s_is_full, [], []⟩
def d_run_thing : He.DefD := ⟨("run_thing", none), "run_thing", "run_thing", defArgs s_run_thing, defBody s_run_thing, defScope s_run_thing, [], []⟩
def d_word_thing : He.DefD := ⟨("word_thing", none), "word_thing", "word_thing", defArgs s_word_thing, defBody s_word_thing, defScope s_word_thing, [], []⟩
def d_begins_number : He.DefD := ⟨("begins_number", none), "begins_number", "begins_number", defArgs s_begins_number, defBody s_begins_number, defScope s_begins_number, [], []⟩
def d_next_thing : He.DefD := ⟨("next_thing", none), "next_thing", "next_thing", defArgs s_next_thing, defBody s_next_thing, defScope s_next_thing, [], []⟩
def d_things_of : He.DefD := ⟨("things_of", none), "things_of", "things_of", defArgs s_things_of, defBody s_things_of, defScope s_things_of, [], []⟩
def d_read_leaf : He.DefD := ⟨("read_leaf", none), "read_leaf", "read_leaf", defArgs s_read_leaf, defBody s_read_leaf, defScope s_read_leaf, [], []⟩
def d_read_product : He.DefD := ⟨("read_product", none), "read_product", "read_product", defArgs s_read_product, defBody s_read_product, defScope s_read_product, [], []⟩
def d_read_sum : He.DefD := ⟨("read_sum", none), "read_sum", "read_sum", defArgs s_read_sum, defBody s_read_sum, defScope s_read_sum, [], []⟩
def d_read_test : He.DefD := ⟨("read_test", none), "read_test", "read_test", defArgs s_read_test, defBody s_read_test, defScope s_read_test, [], []⟩
def d_read_term : He.DefD := ⟨("read_term", none), "read_term", "read_term", defArgs s_read_term, defBody s_read_term, defScope s_read_term, [], []⟩
def d_read_atom : He.DefD := ⟨("read_atom", none), "read_atom", "read_atom", defArgs s_read_atom, defBody s_read_atom, defScope s_read_atom, [], []⟩
def d_read_part : He.DefD := ⟨("read_part", none), "read_part", "read_part", defArgs s_read_part, defBody s_read_part, defScope s_read_part, [], []⟩
def d_read_parts : He.DefD := ⟨("read_parts", none), "read_parts", "read_parts", defArgs s_read_parts, defBody s_read_parts, defScope s_read_parts, [], []⟩
def d_read_arg : He.DefD := ⟨("read_arg", none), "read_arg", "read_arg", defArgs s_read_arg, defBody s_read_arg, defScope s_read_arg, [], []⟩
def d_read_args : He.DefD := ⟨("read_args", none), "read_args", "read_args", defArgs s_read_args, defBody s_read_args, defScope s_read_args, [], []⟩
def d_read_rule : He.DefD := ⟨("read_rule", none), "read_rule", "read_rule", defArgs s_read_rule, defBody s_read_rule, defScope s_read_rule, [], []⟩
def d_read_paper : He.DefD := ⟨("read_paper", none), "read_paper", "read_paper", defArgs s_read_paper, defBody s_read_paper, defScope s_read_paper, [], []⟩
def d__law_bag : He.DefD := ⟨("_law_bag", none), "_law_bag", "_law_bag", defArgs s__law_bag, defBody s__law_bag, defScope s__law_bag, [], []⟩
def d__law_pull : He.DefD := ⟨("_law_pull", none), "_law_pull", "_law_pull", defArgs s__law_pull, defBody s__law_pull, defScope s__law_pull, [], []⟩
def d__law_one : He.DefD := ⟨("_law_one", none), "_law_one", "_law_one", defArgs s__law_one, defBody s__law_one, defScope s__law_one, [], []⟩
def d__law_same : He.DefD := ⟨("_law_same", none), "_law_same", "_law_same", defArgs s__law_same, defBody s__law_same, defScope s__law_same, [], []⟩
def d__law_barred : He.DefD := ⟨("_law_barred", none), "_law_barred", "_law_barred", defArgs s__law_barred, defBody s__law_barred, defScope s__law_barred, [], []⟩
def d__law_word : He.DefD := ⟨("_law_word", none), "_law_word", "_law_word", defArgs s__law_word, defBody s__law_word, defScope s__law_word, [], []⟩
def d__law_run : He.DefD := ⟨("_law_run", none), "_law_run", "_law_run", defArgs s__law_run, defBody s__law_run, defScope s__law_run, [], []⟩
def d__law_is_word : He.DefD := ⟨("_law_is_word", none), "_law_is_word", "_law_is_word", defArgs s__law_is_word, defBody s__law_is_word, defScope s__law_is_word, [], []⟩
def d__law_is_name : He.DefD := ⟨("_law_is_name", none), "_law_is_name", "_law_is_name", defArgs s__law_is_name, defBody s__law_is_name, defScope s__law_is_name, [], []⟩
def d__law_figures : He.DefD := ⟨("_law_figures", none), "_law_figures", "_law_figures", defArgs s__law_figures, defBody s__law_figures, defScope s__law_figures, [], []⟩
def d__law_run_thing : He.DefD := ⟨("_law_run_thing", none), "_law_run_thing", "_law_run_thing", defArgs s__law_run_thing, defBody s__law_run_thing, defScope s__law_run_thing, [], []⟩
def d__law_thing : He.DefD := ⟨("_law_thing", none), "_law_thing", "_law_thing", defArgs s__law_thing, defBody s__law_thing, defScope s__law_thing, [], []⟩
def d__law_things : He.DefD := ⟨("_law_things", none), "_law_things", "_law_things", defArgs s__law_things, defBody s__law_things, defScope s__law_things, [], []⟩
def d__law_leaf_read : He.DefD := ⟨("_law_leaf_read", none), "_law_leaf_read", "_law_leaf_read", defArgs s__law_leaf_read, defBody s__law_leaf_read, defScope s__law_leaf_read, [], []⟩
def d__law_sum_read : He.DefD := ⟨("_law_sum_read", none), "_law_sum_read", "_law_sum_read", defArgs s__law_sum_read, defBody s__law_sum_read, defScope s__law_sum_read, [], []⟩
def d__law_test_read : He.DefD := ⟨("_law_test_read", none), "_law_test_read", "_law_test_read", defArgs s__law_test_read, defBody s__law_test_read, defScope s__law_test_read, [], []⟩
def d__law_term_read : He.DefD := ⟨("_law_term_read", none), "_law_term_read", "_law_term_read", defArgs s__law_term_read, defBody s__law_term_read, defScope s__law_term_read, [], []⟩
def d__law_atom_read : He.DefD := ⟨("_law_atom_read", none), "_law_atom_read", "_law_atom_read", defArgs s__law_atom_read, defBody s__law_atom_read, defScope s__law_atom_read, [], []⟩
def d__law_part_read : He.DefD := ⟨("_law_part_read", none), "_law_part_read", "_law_part_read", defArgs s__law_part_read, defBody s__law_part_read, defScope s__law_part_read, [], []⟩
def d__law_parts_read : He.DefD := ⟨("_law_parts_read", none), "_law_parts_read", "_law_parts_read", defArgs s__law_parts_read, defBody s__law_parts_read, defScope s__law_parts_read, [], []⟩
def d__law_arg_read : He.DefD := ⟨("_law_arg_read", none), "_law_arg_read", "_law_arg_read", defArgs s__law_arg_read, defBody s__law_arg_read, defScope s__law_arg_read, [], []⟩
def d__law_args_read : He.DefD := ⟨("_law_args_read", none), "_law_args_read", "_law_args_read", defArgs s__law_args_read, defBody s__law_args_read, defScope s__law_args_read, [], []⟩
def d__law_rule_read : He.DefD := ⟨("_law_rule_read", none), "_law_rule_read", "_law_rule_read", defArgs s__law_rule_read, defBody s__law_rule_read, defScope s__law_rule_read, [], []⟩
def d__law_question_read : He.DefD := ⟨("_law_question_read", none), "_law_question_read", "_law_question_read", defArgs s__law_question_read, defBody s__law_question_read, defScope s__law_question_read, [], []⟩
def d__law_tests_read : He.DefD := ⟨("_law_tests_read", none), "_law_tests_read", "_law_tests_read", defArgs s__law_tests_read, defBody s__law_tests_read, defScope s__law_tests_read, [], []⟩
def d__law_read_due : He.DefD := ⟨("_law_read_due", none), "_law_read_due", "_law_read_due", defArgs s__law_read_due, defBody s__law_read_due, defScope s__law_read_due, [], []⟩
def d__law_plain_text : He.DefD := ⟨("_law_plain_text", none), "_law_plain_text", "_law_plain_text", defArgs s__law_plain_text, defBody s__law_plain_text, defScope s__law_plain_text, [], []⟩
def d__law_bent : He.DefD := ⟨("_law_bent", none), "_law_bent", "_law_bent", defArgs s__law_bent, defBody s__law_bent, defScope s__law_bent, [], []⟩
def d__law_told : He.DefD := ⟨("_law_told", none), "_law_told", "_law_told", defArgs s__law_told, defBody s__law_told, defScope s__law_told, [], []⟩
def d_law : He.DefD := ⟨("law", none), "law", "law", defArgs s_law, defBody s_law, defScope s_law, [], []⟩
theorem fk_0 (w : World) : He.Fa.ok (K0 w) (.glo "is_word") = true := by kernel_rfl
theorem fk_1 (w : World) : He.Fa.ok (K0 w) (.glo "is_name") = true := by kernel_rfl
theorem fk_2 (w : World) : He.Fa.ok (K0 w) (.glo "is_number") = true := by kernel_rfl
theorem fk_3 (w : World) : He.Fa.ok (K0 w) (.glo "run_end") = true := by kernel_rfl
theorem fk_4 (w : World) : He.Fa.ok (K0 w) (.glo "is_full") = true := by kernel_rfl
theorem fk_5 (w : World) : He.Fa.ok (K0 w) (.glo "run_thing") = true := by kernel_rfl
theorem fk_6 (w : World) : He.Fa.ok (K0 w) (.glo "word_thing") = true := by kernel_rfl
theorem fk_7 (w : World) : He.Fa.ok (K0 w) (.glo "begins_number") = true := by kernel_rfl
theorem fk_8 (w : World) : He.Fa.ok (K0 w) (.glo "next_thing") = true := by kernel_rfl
theorem fk_9 (w : World) : He.Fa.ok (K0 w) (.glo "things_of") = true := by kernel_rfl
theorem fk_10 (w : World) : He.Fa.ok (K0 w) (.glo "read_leaf") = true := by kernel_rfl
theorem fk_11 (w : World) : He.Fa.ok (K0 w) (.glo "read_product") = true := by kernel_rfl
theorem fk_12 (w : World) : He.Fa.ok (K0 w) (.glo "read_sum") = true := by kernel_rfl
theorem fk_13 (w : World) : He.Fa.ok (K0 w) (.glo "read_test") = true := by kernel_rfl
theorem fk_14 (w : World) : He.Fa.ok (K0 w) (.glo "read_term") = true := by kernel_rfl
theorem fk_15 (w : World) : He.Fa.ok (K0 w) (.glo "read_atom") = true := by kernel_rfl
theorem fk_16 (w : World) : He.Fa.ok (K0 w) (.glo "read_part") = true := by kernel_rfl
theorem fk_17 (w : World) : He.Fa.ok (K0 w) (.glo "read_parts") = true := by kernel_rfl
theorem fk_18 (w : World) : He.Fa.ok (K0 w) (.glo "read_arg") = true := by kernel_rfl
theorem fk_19 (w : World) : He.Fa.ok (K0 w) (.glo "read_args") = true := by kernel_rfl
theorem fk_20 (w : World) : He.Fa.ok (K0 w) (.glo "read_rule") = true := by kernel_rfl
theorem fk_21 (w : World) : He.Fa.ok (K0 w) (.glo "read_paper") = true := by kernel_rfl
theorem fk_22 (w : World) : He.Fa.ok (K0 w) (.glo "_law_bag") = true := by kernel_rfl
theorem fk_23 (w : World) : He.Fa.ok (K0 w) (.glo "_law_pull") = true := by kernel_rfl
theorem fk_24 (w : World) : He.Fa.ok (K0 w) (.glo "_law_one") = true := by kernel_rfl
theorem fk_25 (w : World) : He.Fa.ok (K0 w) (.glo "_law_same") = true := by kernel_rfl
theorem fk_26 (w : World) : He.Fa.ok (K0 w) (.glo "_law_barred") = true := by kernel_rfl
theorem fk_27 (w : World) : He.Fa.ok (K0 w) (.glo "_law_word") = true := by kernel_rfl
theorem fk_28 (w : World) : He.Fa.ok (K0 w) (.glo "_law_run") = true := by kernel_rfl
theorem fk_29 (w : World) : He.Fa.ok (K0 w) (.glo "_law_is_word") = true := by kernel_rfl
theorem fk_30 (w : World) : He.Fa.ok (K0 w) (.glo "_law_is_name") = true := by kernel_rfl
theorem fk_31 (w : World) : He.Fa.ok (K0 w) (.glo "_law_figures") = true := by kernel_rfl
theorem fk_32 (w : World) : He.Fa.ok (K0 w) (.glo "_law_run_thing") = true := by kernel_rfl
theorem fk_33 (w : World) : He.Fa.ok (K0 w) (.glo "_law_thing") = true := by kernel_rfl
theorem fk_34 (w : World) : He.Fa.ok (K0 w) (.glo "_law_things") = true := by kernel_rfl
theorem fk_35 (w : World) : He.Fa.ok (K0 w) (.glo "_law_leaf_read") = true := by kernel_rfl
theorem fk_36 (w : World) : He.Fa.ok (K0 w) (.glo "_law_sum_read") = true := by kernel_rfl
theorem fk_37 (w : World) : He.Fa.ok (K0 w) (.glo "_law_test_read") = true := by kernel_rfl
theorem fk_38 (w : World) : He.Fa.ok (K0 w) (.glo "_law_term_read") = true := by kernel_rfl
theorem fk_39 (w : World) : He.Fa.ok (K0 w) (.glo "_law_atom_read") = true := by kernel_rfl
theorem fk_40 (w : World) : He.Fa.ok (K0 w) (.glo "_law_part_read") = true := by kernel_rfl
theorem fk_41 (w : World) : He.Fa.ok (K0 w) (.glo "_law_parts_read") = true := by kernel_rfl
theorem fk_42 (w : World) : He.Fa.ok (K0 w) (.glo "_law_arg_read") = true := by kernel_rfl
theorem fk_43 (w : World) : He.Fa.ok (K0 w) (.glo "_law_args_read") = true := by kernel_rfl
theorem fk_44 (w : World) : He.Fa.ok (K0 w) (.glo "_law_rule_read") = true := by kernel_rfl
theorem fk_45 (w : World) : He.Fa.ok (K0 w) (.glo "_law_question_read") = true := by kernel_rfl
theorem fk_46 (w : World) : He.Fa.ok (K0 w) (.glo "_law_tests_read") = true := by kernel_rfl
theorem fk_47 (w : World) : He.Fa.ok (K0 w) (.glo "_law_read_due") = true := by kernel_rfl
theorem fk_48 (w : World) : He.Fa.ok (K0 w) (.glo "_law_plain_text") = true := by kernel_rfl
theorem fk_49 (w : World) : He.Fa.ok (K0 w) (.glo "_law_bent") = true := by kernel_rfl
theorem fk_50 (w : World) : He.Fa.ok (K0 w) (.glo "_law_told") = true := by kernel_rfl
theorem fk_51 (w : World) : He.Fa.ok (K0 w) (.glo "law") = true := by kernel_rfl
theorem fk_52 (w : World) : He.Fa.ok (K0 w) (.free "len") = true := by kernel_rfl
theorem fk_53 (w : World) : He.Fa.ok (K0 w) (.free "list") = true := by kernel_rfl
theorem fk_54 (w : World) : He.Fa.ok (K0 w) (.free "range") = true := by kernel_rfl
theorem fk_55 (w : World) : He.Fa.ok (K0 w) (.free "isinstance") = true := by kernel_rfl
theorem fk_56 (w : World) : He.Fa.ok (K0 w) (.free "tuple") = true := by kernel_rfl
theorem fk_57 (w : World) : He.Fa.ok (K0 w) (.free "repr") = true := by kernel_rfl
theorem fk_58 (w : World) : He.Fa.ok (K0 w) (.free "zip") = true := by kernel_rfl
theorem fk_59 (w : World) : He.Fa.ok (K0 w) (.free "all") = true := by kernel_rfl
theorem fk_60 (w : World) : He.Fa.ok (K0 w) (.free "any") = true := by kernel_rfl
theorem fk_61 (w : World) : He.Fa.ok (K0 w) (.free "min") = true := by kernel_rfl
theorem fk_62 (w : World) : He.Fa.ok (K0 w) (.free "bool") = true := by kernel_rfl
theorem fk_63 (w : World) : He.Fa.ok (K0 w) (.free "int") = true := by kernel_rfl
theorem fk_64 (w : World) : He.Fa.ok (K0 w) (.free "str") = true := by kernel_rfl
theorem fk_65 (w : World) : He.Fa.ok (K0 w) (.free "ValueError") = true := by kernel_rfl
theorem fk_66 (w : World) : He.Fa.ok (K0 w) (.glo "LoreError") = true := by kernel_rfl
theorem fk_67 (w : World) : He.Fa.ok (K0 w) (.glo "TextError") = true := by kernel_rfl
theorem fk_68 (w : World) : He.Fa.ok (K0 w) (.glo "BadText") = true := by kernel_rfl
theorem fk_69 (w : World) : He.Fa.ok (K0 w) (.str "LETTERS" z_LETTERS) = true := by kernel_rfl
theorem fk_70 (w : World) : He.Fa.ok (K0 w) (.str "FIGURES" z_FIGURES) = true := by kernel_rfl
theorem fk_71 (w : World) : He.Fa.ok (K0 w) (.str "RUN" z_RUN) = true := by kernel_rfl
theorem fk_72 (w : World) : He.Fa.ok (K0 w) (.str "SIGNS" z_SIGNS) = true := by kernel_rfl
theorem fk_73 (w : World) : He.Fa.ok (K0 w) (.int "MOST_SIGNS" z_MOST_SIGNS) = true := by kernel_rfl
theorem fk_74 (w : World) : He.Fa.ok (K0 w) (.int "MOST_FIGURES" z_MOST_FIGURES) = true := by kernel_rfl
theorem fk_75 (w : World) : He.Fa.ok (K0 w) (.int "MOST_DEEP" z_MOST_DEEP) = true := by kernel_rfl
theorem fk_76 (w : World) : He.Fa.ok (K0 w) (.int "MOST_TERMS" z_MOST_TERMS) = true := by kernel_rfl
theorem fk_77 (w : World) : He.Fa.ok (K0 w) (.int "MOST_PARTS" z_MOST_PARTS) = true := by kernel_rfl
theorem fk_78 (w : World) : He.Fa.ok (K0 w) (.glo "Row") = true := by kernel_rfl
theorem fk_79 (w : World) : He.Fa.ok (K0 w) (.cls "Row") = true := by kernel_rfl
theorem fk_80 (w : World) : He.Fa.ok (K0 w) (.mkr "Row") = true := by kernel_rfl
theorem fk_81 (w : World) : He.Fa.ok (K0 w) (.noat "Row" "things") = true := by kernel_rfl
theorem fk_82 (w : World) : He.Fa.ok (K0 w) (.noat "Row" "spot") = true := by kernel_rfl
theorem fk_83 (w : World) : He.Fa.ok (K0 w) (.noat "Row" "mine") = true := by kernel_rfl
theorem fk_84 (w : World) : He.Fa.ok (K0 w) (.noat "Row" "plain") = true := by kernel_rfl
theorem fk_85 (w : World) : He.Fa.ok (K0 w) (.meth "Row" "sort_here") = true := by kernel_rfl
theorem fk_86 (w : World) : He.Fa.ok (K0 w) (.meth "Row" "thing") = true := by kernel_rfl
theorem fk_87 (w : World) : He.Fa.ok (K0 w) (.meth "Row" "is_sign") = true := by kernel_rfl
theorem fk_88 (w : World) : He.Fa.ok (K0 w) (.meth "Row" "is_kept") = true := by kernel_rfl
theorem fk_89 (w : World) : He.Fa.ok (K0 w) (.meth "Row" "wrong") = true := by kernel_rfl
theorem fk_90 (w : World) : He.Fa.ok (K0 w) (.meth "Row" "step") = true := by kernel_rfl
theorem fk_91 (w : World) : He.Fa.ok (K0 w) (.meth "Row" "need_sign") = true := by kernel_rfl
theorem fk_92 (w : World) : He.Fa.ok (K0 w) (.meth "Row" "need_name") = true := by kernel_rfl
theorem fk_93 (w : World) : He.Fa.ok (K0 w) (.meth "Row" "need_end") = true := by kernel_rfl
theorem fw_LoreError_ini (w : World) : He.fnW (K0 w) d_LoreError_ini.at_ = d_LoreError_ini.val := by kernel_rfl
theorem fo_LoreError_ini (w : World) : d_LoreError_ini.ok (K0 w) = true := by kernel_rfl
theorem fw_BadText_ini (w : World) : He.fnW (K0 w) d_BadText_ini.at_ = d_BadText_ini.val := by kernel_rfl
theorem fo_BadText_ini (w : World) : d_BadText_ini.ok (K0 w) = true := by kernel_rfl
theorem fw_Row_ini (w : World) : He.fnW (K0 w) d_Row_ini.at_ = d_Row_ini.val := by kernel_rfl
theorem fo_Row_ini (w : World) : d_Row_ini.ok (K0 w) = true := by kernel_rfl
theorem fw_Row_sort_here (w : World) : He.fnW (K0 w) d_Row_sort_here.at_ = d_Row_sort_here.val := by kernel_rfl
theorem fo_Row_sort_here (w : World) : d_Row_sort_here.ok (K0 w) = true := by kernel_rfl
theorem fw_Row_thing (w : World) : He.fnW (K0 w) d_Row_thing.at_ = d_Row_thing.val := by kernel_rfl
theorem fo_Row_thing (w : World) : d_Row_thing.ok (K0 w) = true := by kernel_rfl
theorem fw_Row_is_sign (w : World) : He.fnW (K0 w) d_Row_is_sign.at_ = d_Row_is_sign.val := by kernel_rfl
theorem fo_Row_is_sign (w : World) : d_Row_is_sign.ok (K0 w) = true := by kernel_rfl
theorem fw_Row_is_kept (w : World) : He.fnW (K0 w) d_Row_is_kept.at_ = d_Row_is_kept.val := by kernel_rfl
theorem fo_Row_is_kept (w : World) : d_Row_is_kept.ok (K0 w) = true := by kernel_rfl
theorem fw_Row_wrong (w : World) : He.fnW (K0 w) d_Row_wrong.at_ = d_Row_wrong.val := by kernel_rfl
theorem fo_Row_wrong (w : World) : d_Row_wrong.ok (K0 w) = true := by kernel_rfl
theorem fw_Row_step (w : World) : He.fnW (K0 w) d_Row_step.at_ = d_Row_step.val := by kernel_rfl
theorem fo_Row_step (w : World) : d_Row_step.ok (K0 w) = true := by kernel_rfl
theorem fw_Row_need_sign (w : World) : He.fnW (K0 w) d_Row_need_sign.at_ = d_Row_need_sign.val := by kernel_rfl
theorem fo_Row_need_sign (w : World) : d_Row_need_sign.ok (K0 w) = true := by kernel_rfl
theorem fw_Row_need_name (w : World) : He.fnW (K0 w) d_Row_need_name.at_ = d_Row_need_name.val := by kernel_rfl
theorem fo_Row_need_name (w : World) : d_Row_need_name.ok (K0 w) = true := by kernel_rfl
theorem fw_Row_need_end (w : World) : He.fnW (K0 w) d_Row_need_end.at_ = d_Row_need_end.val := by kernel_rfl
theorem fo_Row_need_end (w : World) : d_Row_need_end.ok (K0 w) = true := by kernel_rfl
theorem fw_is_word (w : World) : He.fnW (K0 w) d_is_word.at_ = d_is_word.val := by kernel_rfl
theorem fo_is_word (w : World) : d_is_word.ok (K0 w) = true := by kernel_rfl
theorem fw_is_name (w : World) : He.fnW (K0 w) d_is_name.at_ = d_is_name.val := by kernel_rfl
theorem fo_is_name (w : World) : d_is_name.ok (K0 w) = true := by kernel_rfl
theorem fw_is_number (w : World) : He.fnW (K0 w) d_is_number.at_ = d_is_number.val := by kernel_rfl
theorem fo_is_number (w : World) : d_is_number.ok (K0 w) = true := by kernel_rfl
theorem fw_run_end (w : World) : He.fnW (K0 w) d_run_end.at_ = d_run_end.val := by kernel_rfl
theorem fo_run_end (w : World) : d_run_end.ok (K0 w) = true := by kernel_rfl
theorem fw_is_full (w : World) : He.fnW (K0 w) d_is_full.at_ = d_is_full.val := by kernel_rfl
theorem fo_is_full (w : World) : d_is_full.ok (K0 w) = true := by kernel_rfl
theorem fw_run_thing (w : World) : He.fnW (K0 w) d_run_thing.at_ = d_run_thing.val := by kernel_rfl
theorem fo_run_thing (w : World) : d_run_thing.ok (K0 w) = true := by kernel_rfl
theorem fw_word_thing (w : World) : He.fnW (K0 w) d_word_thing.at_ = d_word_thing.val := by kernel_rfl
theorem fo_word_thing (w : World) : d_word_thing.ok (K0 w) = true := by kernel_rfl
theorem fw_begins_number (w : World) : He.fnW (K0 w) d_begins_number.at_ = d_begins_number.val := by kernel_rfl
theorem fo_begins_number (w : World) : d_begins_number.ok (K0 w) = true := by kernel_rfl
theorem fw_next_thing (w : World) : He.fnW (K0 w) d_next_thing.at_ = d_next_thing.val := by kernel_rfl
theorem fo_next_thing (w : World) : d_next_thing.ok (K0 w) = true := by kernel_rfl
theorem fw_things_of (w : World) : He.fnW (K0 w) d_things_of.at_ = d_things_of.val := by kernel_rfl
theorem fo_things_of (w : World) : d_things_of.ok (K0 w) = true := by kernel_rfl
theorem fw_read_leaf (w : World) : He.fnW (K0 w) d_read_leaf.at_ = d_read_leaf.val := by kernel_rfl
theorem fo_read_leaf (w : World) : d_read_leaf.ok (K0 w) = true := by kernel_rfl
theorem fw_read_product (w : World) : He.fnW (K0 w) d_read_product.at_ = d_read_product.val := by kernel_rfl
theorem fo_read_product (w : World) : d_read_product.ok (K0 w) = true := by kernel_rfl
theorem fw_read_sum (w : World) : He.fnW (K0 w) d_read_sum.at_ = d_read_sum.val := by kernel_rfl
theorem fo_read_sum (w : World) : d_read_sum.ok (K0 w) = true := by kernel_rfl
theorem fw_read_test (w : World) : He.fnW (K0 w) d_read_test.at_ = d_read_test.val := by kernel_rfl
theorem fo_read_test (w : World) : d_read_test.ok (K0 w) = true := by kernel_rfl
theorem fw_read_term (w : World) : He.fnW (K0 w) d_read_term.at_ = d_read_term.val := by kernel_rfl
theorem fo_read_term (w : World) : d_read_term.ok (K0 w) = true := by kernel_rfl
theorem fw_read_atom (w : World) : He.fnW (K0 w) d_read_atom.at_ = d_read_atom.val := by kernel_rfl
theorem fo_read_atom (w : World) : d_read_atom.ok (K0 w) = true := by kernel_rfl
theorem fw_read_part (w : World) : He.fnW (K0 w) d_read_part.at_ = d_read_part.val := by kernel_rfl
theorem fo_read_part (w : World) : d_read_part.ok (K0 w) = true := by kernel_rfl
theorem fw_read_parts (w : World) : He.fnW (K0 w) d_read_parts.at_ = d_read_parts.val := by kernel_rfl
theorem fo_read_parts (w : World) : d_read_parts.ok (K0 w) = true := by kernel_rfl
theorem fw_read_arg (w : World) : He.fnW (K0 w) d_read_arg.at_ = d_read_arg.val := by kernel_rfl
theorem fo_read_arg (w : World) : d_read_arg.ok (K0 w) = true := by kernel_rfl
theorem fw_read_args (w : World) : He.fnW (K0 w) d_read_args.at_ = d_read_args.val := by kernel_rfl
theorem fo_read_args (w : World) : d_read_args.ok (K0 w) = true := by kernel_rfl
theorem fw_read_rule (w : World) : He.fnW (K0 w) d_read_rule.at_ = d_read_rule.val := by kernel_rfl
theorem fo_read_rule (w : World) : d_read_rule.ok (K0 w) = true := by kernel_rfl
theorem fw_read_paper (w : World) : He.fnW (K0 w) d_read_paper.at_ = d_read_paper.val := by kernel_rfl
theorem fo_read_paper (w : World) : d_read_paper.ok (K0 w) = true := by kernel_rfl
theorem fw__law_bag (w : World) : He.fnW (K0 w) d__law_bag.at_ = d__law_bag.val := by kernel_rfl
theorem fo__law_bag (w : World) : d__law_bag.ok (K0 w) = true := by kernel_rfl
theorem fw__law_pull (w : World) : He.fnW (K0 w) d__law_pull.at_ = d__law_pull.val := by kernel_rfl
theorem fo__law_pull (w : World) : d__law_pull.ok (K0 w) = true := by kernel_rfl
theorem fw__law_one (w : World) : He.fnW (K0 w) d__law_one.at_ = d__law_one.val := by kernel_rfl
theorem fo__law_one (w : World) : d__law_one.ok (K0 w) = true := by kernel_rfl
theorem fw__law_same (w : World) : He.fnW (K0 w) d__law_same.at_ = d__law_same.val := by kernel_rfl
theorem fo__law_same (w : World) : d__law_same.ok (K0 w) = true := by kernel_rfl
theorem fw__law_barred (w : World) : He.fnW (K0 w) d__law_barred.at_ = d__law_barred.val := by kernel_rfl
theorem fo__law_barred (w : World) : d__law_barred.ok (K0 w) = true := by kernel_rfl
theorem fw__law_word (w : World) : He.fnW (K0 w) d__law_word.at_ = d__law_word.val := by kernel_rfl
theorem fo__law_word (w : World) : d__law_word.ok (K0 w) = true := by kernel_rfl
theorem fw__law_run (w : World) : He.fnW (K0 w) d__law_run.at_ = d__law_run.val := by kernel_rfl
theorem fo__law_run (w : World) : d__law_run.ok (K0 w) = true := by kernel_rfl
theorem fw__law_is_word (w : World) : He.fnW (K0 w) d__law_is_word.at_ = d__law_is_word.val := by kernel_rfl
theorem fo__law_is_word (w : World) : d__law_is_word.ok (K0 w) = true := by kernel_rfl
theorem fw__law_is_name (w : World) : He.fnW (K0 w) d__law_is_name.at_ = d__law_is_name.val := by kernel_rfl
theorem fo__law_is_name (w : World) : d__law_is_name.ok (K0 w) = true := by kernel_rfl
theorem fw__law_figures (w : World) : He.fnW (K0 w) d__law_figures.at_ = d__law_figures.val := by kernel_rfl
theorem fo__law_figures (w : World) : d__law_figures.ok (K0 w) = true := by kernel_rfl
theorem fw__law_run_thing (w : World) : He.fnW (K0 w) d__law_run_thing.at_ = d__law_run_thing.val := by kernel_rfl
theorem fo__law_run_thing (w : World) : d__law_run_thing.ok (K0 w) = true := by kernel_rfl
theorem fw__law_thing (w : World) : He.fnW (K0 w) d__law_thing.at_ = d__law_thing.val := by kernel_rfl
theorem fo__law_thing (w : World) : d__law_thing.ok (K0 w) = true := by kernel_rfl
theorem fw__law_things (w : World) : He.fnW (K0 w) d__law_things.at_ = d__law_things.val := by kernel_rfl
theorem fo__law_things (w : World) : d__law_things.ok (K0 w) = true := by kernel_rfl
theorem fw__law_leaf_read (w : World) : He.fnW (K0 w) d__law_leaf_read.at_ = d__law_leaf_read.val := by kernel_rfl
theorem fo__law_leaf_read (w : World) : d__law_leaf_read.ok (K0 w) = true := by kernel_rfl
theorem fw__law_sum_read (w : World) : He.fnW (K0 w) d__law_sum_read.at_ = d__law_sum_read.val := by kernel_rfl
theorem fo__law_sum_read (w : World) : d__law_sum_read.ok (K0 w) = true := by kernel_rfl
theorem fw__law_test_read (w : World) : He.fnW (K0 w) d__law_test_read.at_ = d__law_test_read.val := by kernel_rfl
theorem fo__law_test_read (w : World) : d__law_test_read.ok (K0 w) = true := by kernel_rfl
theorem fw__law_term_read (w : World) : He.fnW (K0 w) d__law_term_read.at_ = d__law_term_read.val := by kernel_rfl
theorem fo__law_term_read (w : World) : d__law_term_read.ok (K0 w) = true := by kernel_rfl
theorem fw__law_atom_read (w : World) : He.fnW (K0 w) d__law_atom_read.at_ = d__law_atom_read.val := by kernel_rfl
theorem fo__law_atom_read (w : World) : d__law_atom_read.ok (K0 w) = true := by kernel_rfl
theorem fw__law_part_read (w : World) : He.fnW (K0 w) d__law_part_read.at_ = d__law_part_read.val := by kernel_rfl
theorem fo__law_part_read (w : World) : d__law_part_read.ok (K0 w) = true := by kernel_rfl
theorem fw__law_parts_read (w : World) : He.fnW (K0 w) d__law_parts_read.at_ = d__law_parts_read.val := by kernel_rfl
theorem fo__law_parts_read (w : World) : d__law_parts_read.ok (K0 w) = true := by kernel_rfl
theorem fw__law_arg_read (w : World) : He.fnW (K0 w) d__law_arg_read.at_ = d__law_arg_read.val := by kernel_rfl
theorem fo__law_arg_read (w : World) : d__law_arg_read.ok (K0 w) = true := by kernel_rfl
theorem fw__law_args_read (w : World) : He.fnW (K0 w) d__law_args_read.at_ = d__law_args_read.val := by kernel_rfl
theorem fo__law_args_read (w : World) : d__law_args_read.ok (K0 w) = true := by kernel_rfl
theorem fw__law_rule_read (w : World) : He.fnW (K0 w) d__law_rule_read.at_ = d__law_rule_read.val := by kernel_rfl
theorem fo__law_rule_read (w : World) : d__law_rule_read.ok (K0 w) = true := by kernel_rfl
theorem fw__law_question_read (w : World) : He.fnW (K0 w) d__law_question_read.at_ = d__law_question_read.val := by kernel_rfl
theorem fo__law_question_read (w : World) : d__law_question_read.ok (K0 w) = true := by kernel_rfl
theorem fw__law_tests_read (w : World) : He.fnW (K0 w) d__law_tests_read.at_ = d__law_tests_read.val := by kernel_rfl
theorem fo__law_tests_read (w : World) : d__law_tests_read.ok (K0 w) = true := by kernel_rfl
theorem fw__law_read_due (w : World) : He.fnW (K0 w) d__law_read_due.at_ = d__law_read_due.val := by kernel_rfl
theorem fo__law_read_due (w : World) : d__law_read_due.ok (K0 w) = true := by kernel_rfl
theorem fw__law_plain_text (w : World) : He.fnW (K0 w) d__law_plain_text.at_ = d__law_plain_text.val := by kernel_rfl
theorem fo__law_plain_text (w : World) : d__law_plain_text.ok (K0 w) = true := by kernel_rfl
theorem fw__law_bent (w : World) : He.fnW (K0 w) d__law_bent.at_ = d__law_bent.val := by kernel_rfl
theorem fo__law_bent (w : World) : d__law_bent.ok (K0 w) = true := by kernel_rfl
theorem fw__law_told (w : World) : He.fnW (K0 w) d__law_told.at_ = d__law_told.val := by kernel_rfl
theorem fo__law_told (w : World) : d__law_told.ok (K0 w) = true := by kernel_rfl
theorem fw_law (w : World) : He.fnW (K0 w) d_law.at_ = d_law.val := by kernel_rfl
theorem fo_law (w : World) : d_law.ok (K0 w) = true := by kernel_rfl
def ex_0 (K : PySem.W.Frag) : Bool := SL.ecB K (He.ga K "LoreError")
theorem xe_0 (w : World) : ex_0 (K0 w) = true := by kernel_rfl
def ex_1 (K : PySem.W.Frag) : Bool := SL.eciB K (He.ga K "LoreError") (He.fAd K ("LoreError", some "__init__"))
theorem xe_1 (w : World) : ex_1 (K0 w) = true := by kernel_rfl
def ex_2 (K : PySem.W.Frag) : Bool := SL.ecB K (He.ga K "TextError")
theorem xe_2 (w : World) : ex_2 (K0 w) = true := by kernel_rfl
def ex_3 (K : PySem.W.Frag) : Bool := SL.eciB K (He.ga K "TextError") (He.fAd K ("LoreError", some "__init__"))
theorem xe_3 (w : World) : ex_3 (K0 w) = true := by kernel_rfl
def ex_4 (K : PySem.W.Frag) : Bool := SL.ecB K (He.ga K "BadText")
theorem xe_4 (w : World) : ex_4 (K0 w) = true := by kernel_rfl
def ex_5 (K : PySem.W.Frag) : Bool := SL.eciB K (He.ga K "BadText") (He.fAd K ("BadText", some "__init__"))
theorem xe_5 (w : World) : ex_5 (K0 w) = true := by kernel_rfl
def ex_6 (K : PySem.W.Frag) : Bool := decide (PySem.W.findIn K (.ref (He.ga K "BadText")) "word" = some none)
theorem xe_6 (w : World) : ex_6 (K0 w) = true := by kernel_rfl
def ex_7 (K : PySem.W.Frag) : Bool := decide (PySem.W.findIn K (.ref (He.ga K "BadText")) "at" = some none)
theorem xe_7 (w : World) : ex_7 (K0 w) = true := by kernel_rfl
def ex_8 (K : PySem.W.Frag) : Bool := decide (PySem.W.exmOne K (.ref (He.ga K "BadText")) (.ref (He.ga K "LoreError")) = some true)
theorem xe_8 (w : World) : ex_8 (K0 w) = true := by kernel_rfl
def ex_9 (K : PySem.W.Frag) : Bool := decide (PySem.W.exmOne K (.ref (He.ga K "BadText")) (.ref (He.ga K "BadText")) = some true)
theorem xe_9 (w : World) : ex_9 (K0 w) = true := by kernel_rfl
def ex_10 (K : PySem.W.Frag) : Bool := decide (PySem.W.kitOne K (.ref (He.ga K "BadText")) (.ref (He.ga K "BadText")) = some true)
theorem xe_10 (w : World) : ex_10 (K0 w) = true := by kernel_rfl
def ex_11 (K : PySem.W.Frag) : Bool := decide (PySem.W.nsIn K mainGlobals "KEPT" = some (some (.ref (He.ga K "KEPT")))) && He.tupB K "KEPT" (keptW.map He.Dv.str)
theorem xe_11 (w : World) : ex_11 (K0 w) = true := by kernel_rfl
def ex_12 (K : PySem.W.Frag) : Bool := decide (PySem.W.nsIn K mainGlobals "TESTS" = some (some (.ref (He.ga K "TESTS")))) && He.tupB K "TESTS" (testsW.map He.Dv.str)
theorem xe_12 (w : World) : ex_12 (K0 w) = true := by kernel_rfl
def ex_13 (K : PySem.W.Frag) : Bool := decide (PySem.W.nsIn K mainGlobals "FOLDS" = some (some (.ref (He.ga K "FOLDS")))) && He.tupB K "FOLDS" (foldsW.map He.Dv.str)
theorem xe_13 (w : World) : ex_13 (K0 w) = true := by kernel_rfl
def ex_14 (K : PySem.W.Frag) : Bool := decide (PySem.W.nsIn K cStatics sharingNotToldKey = some none)
theorem xe_14 (w : World) : ex_14 (K0 w) = true := by kernel_rfl
theorem facts {P : Program} {w : World} {K : PySem.W.Frag} {h : Heap} {mg : Str → Option Value} {f : Addr} (X : K.In h) (G : h.Ns mainGlobals mg) (hfa : mg ("law" : Str) = some (.ref f)) (hK : K = K0 w) :
  ∃ fd : FuncData, (∀ (s : Shared) (v : Value), BindsTo s fd ⟨[v], []⟩ [("_law_script", v)]) ∧ ∀ base : Heap, K.In base → base.Ns mainGlobals mg → FnG P w K mg base CX0 140 f fd ["_law_script"] (spLaw K) := by
 obtain ⟨fd_LoreError_ini, F_LoreError_ini⟩ := He.DefD.funD (K := K) (d := d_LoreError_ini) (by rw [hK]; exact fw_LoreError_ini w) (by rw [hK]; exact fo_LoreError_ini w)
 have b_LoreError_ini : Binds K fd_LoreError_ini ["self", "word"] [] := F_LoreError_ini.bindsN fun _ _ _ _ _ _ us hl => match us, hl with | [_, _], _ => rfl
 obtain ⟨fd_BadText_ini, F_BadText_ini⟩ := He.DefD.funD (K := K) (d := d_BadText_ini) (by rw [hK]; exact fw_BadText_ini w) (by rw [hK]; exact fo_BadText_ini w)
 have b_BadText_ini : Binds K fd_BadText_ini ["self", "at"] [] := F_BadText_ini.bindsN fun _ _ _ _ _ _ us hl => match us, hl with | [_, _], _ => rfl
 obtain ⟨fd_Row_ini, F_Row_ini⟩ := He.DefD.funD (K := K) (d := d_Row_ini) (by rw [hK]; exact fw_Row_ini w) (by rw [hK]; exact fo_Row_ini w)
 obtain ⟨fd_Row_sort_here, F_Row_sort_here⟩ := He.DefD.funD (K := K) (d := d_Row_sort_here) (by rw [hK]; exact fw_Row_sort_here w) (by rw [hK]; exact fo_Row_sort_here w)
 obtain ⟨fd_Row_thing, F_Row_thing⟩ := He.DefD.funD (K := K) (d := d_Row_thing) (by rw [hK]; exact fw_Row_thing w) (by rw [hK]; exact fo_Row_thing w)
 obtain ⟨fd_Row_is_sign, F_Row_is_sign⟩ := He.DefD.funD (K := K) (d := d_Row_is_sign) (by rw [hK]; exact fw_Row_is_sign w) (by rw [hK]; exact fo_Row_is_sign w)
 obtain ⟨fd_Row_is_kept, F_Row_is_kept⟩ := He.DefD.funD (K := K) (d := d_Row_is_kept) (by rw [hK]; exact fw_Row_is_kept w) (by rw [hK]; exact fo_Row_is_kept w)
 obtain ⟨fd_Row_wrong, F_Row_wrong⟩ := He.DefD.funD (K := K) (d := d_Row_wrong) (by rw [hK]; exact fw_Row_wrong w) (by rw [hK]; exact fo_Row_wrong w)
 have b_Row_wrong : Binds K fd_Row_wrong ["self"] [] := F_Row_wrong.bindsN fun _ _ _ _ _ _ us hl => match us, hl with | [_], _ => rfl
 obtain ⟨fd_Row_step, F_Row_step⟩ := He.DefD.funD (K := K) (d := d_Row_step) (by rw [hK]; exact fw_Row_step w) (by rw [hK]; exact fo_Row_step w)
 have b_Row_step : Binds K fd_Row_step ["self"] [] := F_Row_step.bindsN fun _ _ _ _ _ _ us hl => match us, hl with | [_], _ => rfl
 obtain ⟨fd_Row_need_sign, F_Row_need_sign⟩ := He.DefD.funD (K := K) (d := d_Row_need_sign) (by rw [hK]; exact fw_Row_need_sign w) (by rw [hK]; exact fo_Row_need_sign w)
 have b_Row_need_sign : Binds K fd_Row_need_sign ["self", "sign"] [] := F_Row_need_sign.bindsN fun _ _ _ _ _ _ us hl => match us, hl with | [_, _], _ => rfl
 obtain ⟨fd_Row_need_name, F_Row_need_name⟩ := He.DefD.funD (K := K) (d := d_Row_need_name) (by rw [hK]; exact fw_Row_need_name w) (by rw [hK]; exact fo_Row_need_name w)
 have b_Row_need_name : Binds K fd_Row_need_name ["self"] [] := F_Row_need_name.bindsN fun _ _ _ _ _ _ us hl => match us, hl with | [_], _ => rfl
 obtain ⟨fd_Row_need_end, F_Row_need_end⟩ := He.DefD.funD (K := K) (d := d_Row_need_end) (by rw [hK]; exact fw_Row_need_end w) (by rw [hK]; exact fo_Row_need_end w)
 have b_Row_need_end : Binds K fd_Row_need_end ["self"] [] := F_Row_need_end.bindsN fun _ _ _ _ _ _ us hl => match us, hl with | [_], _ => rfl
 obtain ⟨fd_is_word, F_is_word⟩ := He.DefD.funD (K := K) (d := d_is_word) (by rw [hK]; exact fw_is_word w) (by rw [hK]; exact fo_is_word w)
 have M_is_word := He.glo_ok X G (show He.Fa.ok K (.glo "is_word") = true by rw [hK]; exact fk_0 w)
 have b_is_word : Binds K fd_is_word ["text"] [] := F_is_word.bindsN fun _ _ _ _ _ _ us hl => match us, hl with | [_], _ => rfl
 obtain ⟨fd_is_name, F_is_name⟩ := He.DefD.funD (K := K) (d := d_is_name) (by rw [hK]; exact fw_is_name w) (by rw [hK]; exact fo_is_name w)
 have M_is_name := He.glo_ok X G (show He.Fa.ok K (.glo "is_name") = true by rw [hK]; exact fk_1 w)
 have b_is_name : Binds K fd_is_name ["text"] [] := F_is_name.bindsN fun _ _ _ _ _ _ us hl => match us, hl with | [_], _ => rfl
 obtain ⟨fd_is_number, F_is_number⟩ := He.DefD.funD (K := K) (d := d_is_number) (by rw [hK]; exact fw_is_number w) (by rw [hK]; exact fo_is_number w)
 have M_is_number := He.glo_ok X G (show He.Fa.ok K (.glo "is_number") = true by rw [hK]; exact fk_2 w)
 have b_is_number : Binds K fd_is_number ["text"] [] := F_is_number.bindsN fun _ _ _ _ _ _ us hl => match us, hl with | [_], _ => rfl
 obtain ⟨fd_run_end, F_run_end⟩ := He.DefD.funD (K := K) (d := d_run_end) (by rw [hK]; exact fw_run_end w) (by rw [hK]; exact fo_run_end w)
 have M_run_end := He.glo_ok X G (show He.Fa.ok K (.glo "run_end") = true by rw [hK]; exact fk_3 w)
 have b_run_end : Binds K fd_run_end ["text", "at"] [] := F_run_end.bindsN fun _ _ _ _ _ _ us hl => match us, hl with | [_, _], _ => rfl
 obtain ⟨fd_is_full, F_is_full⟩ := He.DefD.funD (K := K) (d := d_is_full) (by rw [hK]; exact fw_is_full w) (by rw [hK]; exact fo_is_full w)
 have M_is_full := He.glo_ok X G (show He.Fa.ok K (.glo "is_full") = true by rw [hK]; exact fk_4 w)
 have b_is_full : Binds K fd_is_full ["text"] [] := F_is_full.bindsN fun _ _ _ _ _ _ us hl => match us, hl with | [_], _ => rfl
 obtain ⟨fd_run_thing, F_run_thing⟩ := He.DefD.funD (K := K) (d := d_run_thing) (by rw [hK]; exact fw_run_thing w) (by rw [hK]; exact fo_run_thing w)
 have M_run_thing := He.glo_ok X G (show He.Fa.ok K (.glo "run_thing") = true by rw [hK]; exact fk_5 w)
 have b_run_thing : Binds K fd_run_thing ["run", "at"] [] := F_run_thing.bindsN fun _ _ _ _ _ _ us hl => match us, hl with | [_, _], _ => rfl
 obtain ⟨fd_word_thing, F_word_thing⟩ := He.DefD.funD (K := K) (d := d_word_thing) (by rw [hK]; exact fw_word_thing w) (by rw [hK]; exact fo_word_thing w)
 have M_word_thing := He.glo_ok X G (show He.Fa.ok K (.glo "word_thing") = true by rw [hK]; exact fk_6 w)
 have b_word_thing : Binds K fd_word_thing ["text", "at"] [] := F_word_thing.bindsN fun _ _ _ _ _ _ us hl => match us, hl with | [_, _], _ => rfl
 obtain ⟨fd_begins_number, F_begins_number⟩ := He.DefD.funD (K := K) (d := d_begins_number) (by rw [hK]; exact fw_begins_number w) (by rw [hK]; exact fo_begins_number w)
 have M_begins_number := He.glo_ok X G (show He.Fa.ok K (.glo "begins_number") = true by rw [hK]; exact fk_7 w)
 have b_begins_number : Binds K fd_begins_number ["text", "at", "things"] [] := F_begins_number.bindsN fun _ _ _ _ _ _ us hl => match us, hl with | [_, _, _], _ => rfl
 obtain ⟨fd_next_thing, F_next_thing⟩ := He.DefD.funD (K := K) (d := d_next_thing) (by rw [hK]; exact fw_next_thing w) (by rw [hK]; exact fo_next_thing w)
 have M_next_thing := He.glo_ok X G (show He.Fa.ok K (.glo "next_thing") = true by rw [hK]; exact fk_8 w)
 have b_next_thing : Binds K fd_next_thing ["text", "at", "things"] [] := F_next_thing.bindsN fun _ _ _ _ _ _ us hl => match us, hl with | [_, _, _], _ => rfl
 obtain ⟨fd_things_of, F_things_of⟩ := He.DefD.funD (K := K) (d := d_things_of) (by rw [hK]; exact fw_things_of w) (by rw [hK]; exact fo_things_of w)
 have M_things_of := He.glo_ok X G (show He.Fa.ok K (.glo "things_of") = true by rw [hK]; exact fk_9 w)
 have b_things_of : Binds K fd_things_of ["text"] [] := F_things_of.bindsN fun _ _ _ _ _ _ us hl => match us, hl with | [_], _ => rfl
 obtain ⟨fd_read_leaf, F_read_leaf⟩ := He.DefD.funD (K := K) (d := d_read_leaf) (by rw [hK]; exact fw_read_leaf w) (by rw [hK]; exact fo_read_leaf w)
 have M_read_leaf := He.glo_ok X G (show He.Fa.ok K (.glo "read_leaf") = true by rw [hK]; exact fk_10 w)
 have b_read_leaf : Binds K fd_read_leaf ["row", "deep"] [] := F_read_leaf.bindsN fun _ _ _ _ _ _ us hl => match us, hl with | [_, _], _ => rfl
 obtain ⟨fd_read_product, F_read_product⟩ := He.DefD.funD (K := K) (d := d_read_product) (by rw [hK]; exact fw_read_product w) (by rw [hK]; exact fo_read_product w)
 have M_read_product := He.glo_ok X G (show He.Fa.ok K (.glo "read_product") = true by rw [hK]; exact fk_11 w)
 have b_read_product : Binds K fd_read_product ["row", "deep"] [] := F_read_product.bindsN fun _ _ _ _ _ _ us hl => match us, hl with | [_, _], _ => rfl
 obtain ⟨fd_read_sum, F_read_sum⟩ := He.DefD.funD (K := K) (d := d_read_sum) (by rw [hK]; exact fw_read_sum w) (by rw [hK]; exact fo_read_sum w)
 have M_read_sum := He.glo_ok X G (show He.Fa.ok K (.glo "read_sum") = true by rw [hK]; exact fk_12 w)
 have b_read_sum : Binds K fd_read_sum ["row", "deep"] [] := F_read_sum.bindsN fun _ _ _ _ _ _ us hl => match us, hl with | [_, _], _ => rfl
 obtain ⟨fd_read_test, F_read_test⟩ := He.DefD.funD (K := K) (d := d_read_test) (by rw [hK]; exact fw_read_test w) (by rw [hK]; exact fo_read_test w)
 have M_read_test := He.glo_ok X G (show He.Fa.ok K (.glo "read_test") = true by rw [hK]; exact fk_13 w)
 have b_read_test : Binds K fd_read_test ["row"] [] := F_read_test.bindsN fun _ _ _ _ _ _ us hl => match us, hl with | [_], _ => rfl
 obtain ⟨fd_read_term, F_read_term⟩ := He.DefD.funD (K := K) (d := d_read_term) (by rw [hK]; exact fw_read_term w) (by rw [hK]; exact fo_read_term w)
 have M_read_term := He.glo_ok X G (show He.Fa.ok K (.glo "read_term") = true by rw [hK]; exact fk_14 w)
 have b_read_term : Binds K fd_read_term ["row"] [] := F_read_term.bindsN fun _ _ _ _ _ _ us hl => match us, hl with | [_], _ => rfl
 obtain ⟨fd_read_atom, F_read_atom⟩ := He.DefD.funD (K := K) (d := d_read_atom) (by rw [hK]; exact fw_read_atom w) (by rw [hK]; exact fo_read_atom w)
 have M_read_atom := He.glo_ok X G (show He.Fa.ok K (.glo "read_atom") = true by rw [hK]; exact fk_15 w)
 have b_read_atom : Binds K fd_read_atom ["row", "word"] [] := F_read_atom.bindsN fun _ _ _ _ _ _ us hl => match us, hl with | [_, _], _ => rfl
 obtain ⟨fd_read_part, F_read_part⟩ := He.DefD.funD (K := K) (d := d_read_part) (by rw [hK]; exact fw_read_part w) (by rw [hK]; exact fo_read_part w)
 have M_read_part := He.glo_ok X G (show He.Fa.ok K (.glo "read_part") = true by rw [hK]; exact fk_16 w)
 have b_read_part : Binds K fd_read_part ["row"] [] := F_read_part.bindsN fun _ _ _ _ _ _ us hl => match us, hl with | [_], _ => rfl
 obtain ⟨fd_read_parts, F_read_parts⟩ := He.DefD.funD (K := K) (d := d_read_parts) (by rw [hK]; exact fw_read_parts w) (by rw [hK]; exact fo_read_parts w)
 have M_read_parts := He.glo_ok X G (show He.Fa.ok K (.glo "read_parts") = true by rw [hK]; exact fk_17 w)
 have b_read_parts : Binds K fd_read_parts ["row", "most"] [] := F_read_parts.bindsN fun _ _ _ _ _ _ us hl => match us, hl with | [_, _], _ => rfl
 obtain ⟨fd_read_arg, F_read_arg⟩ := He.DefD.funD (K := K) (d := d_read_arg) (by rw [hK]; exact fw_read_arg w) (by rw [hK]; exact fo_read_arg w)
 have M_read_arg := He.glo_ok X G (show He.Fa.ok K (.glo "read_arg") = true by rw [hK]; exact fk_18 w)
 have b_read_arg : Binds K fd_read_arg ["row", "folded"] [] := F_read_arg.bindsN fun _ _ _ _ _ _ us hl => match us, hl with | [_, _], _ => rfl
 obtain ⟨fd_read_args, F_read_args⟩ := He.DefD.funD (K := K) (d := d_read_args) (by rw [hK]; exact fw_read_args w) (by rw [hK]; exact fo_read_args w)
 have M_read_args := He.glo_ok X G (show He.Fa.ok K (.glo "read_args") = true by rw [hK]; exact fk_19 w)
 have b_read_args : Binds K fd_read_args ["row"] [] := F_read_args.bindsN fun _ _ _ _ _ _ us hl => match us, hl with | [_], _ => rfl
 obtain ⟨fd_read_rule, F_read_rule⟩ := He.DefD.funD (K := K) (d := d_read_rule) (by rw [hK]; exact fw_read_rule w) (by rw [hK]; exact fo_read_rule w)
 have M_read_rule := He.glo_ok X G (show He.Fa.ok K (.glo "read_rule") = true by rw [hK]; exact fk_20 w)
 have b_read_rule : Binds K fd_read_rule ["text"] [] := F_read_rule.bindsN fun _ _ _ _ _ _ us hl => match us, hl with | [_], _ => rfl
 obtain ⟨fd_read_paper, F_read_paper⟩ := He.DefD.funD (K := K) (d := d_read_paper) (by rw [hK]; exact fw_read_paper w) (by rw [hK]; exact fo_read_paper w)
 have M_read_paper := He.glo_ok X G (show He.Fa.ok K (.glo "read_paper") = true by rw [hK]; exact fk_21 w)
 have b_read_paper : Binds K fd_read_paper ["text"] [] := F_read_paper.bindsN fun _ _ _ _ _ _ us hl => match us, hl with | [_], _ => rfl
 obtain ⟨fd__law_bag, F__law_bag⟩ := He.DefD.funD (K := K) (d := d__law_bag) (by rw [hK]; exact fw__law_bag w) (by rw [hK]; exact fo__law_bag w)
 have M__law_bag := He.glo_ok X G (show He.Fa.ok K (.glo "_law_bag") = true by rw [hK]; exact fk_22 w)
 have b__law_bag : Binds K fd__law_bag ["_law_script"] [] := F__law_bag.bindsN fun _ _ _ _ _ _ us hl => match us, hl with | [_], _ => rfl
 obtain ⟨fd__law_pull, F__law_pull⟩ := He.DefD.funD (K := K) (d := d__law_pull) (by rw [hK]; exact fw__law_pull w) (by rw [hK]; exact fo__law_pull w)
 have M__law_pull := He.glo_ok X G (show He.Fa.ok K (.glo "_law_pull") = true by rw [hK]; exact fk_23 w)
 have b__law_pull : Binds K fd__law_pull ["_law_bag_here", "_law_upto"] [] := F__law_pull.bindsN fun _ _ _ _ _ _ us hl => match us, hl with | [_, _], _ => rfl
 obtain ⟨fd__law_one, F__law_one⟩ := He.DefD.funD (K := K) (d := d__law_one) (by rw [hK]; exact fw__law_one w) (by rw [hK]; exact fo__law_one w)
 have M__law_one := He.glo_ok X G (show He.Fa.ok K (.glo "_law_one") = true by rw [hK]; exact fk_24 w)
 have b__law_one : Binds K fd__law_one ["_law_bag_here", "_law_row"] [] := F__law_one.bindsN fun _ _ _ _ _ _ us hl => match us, hl with | [_, _], _ => rfl
 obtain ⟨fd__law_same, F__law_same⟩ := He.DefD.funD (K := K) (d := d__law_same) (by rw [hK]; exact fw__law_same w) (by rw [hK]; exact fo__law_same w)
 have M__law_same := He.glo_ok X G (show He.Fa.ok K (.glo "_law_same") = true by rw [hK]; exact fk_25 w)
 have b__law_same : Binds K fd__law_same ["_law_found", "_law_due"] [] := F__law_same.bindsN fun _ _ _ _ _ _ us hl => match us, hl with | [_, _], _ => rfl
 obtain ⟨fd__law_barred, F__law_barred⟩ := He.DefD.funD (K := K) (d := d__law_barred) (by rw [hK]; exact fw__law_barred w) (by rw [hK]; exact fo__law_barred w)
 have M__law_barred := He.glo_ok X G (show He.Fa.ok K (.glo "_law_barred") = true by rw [hK]; exact fk_26 w)
 have b__law_barred : Binds K fd__law_barred ["_law_word_here"] [] := F__law_barred.bindsN fun _ _ _ _ _ _ us hl => match us, hl with | [_], _ => rfl
 obtain ⟨fd__law_word, F__law_word⟩ := He.DefD.funD (K := K) (d := d__law_word) (by rw [hK]; exact fw__law_word w) (by rw [hK]; exact fo__law_word w)
 have M__law_word := He.glo_ok X G (show He.Fa.ok K (.glo "_law_word") = true by rw [hK]; exact fk_27 w)
 have b__law_word : Binds K fd__law_word ["_law_bag_here"] [] := F__law_word.bindsN fun _ _ _ _ _ _ us hl => match us, hl with | [_], _ => rfl
 obtain ⟨fd__law_run, F__law_run⟩ := He.DefD.funD (K := K) (d := d__law_run) (by rw [hK]; exact fw__law_run w) (by rw [hK]; exact fo__law_run w)
 have M__law_run := He.glo_ok X G (show He.Fa.ok K (.glo "_law_run") = true by rw [hK]; exact fk_28 w)
 have b__law_run : Binds K fd__law_run ["_law_text", "_law_spot"] [] := F__law_run.bindsN fun _ _ _ _ _ _ us hl => match us, hl with | [_, _], _ => rfl
 obtain ⟨fd__law_is_word, F__law_is_word⟩ := He.DefD.funD (K := K) (d := d__law_is_word) (by rw [hK]; exact fw__law_is_word w) (by rw [hK]; exact fo__law_is_word w)
 have M__law_is_word := He.glo_ok X G (show He.Fa.ok K (.glo "_law_is_word") = true by rw [hK]; exact fk_29 w)
 have b__law_is_word : Binds K fd__law_is_word ["_law_text"] [] := F__law_is_word.bindsN fun _ _ _ _ _ _ us hl => match us, hl with | [_], _ => rfl
 obtain ⟨fd__law_is_name, F__law_is_name⟩ := He.DefD.funD (K := K) (d := d__law_is_name) (by rw [hK]; exact fw__law_is_name w) (by rw [hK]; exact fo__law_is_name w)
 have M__law_is_name := He.glo_ok X G (show He.Fa.ok K (.glo "_law_is_name") = true by rw [hK]; exact fk_30 w)
 have b__law_is_name : Binds K fd__law_is_name ["_law_text"] [] := F__law_is_name.bindsN fun _ _ _ _ _ _ us hl => match us, hl with | [_], _ => rfl
 obtain ⟨fd__law_figures, F__law_figures⟩ := He.DefD.funD (K := K) (d := d__law_figures) (by rw [hK]; exact fw__law_figures w) (by rw [hK]; exact fo__law_figures w)
 have M__law_figures := He.glo_ok X G (show He.Fa.ok K (.glo "_law_figures") = true by rw [hK]; exact fk_31 w)
 have b__law_figures : Binds K fd__law_figures ["_law_text"] [] := F__law_figures.bindsN fun _ _ _ _ _ _ us hl => match us, hl with | [_], _ => rfl
 obtain ⟨fd__law_run_thing, F__law_run_thing⟩ := He.DefD.funD (K := K) (d := d__law_run_thing) (by rw [hK]; exact fw__law_run_thing w) (by rw [hK]; exact fo__law_run_thing w)
 have M__law_run_thing := He.glo_ok X G (show He.Fa.ok K (.glo "_law_run_thing") = true by rw [hK]; exact fk_32 w)
 have b__law_run_thing : Binds K fd__law_run_thing ["_law_run_here", "_law_spot"] [] := F__law_run_thing.bindsN fun _ _ _ _ _ _ us hl => match us, hl with | [_, _], _ => rfl
 obtain ⟨fd__law_thing, F__law_thing⟩ := He.DefD.funD (K := K) (d := d__law_thing) (by rw [hK]; exact fw__law_thing w) (by rw [hK]; exact fo__law_thing w)
 have M__law_thing := He.glo_ok X G (show He.Fa.ok K (.glo "_law_thing") = true by rw [hK]; exact fk_33 w)
 have b__law_thing : Binds K fd__law_thing ["_law_text", "_law_spot", "_law_things_here"] [] := F__law_thing.bindsN fun _ _ _ _ _ _ us hl => match us, hl with | [_, _, _], _ => rfl
 obtain ⟨fd__law_things, F__law_things⟩ := He.DefD.funD (K := K) (d := d__law_things) (by rw [hK]; exact fw__law_things w) (by rw [hK]; exact fo__law_things w)
 have M__law_things := He.glo_ok X G (show He.Fa.ok K (.glo "_law_things") = true by rw [hK]; exact fk_34 w)
 have b__law_things : Binds K fd__law_things ["_law_text"] [] := F__law_things.bindsN fun _ _ _ _ _ _ us hl => match us, hl with | [_], _ => rfl
 obtain ⟨fd__law_leaf_read, F__law_leaf_read⟩ := He.DefD.funD (K := K) (d := d__law_leaf_read) (by rw [hK]; exact fw__law_leaf_read w) (by rw [hK]; exact fo__law_leaf_read w)
 have M__law_leaf_read := He.glo_ok X G (show He.Fa.ok K (.glo "_law_leaf_read") = true by rw [hK]; exact fk_35 w)
 have b__law_leaf_read : Binds K fd__law_leaf_read ["_law_things_here", "_law_spot", "_law_deep", "_law_mine_too"] [] := F__law_leaf_read.bindsN fun _ _ _ _ _ _ us hl => match us, hl with | [_, _, _, _], _ => rfl
 obtain ⟨fd__law_sum_read, F__law_sum_read⟩ := He.DefD.funD (K := K) (d := d__law_sum_read) (by rw [hK]; exact fw__law_sum_read w) (by rw [hK]; exact fo__law_sum_read w)
 have M__law_sum_read := He.glo_ok X G (show He.Fa.ok K (.glo "_law_sum_read") = true by rw [hK]; exact fk_36 w)
 have b__law_sum_read : Binds K fd__law_sum_read ["_law_things_here", "_law_spot", "_law_deep", "_law_mine_too", "_law_level"] [] := F__law_sum_read.bindsN fun _ _ _ _ _ _ us hl => match us, hl with | [_, _, _, _, _], _ => rfl
 obtain ⟨fd__law_test_read, F__law_test_read⟩ := He.DefD.funD (K := K) (d := d__law_test_read) (by rw [hK]; exact fw__law_test_read w) (by rw [hK]; exact fo__law_test_read w)
 have M__law_test_read := He.glo_ok X G (show He.Fa.ok K (.glo "_law_test_read") = true by rw [hK]; exact fk_37 w)
 have b__law_test_read : Binds K fd__law_test_read ["_law_things_here", "_law_spot", "_law_mine_too"] [] := F__law_test_read.bindsN fun _ _ _ _ _ _ us hl => match us, hl with | [_, _, _], _ => rfl
 obtain ⟨fd__law_term_read, F__law_term_read⟩ := He.DefD.funD (K := K) (d := d__law_term_read) (by rw [hK]; exact fw__law_term_read w) (by rw [hK]; exact fo__law_term_read w)
 have M__law_term_read := He.glo_ok X G (show He.Fa.ok K (.glo "_law_term_read") = true by rw [hK]; exact fk_38 w)
 have b__law_term_read : Binds K fd__law_term_read ["_law_things_here", "_law_spot"] [] := F__law_term_read.bindsN fun _ _ _ _ _ _ us hl => match us, hl with | [_, _], _ => rfl
 obtain ⟨fd__law_atom_read, F__law_atom_read⟩ := He.DefD.funD (K := K) (d := d__law_atom_read) (by rw [hK]; exact fw__law_atom_read w) (by rw [hK]; exact fo__law_atom_read w)
 have M__law_atom_read := He.glo_ok X G (show He.Fa.ok K (.glo "_law_atom_read") = true by rw [hK]; exact fk_39 w)
 have b__law_atom_read : Binds K fd__law_atom_read ["_law_things_here", "_law_spot", "_law_word_here", "_law_plain_too"] [] := F__law_atom_read.bindsN fun _ _ _ _ _ _ us hl => match us, hl with | [_, _, _, _], _ => rfl
 obtain ⟨fd__law_part_read, F__law_part_read⟩ := He.DefD.funD (K := K) (d := d__law_part_read) (by rw [hK]; exact fw__law_part_read w) (by rw [hK]; exact fo__law_part_read w)
 have M__law_part_read := He.glo_ok X G (show He.Fa.ok K (.glo "_law_part_read") = true by rw [hK]; exact fk_40 w)
 have b__law_part_read : Binds K fd__law_part_read ["_law_things_here", "_law_spot", "_law_plain_too"] [] := F__law_part_read.bindsN fun _ _ _ _ _ _ us hl => match us, hl with | [_, _, _], _ => rfl
 obtain ⟨fd__law_parts_read, F__law_parts_read⟩ := He.DefD.funD (K := K) (d := d__law_parts_read) (by rw [hK]; exact fw__law_parts_read w) (by rw [hK]; exact fo__law_parts_read w)
 have M__law_parts_read := He.glo_ok X G (show He.Fa.ok K (.glo "_law_parts_read") = true by rw [hK]; exact fk_41 w)
 have b__law_parts_read : Binds K fd__law_parts_read ["_law_things_here", "_law_spot", "_law_plain_too", "_law_most_parts"] [] := F__law_parts_read.bindsN fun _ _ _ _ _ _ us hl => match us, hl with | [_, _, _, _], _ => rfl
 obtain ⟨fd__law_arg_read, F__law_arg_read⟩ := He.DefD.funD (K := K) (d := d__law_arg_read) (by rw [hK]; exact fw__law_arg_read w) (by rw [hK]; exact fo__law_arg_read w)
 have M__law_arg_read := He.glo_ok X G (show He.Fa.ok K (.glo "_law_arg_read") = true by rw [hK]; exact fk_42 w)
 have b__law_arg_read : Binds K fd__law_arg_read ["_law_things_here", "_law_spot", "_law_has_fold"] [] := F__law_arg_read.bindsN fun _ _ _ _ _ _ us hl => match us, hl with | [_, _, _], _ => rfl
 obtain ⟨fd__law_args_read, F__law_args_read⟩ := He.DefD.funD (K := K) (d := d__law_args_read) (by rw [hK]; exact fw__law_args_read w) (by rw [hK]; exact fo__law_args_read w)
 have M__law_args_read := He.glo_ok X G (show He.Fa.ok K (.glo "_law_args_read") = true by rw [hK]; exact fk_43 w)
 have b__law_args_read : Binds K fd__law_args_read ["_law_things_here", "_law_spot"] [] := F__law_args_read.bindsN fun _ _ _ _ _ _ us hl => match us, hl with | [_, _], _ => rfl
 obtain ⟨fd__law_rule_read, F__law_rule_read⟩ := He.DefD.funD (K := K) (d := d__law_rule_read) (by rw [hK]; exact fw__law_rule_read w) (by rw [hK]; exact fo__law_rule_read w)
 have M__law_rule_read := He.glo_ok X G (show He.Fa.ok K (.glo "_law_rule_read") = true by rw [hK]; exact fk_44 w)
 have b__law_rule_read : Binds K fd__law_rule_read ["_law_things_here"] [] := F__law_rule_read.bindsN fun _ _ _ _ _ _ us hl => match us, hl with | [_], _ => rfl
 obtain ⟨fd__law_question_read, F__law_question_read⟩ := He.DefD.funD (K := K) (d := d__law_question_read) (by rw [hK]; exact fw__law_question_read w) (by rw [hK]; exact fo__law_question_read w)
 have M__law_question_read := He.glo_ok X G (show He.Fa.ok K (.glo "_law_question_read") = true by rw [hK]; exact fk_45 w)
 have b__law_question_read : Binds K fd__law_question_read ["_law_things_here"] [] := F__law_question_read.bindsN fun _ _ _ _ _ _ us hl => match us, hl with | [_], _ => rfl
 obtain ⟨fd__law_tests_read, F__law_tests_read⟩ := He.DefD.funD (K := K) (d := d__law_tests_read) (by rw [hK]; exact fw__law_tests_read w) (by rw [hK]; exact fo__law_tests_read w)
 have M__law_tests_read := He.glo_ok X G (show He.Fa.ok K (.glo "_law_tests_read") = true by rw [hK]; exact fk_46 w)
 have b__law_tests_read : Binds K fd__law_tests_read ["_law_things_here"] [] := F__law_tests_read.bindsN fun _ _ _ _ _ _ us hl => match us, hl with | [_], _ => rfl
 obtain ⟨fd__law_read_due, F__law_read_due⟩ := He.DefD.funD (K := K) (d := d__law_read_due) (by rw [hK]; exact fw__law_read_due w) (by rw [hK]; exact fo__law_read_due w)
 have M__law_read_due := He.glo_ok X G (show He.Fa.ok K (.glo "_law_read_due") = true by rw [hK]; exact fk_47 w)
 have b__law_read_due : Binds K fd__law_read_due ["_law_text", "_law_which"] [] := F__law_read_due.bindsN fun _ _ _ _ _ _ us hl => match us, hl with | [_, _], _ => rfl
 obtain ⟨fd__law_plain_text, F__law_plain_text⟩ := He.DefD.funD (K := K) (d := d__law_plain_text) (by rw [hK]; exact fw__law_plain_text w) (by rw [hK]; exact fo__law_plain_text w)
 have M__law_plain_text := He.glo_ok X G (show He.Fa.ok K (.glo "_law_plain_text") = true by rw [hK]; exact fk_48 w)
 have b__law_plain_text : Binds K fd__law_plain_text ["_law_bag_here", "_law_which"] [] := F__law_plain_text.bindsN fun _ _ _ _ _ _ us hl => match us, hl with | [_, _], _ => rfl
 obtain ⟨fd__law_bent, F__law_bent⟩ := He.DefD.funD (K := K) (d := d__law_bent) (by rw [hK]; exact fw__law_bent w) (by rw [hK]; exact fo__law_bent w)
 have M__law_bent := He.glo_ok X G (show He.Fa.ok K (.glo "_law_bent") = true by rw [hK]; exact fk_49 w)
 have b__law_bent : Binds K fd__law_bent ["_law_bag_here", "_law_text"] [] := F__law_bent.bindsN fun _ _ _ _ _ _ us hl => match us, hl with | [_, _], _ => rfl
 obtain ⟨fd__law_told, F__law_told⟩ := He.DefD.funD (K := K) (d := d__law_told) (by rw [hK]; exact fw__law_told w) (by rw [hK]; exact fo__law_told w)
 have M__law_told := He.glo_ok X G (show He.Fa.ok K (.glo "_law_told") = true by rw [hK]; exact fk_50 w)
 have b__law_told : Binds K fd__law_told ["_law_text"] [] := F__law_told.bindsN fun _ _ _ _ _ _ us hl => match us, hl with | [_], _ => rfl
 obtain ⟨fd_law, F_law⟩ := He.DefD.funD (K := K) (d := d_law) (by rw [hK]; exact fw_law w) (by rw [hK]; exact fo_law w)
 have Z_len := He.free_ok X G (show He.Fa.ok K (.free "len") = true by rw [hK]; exact fk_52 w)
 have Z_list := He.free_ok X G (show He.Fa.ok K (.free "list") = true by rw [hK]; exact fk_53 w)
 have Z_range := He.free_ok X G (show He.Fa.ok K (.free "range") = true by rw [hK]; exact fk_54 w)
 have Z_isinstance := He.free_ok X G (show He.Fa.ok K (.free "isinstance") = true by rw [hK]; exact fk_55 w)
 have Z_tuple := He.free_ok X G (show He.Fa.ok K (.free "tuple") = true by rw [hK]; exact fk_56 w)
 have Z_repr := He.free_ok X G (show He.Fa.ok K (.free "repr") = true by rw [hK]; exact fk_57 w)
 have Z_zip := He.free_ok X G (show He.Fa.ok K (.free "zip") = true by rw [hK]; exact fk_58 w)
 have Z_all := He.free_ok X G (show He.Fa.ok K (.free "all") = true by rw [hK]; exact fk_59 w)
 have Z_any := He.free_ok X G (show He.Fa.ok K (.free "any") = true by rw [hK]; exact fk_60 w)
 have Z_min := He.free_ok X G (show He.Fa.ok K (.free "min") = true by rw [hK]; exact fk_61 w)
 have Z_bool := He.free_ok X G (show He.Fa.ok K (.free "bool") = true by rw [hK]; exact fk_62 w)
 have Z_int := He.free_ok X G (show He.Fa.ok K (.free "int") = true by rw [hK]; exact fk_63 w)
 have Z_str := He.free_ok X G (show He.Fa.ok K (.free "str") = true by rw [hK]; exact fk_64 w)
 have Z_ValueError := He.free_ok X G (show He.Fa.ok K (.free "ValueError") = true by rw [hK]; exact fk_65 w)
 have m_LoreError := He.glo_ok X G (show He.Fa.ok K (.glo "LoreError") = true by rw [hK]; exact fk_66 w)
 have m_TextError := He.glo_ok X G (show He.Fa.ok K (.glo "TextError") = true by rw [hK]; exact fk_67 w)
 have m_BadText := He.glo_ok X G (show He.Fa.ok K (.glo "BadText") = true by rw [hK]; exact fk_68 w)
 have g_LETTERS := He.str_ok X G (show He.Fa.ok K (.str "LETTERS" z_LETTERS) = true by rw [hK]; exact fk_69 w)
 have g_FIGURES := He.str_ok X G (show He.Fa.ok K (.str "FIGURES" z_FIGURES) = true by rw [hK]; exact fk_70 w)
 have g_RUN := He.str_ok X G (show He.Fa.ok K (.str "RUN" z_RUN) = true by rw [hK]; exact fk_71 w)
 have g_SIGNS := He.str_ok X G (show He.Fa.ok K (.str "SIGNS" z_SIGNS) = true by rw [hK]; exact fk_72 w)
 have g_MOST_SIGNS := He.int_ok X G (show He.Fa.ok K (.int "MOST_SIGNS" z_MOST_SIGNS) = true by rw [hK]; exact fk_73 w)
 have g_MOST_FIGURES := He.int_ok X G (show He.Fa.ok K (.int "MOST_FIGURES" z_MOST_FIGURES) = true by rw [hK]; exact fk_74 w)
 have g_MOST_DEEP := He.int_ok X G (show He.Fa.ok K (.int "MOST_DEEP" z_MOST_DEEP) = true by rw [hK]; exact fk_75 w)
 have g_MOST_TERMS := He.int_ok X G (show He.Fa.ok K (.int "MOST_TERMS" z_MOST_TERMS) = true by rw [hK]; exact fk_76 w)
 have g_MOST_PARTS := He.int_ok X G (show He.Fa.ok K (.int "MOST_PARTS" z_MOST_PARTS) = true by rw [hK]; exact fk_77 w)
 have x_ec_LoreError : (SL.ecB K (He.ga K "LoreError")) = true := (show ex_0 K = true by rw [hK]; exact xe_0 w)
 have x_ei_LoreError : (SL.eciB K (He.ga K "LoreError") (He.fAd K ("LoreError", some "__init__"))) = true := (show ex_1 K = true by rw [hK]; exact xe_1 w)
 have x_ec_TextError : (SL.ecB K (He.ga K "TextError")) = true := (show ex_2 K = true by rw [hK]; exact xe_2 w)
 have x_ei_TextError : (SL.eciB K (He.ga K "TextError") (He.fAd K ("LoreError", some "__init__"))) = true := (show ex_3 K = true by rw [hK]; exact xe_3 w)
 have x_ec_BadText : (SL.ecB K (He.ga K "BadText")) = true := (show ex_4 K = true by rw [hK]; exact xe_4 w)
 have x_ei_BadText : (SL.eciB K (He.ga K "BadText") (He.fAd K ("BadText", some "__init__"))) = true := (show ex_5 K = true by rw [hK]; exact xe_5 w)
 have x_nw_BadText : (decide (PySem.W.findIn K (.ref (He.ga K "BadText")) "word" = some none)) = true := (show ex_6 K = true by rw [hK]; exact xe_6 w)
 have x_nf_BadText : (decide (PySem.W.findIn K (.ref (He.ga K "BadText")) "at" = some none)) = true := (show ex_7 K = true by rw [hK]; exact xe_7 w)
 have x_ex : (decide (PySem.W.exmOne K (.ref (He.ga K "BadText")) (.ref (He.ga K "LoreError")) = some true)) = true := (show ex_8 K = true by rw [hK]; exact xe_8 w)
 have x_x1 : (decide (PySem.W.exmOne K (.ref (He.ga K "BadText")) (.ref (He.ga K "BadText")) = some true)) = true := (show ex_9 K = true by rw [hK]; exact xe_9 w)
 have x_k1 : (decide (PySem.W.kitOne K (.ref (He.ga K "BadText")) (.ref (He.ga K "BadText")) = some true)) = true := (show ex_10 K = true by rw [hK]; exact xe_10 w)
 have x_t_KEPT : (decide (PySem.W.nsIn K mainGlobals "KEPT" = some (some (.ref (He.ga K "KEPT")))) && He.tupB K "KEPT" (keptW.map He.Dv.str)) = true := (show ex_11 K = true by rw [hK]; exact xe_11 w)
 have x_t_TESTS : (decide (PySem.W.nsIn K mainGlobals "TESTS" = some (some (.ref (He.ga K "TESTS")))) && He.tupB K "TESTS" (testsW.map He.Dv.str)) = true := (show ex_12 K = true by rw [hK]; exact xe_12 w)
 have x_t_FOLDS : (decide (PySem.W.nsIn K mainGlobals "FOLDS" = some (some (.ref (He.ga K "FOLDS")))) && He.tupB K "FOLDS" (foldsW.map He.Dv.str)) = true := (show ex_13 K = true by rw [hK]; exact xe_13 w)
 have x_nb : (decide (PySem.W.nsIn K cStatics sharingNotToldKey = some none)) = true := (show ex_14 K = true by rw [hK]; exact xe_14 w)
 have eL := hfa.symm.trans (He.glo_ok X G (show He.Fa.ok K (.glo "law") = true by rw [hK]; exact fk_51 w))
 cases eL
 have bL := FunD.bindsA (ps := ["_law_script"]) F_law fun _ _ _ _ _ _ us hl => match us, hl with | [_], _ => rfl
 refine ⟨fd_law, fun s v => bL s [v] rfl, fun base _ _ => ?_⟩
 have B : Bi mg := ⟨Z_len, Z_list, Z_range⟩
 have BS : BiS mg := ⟨Z_isinstance, Z_list, Z_tuple, Z_repr, Z_zip, Z_all, Z_len⟩
 have BX : BiX mg := ⟨Z_ValueError⟩
 have BV : BiV mg := ⟨Z_all, Z_len, Z_isinstance, Z_bool, Z_int, Z_str, Z_ValueError, Z_list, Z_range⟩
 have BR : BiR mg := ⟨Z_len, Z_all, Z_int, Z_min⟩
 have BR2 : BiR2 mg := ⟨Z_len, Z_tuple, Z_any⟩
 have BL : BiL mg := ⟨Z_len, Z_int, Z_tuple⟩
 have BP : BiP mg := ⟨Z_len, Z_tuple⟩
 have BK : BiK mg := ⟨Z_range, Z_len, Z_tuple⟩
 have BQ : BiQ mg := ⟨Z_isinstance, Z_range⟩
 have y_KEPT := He.ba x_t_KEPT
 have y_TESTS := He.ba x_t_TESTS
 have y_FOLDS := He.ba x_t_FOLDS
 have GV : GlV K mg (He.ga K "KEPT") := ⟨g_LETTERS, g_FIGURES, g_MOST_SIGNS, g_MOST_FIGURES, PySem.W.mg_of X G (of_decide_eq_true y_KEPT.1), fun H => by have z := He.tupB_ok y_KEPT.2 H; rw [List.map_map] at z; exact z⟩
 have GR : GlR K mg (He.ga K "TESTS") (He.ga K "FOLDS") := ⟨PySem.W.mg_of X G (of_decide_eq_true y_TESTS.1), fun H => by have z := He.tupB_ok y_TESTS.2 H; rw [List.map_map] at z; exact z, PySem.W.mg_of X G (of_decide_eq_true y_FOLDS.1), fun H => by have z := He.tupB_ok y_FOLDS.2 H; rw [List.map_map] at z; exact z, g_MOST_TERMS, g_MOST_PARTS⟩
 have n1_BadText : PySem.W.findIn K (.ref (He.ga K "BadText")) "word" = some none := of_decide_eq_true x_nw_BadText
 have n2_BadText : PySem.W.findIn K (.ref (He.ga K "BadText")) "at" = some none := of_decide_eq_true x_nf_BadText
 have XF : ExF K (He.ga K "BadText") (He.ga K "LoreError") := ⟨n1_BadText, n2_BadText, of_decide_eq_true x_ex, of_decide_eq_true x_k1⟩
 have nb : PySem.W.nsIn K cStatics sharingNotToldKey = some none := of_decide_eq_true x_nb
 have G_LoreError : ClG P w K mg base 1 "LoreError" (He.ga K "LoreError") (spL K) := ⟨m_LoreError, ecB_ok x_ec_LoreError, _, fd_LoreError_ini, ["self", "word"], ok_LoreError_ini F_LoreError_ini BX, eciB_ok x_ei_LoreError, b_LoreError_ini⟩
 have G_TextError : ClG P w K mg base 1 "TextError" (He.ga K "TextError") (spL K) := ⟨m_TextError, ecB_ok x_ec_TextError, _, fd_LoreError_ini, ["self", "word"], ok_LoreError_ini F_LoreError_ini BX, eciB_ok x_ei_TextError, b_LoreError_ini⟩
 have G_BadText : ClG P w K mg base 2 "BadText" (He.ga K "BadText") (spI1 K "badtext" "at") := ⟨m_BadText, ecB_ok x_ec_BadText, _, fd_BadText_ini, ["self", "at"], ok_BadText_ini F_BadText_ini G_TextError, eciB_ok x_ei_BadText, b_BadText_ini⟩
 have H_TextError : ClH P w K mg base 1 "TextError" (He.ga K "TextError") (spL K) := ⟨m_TextError, ecB_ok x_ec_TextError, _, fd_LoreError_ini, ["self", "word"], ok_LoreError_iniH F_LoreError_ini BX, eciB_ok x_ei_TextError, b_LoreError_ini⟩
 have H_BadText : ClH P w K mg base 2 "BadText" (He.ga K "BadText") (spI1 K "badtext" "at") := ⟨m_BadText, ecB_ok x_ec_BadText, _, fd_BadText_ini, ["self", "at"], ok_BadText_iniH F_BadText_ini H_TextError, eciB_ok x_ei_BadText, b_BadText_ini⟩
 have C__law_bag := calG_of (P := P) (w := w) (base := base) (ok__law_bag F__law_bag B) M__law_bag F__law_bag.kp b__law_bag
 have C__law_pull := calG_of (P := P) (w := w) (base := base) (ok__law_pull F__law_pull B) M__law_pull F__law_pull.kp b__law_pull
 have C__law_one := calG_of (P := P) (w := w) (base := base) (ok__law_one F__law_one B C__law_pull) M__law_one F__law_one.kp b__law_one
 have C__law_word := calG_of (P := P) (w := w) (base := base) (ok__law_word F__law_word B C__law_pull C__law_one) M__law_word F__law_word.kp b__law_word
 have R__law_same := calG_rec0 (P := P) (w := w) (base := base) (sp := spSame K) (fun vs H Q E h => by obtain ⟨x, y, d, rfl, _, _, hm, _⟩ := h; exact sm_zero hm) M__law_same F__law_same.kp b__law_same fun n C => ok__law_same F__law_same BS C
 have C_is_word := calG_of (P := P) (w := w) (base := base) (ok_is_word F_is_word BV GV) M_is_word F_is_word.kp b_is_word
 have C_is_name := calG_of (P := P) (w := w) (base := base) (ok_is_name F_is_name GV C_is_word) M_is_name F_is_name.kp b_is_name
 have C_is_number := calG_of (P := P) (w := w) (base := base) (ok_is_number F_is_number BV GV) M_is_number F_is_number.kp b_is_number
 have C_run_end := calG_of (P := P) (w := w) (base := base) (ok_run_end F_run_end BR g_RUN) M_run_end F_run_end.kp b_run_end
 have C_is_full := calG_of (P := P) (w := w) (base := base) (ok_is_full F_is_full BR C_is_name) M_is_full F_is_full.kp b_is_full
 have C_run_thing := calX_ofN (P := P) (w := w) (base := base) (ok_run_thing F_run_thing BR GV C_is_name C_is_full C_is_number G_BadText n1_BadText n2_BadText) M_run_thing F_run_thing.kp b_run_thing
 have C_word_thing := calX_ofN (P := P) (w := w) (base := base) (ok_word_thing F_word_thing C_is_word G_BadText n1_BadText n2_BadText) M_word_thing F_word_thing.kp b_word_thing
 have C_begins_number := calG_of (P := P) (w := w) (base := base) (ok_begins_number F_begins_number GV) M_begins_number F_begins_number.kp b_begins_number
 have C_next_thing := calX_ofN (P := P) (w := w) (base := base) (ok_next_thing F_next_thing g_RUN g_SIGNS C_word_thing C_run_thing C_run_end C_begins_number G_BadText n1_BadText n2_BadText) M_next_thing F_next_thing.kp b_next_thing
 have C_things_of := calX_ofN (P := P) (w := w) (base := base) (ok_things_of F_things_of BR C_next_thing) M_things_of F_things_of.kp b_things_of
 have RCl : Cls K (He.ga K "Row") := He.cls_ok (show He.Fa.ok K (.cls "Row") = true by rw [hK]; exact fk_79 w)
 have RC : RowC K (He.ga K "Row") := ⟨RCl, He.noat_ok (show He.Fa.ok K (.noat "Row" "things") = true by rw [hK]; exact fk_81 w), He.noat_ok (show He.Fa.ok K (.noat "Row" "spot") = true by rw [hK]; exact fk_82 w), He.noat_ok (show He.Fa.ok K (.noat "Row" "mine") = true by rw [hK]; exact fk_83 w), He.noat_ok (show He.Fa.ok K (.noat "Row" "plain") = true by rw [hK]; exact fk_84 w)⟩
 obtain ⟨ds_sh0, v_sh0, b_sh0⟩ := F_Row_sort_here.binds1 (ps := ["self", "ahead"]) 1 0 (fun z => by cases z) (by rfl) fun _ _ _ _ _ _ _ us its h1 h2 => match us, h1, its, h2 with | [_], _, [_], _ => ⟨_, rfl, rfl⟩
 obtain ⟨ds_sh1, v_sh1, b_sh1⟩ := F_Row_sort_here.binds1 (ps := ["self", "ahead"]) 2 1 (fun z => by cases z) (by rfl) fun _ _ _ _ _ _ _ us its h1 h2 => match us, h1, its, h2 with | [_, _], _, [_], _ => ⟨_, rfl, rfl⟩
 obtain ⟨ds_th0, v_th0, b_th0⟩ := F_Row_thing.binds1 (ps := ["self", "ahead"]) 1 0 (fun z => by cases z) (by rfl) fun _ _ _ _ _ _ _ us its h1 h2 => match us, h1, its, h2 with | [_], _, [_], _ => ⟨_, rfl, rfl⟩
 obtain ⟨ds_th1, v_th1, b_th1⟩ := F_Row_thing.binds1 (ps := ["self", "ahead"]) 2 1 (fun z => by cases z) (by rfl) fun _ _ _ _ _ _ _ us its h1 h2 => match us, h1, its, h2 with | [_, _], _, [_], _ => ⟨_, rfl, rfl⟩
 obtain ⟨ds_is1, v_is1, b_is1⟩ := F_Row_is_sign.binds1 (ps := ["self", "sign", "ahead"]) 2 0 (fun z => by cases z) (by rfl) fun _ _ _ _ _ _ _ us its h1 h2 => match us, h1, its, h2 with | [_, _], _, [_], _ => ⟨_, rfl, rfl⟩
 obtain ⟨ds_is2, v_is2, b_is2⟩ := F_Row_is_sign.binds1 (ps := ["self", "sign", "ahead"]) 3 1 (fun z => by cases z) (by rfl) fun _ _ _ _ _ _ _ us its h1 h2 => match us, h1, its, h2 with | [_, _, _], _, [_], _ => ⟨_, rfl, rfl⟩
 obtain ⟨ds_ik1, v_ik1, b_ik1⟩ := F_Row_is_kept.binds1 (ps := ["self", "word", "ahead"]) 2 0 (fun z => by cases z) (by rfl) fun _ _ _ _ _ _ _ us its h1 h2 => match us, h1, its, h2 with | [_, _], _, [_], _ => ⟨_, rfl, rfl⟩
 obtain ⟨ds_ik2, v_ik2, b_ik2⟩ := F_Row_is_kept.binds1 (ps := ["self", "word", "ahead"]) 3 1 (fun z => by cases z) (by rfl) fun _ _ _ _ _ _ _ us its h1 h2 => match us, h1, its, h2 with | [_, _, _], _, [_], _ => ⟨_, rfl, rfl⟩
 have N_sh0 : MetG P w K mg base CX0 2 (He.ga K "Row") "sort_here" [.int 0] (spSort K (He.ga K "Row")) := ⟨RCl, _, _, _, _, He.meth_ok (show He.Fa.ok K (.meth "Row" "sort_here") = true by rw [hK]; exact fk_85 w), ok_sort_here F_Row_sort_here BR RC, b_sh0, v_sh0⟩
 have N_sh1 : MetG P w K mg base CX0 2 (He.ga K "Row") "sort_here" [] (spSort K (He.ga K "Row")) := ⟨RCl, _, _, _, _, He.meth_ok (show He.Fa.ok K (.meth "Row" "sort_here") = true by rw [hK]; exact fk_85 w), ok_sort_here F_Row_sort_here BR RC, b_sh1, v_sh1⟩
 have N_th0 : MetG P w K mg base CX0 2 (He.ga K "Row") "thing" [.int 0] (spThing K (He.ga K "Row")) := ⟨RCl, _, _, _, _, He.meth_ok (show He.Fa.ok K (.meth "Row" "thing") = true by rw [hK]; exact fk_86 w), ok_thing F_Row_thing BR RC, b_th0, v_th0⟩
 have N_th1 : MetG P w K mg base CX0 2 (He.ga K "Row") "thing" [] (spThing K (He.ga K "Row")) := ⟨RCl, _, _, _, _, He.meth_ok (show He.Fa.ok K (.meth "Row" "thing") = true by rw [hK]; exact fk_86 w), ok_thing F_Row_thing BR RC, b_th1, v_th1⟩
 have N_is1 : MetG P w K mg base CX0 4 (He.ga K "Row") "is_sign" [.int 0] (spIs K (He.ga K "Row") "sign") := ⟨RCl, _, _, _, _, He.meth_ok (show He.Fa.ok K (.meth "Row" "is_sign") = true by rw [hK]; exact fk_87 w), ok_is_sign F_Row_is_sign N_sh1 N_th1, b_is1, v_is1⟩
 have N_is2 : MetG P w K mg base CX0 4 (He.ga K "Row") "is_sign" [] (spIs K (He.ga K "Row") "sign") := ⟨RCl, _, _, _, _, He.meth_ok (show He.Fa.ok K (.meth "Row" "is_sign") = true by rw [hK]; exact fk_87 w), ok_is_sign F_Row_is_sign N_sh1 N_th1, b_is2, v_is2⟩
 have N_ik1 : MetG P w K mg base CX0 4 (He.ga K "Row") "is_kept" [.int 0] (spIs K (He.ga K "Row") "kept") := ⟨RCl, _, _, _, _, He.meth_ok (show He.Fa.ok K (.meth "Row" "is_kept") = true by rw [hK]; exact fk_88 w), ok_is_kept F_Row_is_kept N_sh1 N_th1, b_ik1, v_ik1⟩
 have N_ik2 : MetG P w K mg base CX0 4 (He.ga K "Row") "is_kept" [] (spIs K (He.ga K "Row") "kept") := ⟨RCl, _, _, _, _, He.meth_ok (show He.Fa.ok K (.meth "Row" "is_kept") = true by rw [hK]; exact fk_88 w), ok_is_kept F_Row_is_kept N_sh1 N_th1, b_ik2, v_ik2⟩
 have N_wr : MetG P w K mg base (L2N.CX P w) 4 (He.ga K "Row") "wrong" [] (spWrong K (He.ga K "Row") (He.ga K "BadText")) := ⟨RCl, _, _, _, _, He.meth_ok (show He.Fa.ok K (.meth "Row" "wrong") = true by rw [hK]; exact fk_89 w), ok_wrong F_Row_wrong RC G_BadText n1_BadText n2_BadText, b_Row_wrong, .nil⟩
 have N_st : MetG P w K mg base CX0 4 (He.ga K "Row") "step" [] (spStep K (He.ga K "Row")) := ⟨RCl, _, _, _, _, He.meth_ok (show He.Fa.ok K (.meth "Row" "step") = true by rw [hK]; exact fk_90 w), ok_step F_Row_step RC, b_Row_step, .nil⟩
 have N_ns : MetG P w K mg base (L2N.CX P w) 6 (He.ga K "Row") "need_sign" [] (spNeedS K (He.ga K "Row") (He.ga K "BadText")) := ⟨RCl, _, _, _, _, He.meth_ok (show He.Fa.ok K (.meth "Row" "need_sign") = true by rw [hK]; exact fk_91 w), ok_need_sign F_Row_need_sign RC N_is1 N_wr, b_Row_need_sign, .nil⟩
 have N_nn : MetG P w K mg base (L2N.CX P w) 6 (He.ga K "Row") "need_name" [] (spNeedN K (He.ga K "Row") (He.ga K "BadText")) := ⟨RCl, _, _, _, _, He.meth_ok (show He.Fa.ok K (.meth "Row" "need_name") = true by rw [hK]; exact fk_92 w), ok_need_name F_Row_need_name RC N_sh0 N_wr N_st, b_Row_need_name, .nil⟩
 have N_ne : MetG P w K mg base (L2N.CX P w) 6 (He.ga K "Row") "need_end" [] (spNeedE K (He.ga K "Row") (He.ga K "BadText")) := ⟨RCl, _, _, _, _, He.meth_ok (show He.Fa.ok K (.meth "Row" "need_end") = true by rw [hK]; exact fk_93 w), ok_need_end F_Row_need_end RC N_sh0 N_wr, b_Row_need_end, .nil⟩
 have RM : RowM P w K mg base (He.ga K "Row") (He.ga K "BadText") := ⟨N_sh0, N_th0, N_is1, N_is2, N_ik1, N_ik2, N_wr, N_st, N_ns, N_nn, N_ne⟩
 have okI := ok_Row_ini (P := P) (w := w) (mg := mg) (base := base) F_Row_ini RC C_things_of
 have mk0 := He.mkr_ok (show He.Fa.ok K (.mkr "Row") = true by rw [hK]; exact fk_80 w)
 have mR := He.glo_ok X G (show He.Fa.ok K (.glo "Row") = true by rw [hK]; exact fk_78 w)
 obtain ⟨mv_Row, kb_Row⟩ := FunD.kbinds0 (ps := ["self", "text", "mine", "plain"]) F_Row_ini 2 [] [("mine", .bl false), ("plain", .bl true)] (fun vs mz zs => vs ++ mz) (fun z => by cases z) (fun q hq => hq) (fun a b c => a.append b) (fun _ _ _ _ _ _ us mv ws h1 h2 h3 => match us, h1, mv, h2, ws, h3 with | [_, _], _, [_, _], _, [], _ => ⟨_, _, _, _, _, _, rfl, rfl, ⟨_, _, _, _, _, _, rfl, rfl, rfl⟩⟩)
 have N_Row : MkXN P w K mg base 30 "Row" (He.ga K "Row") 1 [] (fun vs zs => vs ++ [.bl false, .bl true]) (spRowI K (He.ga K "Row") (He.ga K "BadText")) := ⟨mR, _, _, _, _, mk0, okI, kb_Row⟩
 have R_read_sum : ∀ n, CalXN P w K mg base (3 * n + 9) "read_sum" (spPrev K (He.ga K "Row") (He.ga K "BadText") n) := fun n => by
  induction n with
  | zero => exact calX_ofN ⟨fun _ _ _ _ h => h.elim, fun _ _ _ _ _ _ _ _ _ _ _ _ _ h => h.elim⟩ M_read_sum F_read_sum.kp b_read_sum
  | succ n ih =>
   have C1 := calX_ofN (ok_read_leaf F_read_leaf RC RM g_MOST_DEEP ih) M_read_leaf F_read_leaf.kp b_read_leaf
   have C2 := calX_ofN (ok_read_product F_read_product RC RM C1) M_read_product F_read_product.kp b_read_product
   exact calX_ofN (ok_read_sum F_read_sum RC RM C2) M_read_sum F_read_sum.kp b_read_sum
 have C_read_sum : CalXN P w K mg base 48 "read_sum" (spRdN K (He.ga K "Row") (He.ga K "BadText") SumN 12) := R_read_sum 13
 have C_read_test := calX_ofN (P := P) (w := w) (base := base) (ok_read_test F_read_test GR RM C_read_sum) M_read_test F_read_test.kp b_read_test
 have C_read_term := calX_ofN (P := P) (w := w) (base := base) (ok_read_term F_read_term RM) M_read_term F_read_term.kp b_read_term
 have C_read_atom := calX_ofN (P := P) (w := w) (base := base) (ok_read_atom F_read_atom BR2 RC GR RM C_read_term) M_read_atom F_read_atom.kp b_read_atom
 have C_read_part := calX_ofN (P := P) (w := w) (base := base) (ok_read_part F_read_part RM C_read_sum C_read_test C_read_atom) M_read_part F_read_part.kp b_read_part
 have C_read_parts := calX_ofN (P := P) (w := w) (base := base) (ok_read_parts F_read_parts BR2 RM C_read_part) M_read_parts F_read_parts.kp b_read_parts
 have C_read_arg := calX_ofN (P := P) (w := w) (base := base) (ok_read_arg F_read_arg GR RM) M_read_arg F_read_arg.kp b_read_arg
 have C_read_args := calX_ofN (P := P) (w := w) (base := base) (ok_read_args F_read_args BR2 GR RM C_read_arg) M_read_args F_read_args.kp b_read_args
 have C_read_rule := calX_ofN (P := P) (w := w) (base := base) (ok_read_rule F_read_rule GR RM N_Row C_read_args C_read_parts) M_read_rule F_read_rule.kp b_read_rule
 have C_read_paper := calX_of (P := P) (w := w) (base := base) (ok_read_paper F_read_paper BP C_read_rule G_BadText H_BadText n1_BadText n2_BadText (of_decide_eq_true x_x1)) M_read_paper F_read_paper.kp b_read_paper
 have C__law_barred := calG_of (P := P) (w := w) (base := base) (ok__law_barred F__law_barred) M__law_barred F__law_barred.kp b__law_barred
 have C__law_run := calG_of (P := P) (w := w) (base := base) (ok__law_run F__law_run BR) M__law_run F__law_run.kp b__law_run
 have C__law_is_word := calG_of (P := P) (w := w) (base := base) (ok__law_is_word F__law_is_word BR) M__law_is_word F__law_is_word.kp b__law_is_word
 have C__law_is_name := calG_of (P := P) (w := w) (base := base) (ok__law_is_name F__law_is_name C__law_is_word C__law_barred) M__law_is_name F__law_is_name.kp b__law_is_name
 have C__law_figures := calG_of (P := P) (w := w) (base := base) (ok__law_figures F__law_figures BR) M__law_figures F__law_figures.kp b__law_figures
 have C__law_run_thing := calG_of (P := P) (w := w) (base := base) (ok__law_run_thing F__law_run_thing BR C__law_barred C__law_is_name C__law_figures) M__law_run_thing F__law_run_thing.kp b__law_run_thing
 have C__law_thing := calG_of (P := P) (w := w) (base := base) (ok__law_thing F__law_thing BR C__law_run C__law_is_word C__law_run_thing) M__law_thing F__law_thing.kp b__law_thing
 have C__law_things := calG_of (P := P) (w := w) (base := base) (ok__law_things F__law_things BR C__law_thing) M__law_things F__law_things.kp b__law_things
 have eSum : (fun ts m n => ChainR ts ["+", "-"] (ChainR ts ["*"] (LeafN ts m n))) = SumN := funext fun ts => funext fun m => funext fun n => (sumN_eq ts m n).symm
 have R__law_sum_read : ∀ n, CalG P w K mg base (4 * n + 9) "_law_sum_read" (spLPrev K n) := fun n => by
  induction n with
  | zero => exact calG_of ⟨fun _ _ _ _ h => h.elim, fun _ _ _ _ _ _ _ _ _ _ _ _ _ h => h.elim⟩ M__law_sum_read F__law_sum_read.kp b__law_sum_read
  | succ n ih =>
   have C0 := calG_of (ok__law_leaf_read F__law_leaf_read ih) M__law_leaf_read F__law_leaf_read.kp b__law_leaf_read
   have C3 := calG_of (ok__law_sum_leaf (kL := 4 * n + 9) F__law_sum_read (by omega) ih C0) M__law_sum_read F__law_sum_read.kp b__law_sum_read
   have C2 := calG_of (ok__law_sum_chain (lv := 2) (sg := ["*"]) (LF := LeafN) (kk := 4 * n + 11) (kL := 4 * n + 10) (.inr ⟨rfl, rfl⟩) (fun ts m => leafN_fwd ts m n) F__law_sum_read (by omega) C0 C3) M__law_sum_read F__law_sum_read.kp b__law_sum_read
   have C1 := calG_of (ok__law_sum_chain (lv := 1) (sg := ["+", "-"]) (LF := fun ts m n => ChainR ts ["*"] (LeafN ts m n)) (kk := 4 * n + 12) (kL := 4 * n + 10) (.inl ⟨rfl, rfl⟩) (fun ts m => ChainR.fwd (leafN_fwd ts m n)) F__law_sum_read (by omega) C0 C2) M__law_sum_read F__law_sum_read.kp b__law_sum_read
   rw [eSum] at C1
   exact C1
 have C__law_sum_read : CalG P w K mg base 61 "_law_sum_read" (spLSum K 1 SumN 12) := R__law_sum_read 13
 have C__law_test_read := calG_of (P := P) (w := w) (base := base) (ok__law_test_read F__law_test_read C__law_sum_read) M__law_test_read F__law_test_read.kp b__law_test_read
 have C__law_term_read := calG_of (P := P) (w := w) (base := base) (ok__law_term_read F__law_term_read) M__law_term_read F__law_term_read.kp b__law_term_read
 have C__law_atom_read := calG_of (P := P) (w := w) (base := base) (ok__law_atom_read F__law_atom_read BL C__law_term_read) M__law_atom_read F__law_atom_read.kp b__law_atom_read
 have C__law_part_read := calG_of (P := P) (w := w) (base := base) (ok__law_part_read F__law_part_read C__law_atom_read C__law_sum_read C__law_test_read) M__law_part_read F__law_part_read.kp b__law_part_read
 have C__law_parts_read := calG_of (P := P) (w := w) (base := base) (ok__law_parts_read F__law_parts_read BL C__law_part_read) M__law_parts_read F__law_parts_read.kp b__law_parts_read
 have C__law_arg_read := calG_of (P := P) (w := w) (base := base) (ok__law_arg_read F__law_arg_read) M__law_arg_read F__law_arg_read.kp b__law_arg_read
 have C__law_args_read := calG_of (P := P) (w := w) (base := base) (ok__law_args_read F__law_args_read BL C__law_arg_read) M__law_args_read F__law_args_read.kp b__law_args_read
 have C__law_rule_read := calG_of (P := P) (w := w) (base := base) (ok__law_rule_read F__law_rule_read C__law_args_read C__law_parts_read) M__law_rule_read F__law_rule_read.kp b__law_rule_read
 have C__law_question_read := calG_of (P := P) (w := w) (base := base) (ok__law_question_read F__law_question_read C__law_args_read C__law_parts_read) M__law_question_read F__law_question_read.kp b__law_question_read
 have C__law_tests_read := calG_of (P := P) (w := w) (base := base) (ok__law_tests_read F__law_tests_read BL C__law_test_read) M__law_tests_read F__law_tests_read.kp b__law_tests_read
 have C__law_read_due := calG_of (P := P) (w := w) (base := base) (ok__law_read_due F__law_read_due C__law_things C__law_rule_read C__law_question_read C__law_tests_read) M__law_read_due F__law_read_due.kp b__law_read_due
 have C__law_plain_text := calG_of (P := P) (w := w) (base := base) (ok__law_plain_text F__law_plain_text B C__law_pull C__law_one C__law_word) M__law_plain_text F__law_plain_text.kp b__law_plain_text
 have C__law_bent := calG_of (P := P) (w := w) (base := base) (ok__law_bent F__law_bent B nb C__law_pull C__law_one) M__law_bent F__law_bent.kp b__law_bent
 have C__law_told := calG_of (P := P) (w := w) (base := base) (ok__law_told F__law_told BQ C_read_paper G_BadText G_LoreError XF) M__law_told F__law_told.kp b__law_told
 exact ok_law F_law BK C__law_bag C__law_pull C__law_one C__law_plain_text C__law_bent C__law_told C__law_read_due (R__law_same 130)
end LW
open PySem PySem.W PySem.Calls PyProof.Rows
set_option maxHeartbeats 0 in
theorem PySem.Challenge.cw_sightlore_k06_papers_read_holds : PySem.Challenge.rw_sightlore_k06_papers_read.Holds := by
 refine LW.early_holds ?hc
 case hc =>
  refine SL.walkG (l := PySem.Challenge.rw_sightlore_k06_papers_read) (n := 63) (k := 140) (x := "_law_script") rfl (by decide) (by kernel_rfl) ⟨rfl, by decide, by decide⟩ ?F
  intro w mg fa h Y G hmg0
  have hmg : mg ("law" : PySem.Str) = some (.ref fa) := by
   have e : (HandSHeadRun.topDef (OpenLaw.row PySem.Challenge.rw_sightlore_k06_papers_read).prog 72).name = ("law" : PySem.Str) := by kernel_rfl
   rw [← e]
   exact hmg0
  obtain ⟨fd, hb, hF⟩ := LW.facts (P := (PySem.Challenge.rw_sightlore_k06_papers_read).prog) (w := w) (K := LW.K0 w) Y G hmg rfl
  exact ⟨LW.K0 w, fd, LW.spLaw (LW.K0 w), Y, hb, fun H a ns hl hS => ⟨a, ns, rfl, hS, hl, fun _ => rfl⟩, hF⟩
