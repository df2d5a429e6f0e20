import PyProof.Rows.All
import Wide.All
import OpenK.AllK
import Wide.FinOn
import HandS.ForMost
import HandS.Zip
import HandS.Flow
import HandS.Conv
import HandS.IsInst
import HandS.Codes
import HandS.Wide
import HandS.StrMore
import HandS.Defaults
import HandS.Exc
import HandS.HeadEnd
import HandS.HeadHook2
import HandS.Head2
import HandS.RaiseMore
import HandS.Walk
import HandS.FStr
import HandS.HeadHook3
import HandS.HeadHook4
import HandS.TupAny
import HandS.SetFor
import HandS.DictComp
import HandS.ExcInit
import HandS.ExcIs
import KE.KExcIs
import HandS.ExcField
import HandS.ExcOwn
import HandS.WordsExc
import HandS.MakeKwOnly
import HandS.ReplaceLit
import PyProof.StrReplace2
import PyProof.StrOps2
import PyProof.MeetsStr3
import PySem.Challenge.RW_sightlore_k04_whole_rules_there_and_back
set_option Elab.async false
set_option linter.all false
set_option maxRecDepth 100000
set_option maxHeartbeats 2000000
namespace SL
open PySem PySem.Spec PyProof.Rows L2
def Fix : HO → Prop
 | .tup _ => True
 | .frz _ (.tup _) => True
 | _ => False
def Fr (M : List Addr) (H H' : Hp) : Prop := ∀ a o, H a = some o → (a ∉ M ∨ Fix o) → H' a = some o
theorem Fr.refl {M : List Addr} {H : Hp} : Fr M H H := fun _ _ h _ => h
theorem Fr.trans {M : List Addr} {H H1 H2 : Hp} (a : Fr M H H1) (b : Fr M H1 H2) : Fr M H H2 := fun x o h z => b x o (a x o h z) z
theorem Fr.mono {M N : List Addr} {H H' : Hp} (h : Fr M H H') (s : ∀ a ∈ M, a ∈ N) : Fr N H H' := fun a o e z => h a o e (z.imp (fun n m => n (s a m)) id)
theorem Fr.nil {N : List Addr} {H H' : Hp} (h : Fr [] H H') : Fr N H H' := h.mono fun _ z => nomatch z
theorem Fr.new {M : List Addr} {H : Hp} {p : Addr} {o : HO} (h : H p = none) : Fr M H (upd H p o) := fun a u e _ => by
 rw [upd_ne (ne_of_none e h)]
 exact e
theorem Fr.mut {M : List Addr} {H : Hp} {p : Addr} {o u : HO} (hm : p ∈ M) (h : H p = some u) (hu : ¬ Fix u) : Fr M H (upd H p o) := fun a v e z => by
 by_cases c : a = p
 ·subst c
  rw [h] at e
  cases e
  rcases z with z | z
  ·exact absurd hm z
  ·exact absurd z hu
 ·rw [upd_ne c]
  exact e
theorem Fr.over {M : List Addr} {H H' : Hp} {p : Addr} {o : HO} (e : Fr M H H') (h : H p = none) : Fr M H (upd H' p o) := fun a u ha z => by
 rw [upd_ne (ne_of_none ha h)]
 exact e a u ha z
theorem Fr.same {H H' : Hp} (h : Fr [] H H') : Same H H' := fun b o e => h b o e (.inl (fun z => nomatch z))
theorem Fr.of_same {M : List Addr} {H H' : Hp} (h : Same H H') : Fr M H H' := fun a o e _ => h a o e
theorem Fr.at {M : List Addr} {H H' : Hp} {a : Addr} {o : HO} (h : Fr M H H') (e : H a = some o) (n : a ∉ M) : H' a = some o := h a o e (.inl n)
theorem Fr.back {M : List Addr} {H H' : Hp} {p : Addr} (e : Fr M H H') (hM : p ∉ M) (h : H' p = none) : H p = none := by
 cases q : H p with
 | none => rfl
 | some o =>
  rw [e p o q (.inl hM)] at h
  cases h
theorem Fr.tup {K : PySem.W.Frag} {M : List Addr} {H H' : Hp} {a : Addr} {xs : List V} (e : Fr M H H') (h : SqT K H a xs) : SqT K H' a xs := by
 rcases h with (h | ⟨o, h⟩) | h
 ·exact .inl (.inl (e a _ h (.inr trivial)))
 ·exact .inl (.inr ⟨o, e a _ h (.inr trivial)⟩)
 ·exact .inr h
theorem Fr.seq {K : PySem.W.Frag} {M : List Addr} {H H' : Hp} {a : Addr} {xs : List V} (e : Fr M H H') (n : a ∉ M) (h : SqL K H a xs) : SqL K H' a xs := by
 rcases h with (h | ⟨o, h⟩) | h
 ·exact .inl (.inl (e a _ h (.inl n)))
 ·exact .inl (.inr ⟨o, e a _ h (.inl n)⟩)
 ·exact .inr h
theorem nofix_lst {xs : List V} : ¬ Fix (.lst xs) := fun z => z
theorem nofix_dK {xs : List (Key × V)} : ¬ Fix (.dK xs) := fun z => z
mutual
inductive Td (K : PySem.W.Frag) (H : Hp) : V → PyData → Prop
 | non : Td K H .non .none
 | bl (b : Bool) : Td K H (.bl b) (.bool b)
 | int (i : Int) : Td K H (.int i) (.int i)
 | str (x : Str) : Td K H (.str x) (.str x)
 | tup {a : Addr} {xs : List V} {ds : List PyData} : SqT K H a xs → TdAll K H xs ds → Td K H (.ref a) (.tuple ds)
inductive TdAll (K : PySem.W.Frag) (H : Hp) : List V → List PyData → Prop
 | nil : TdAll K H [] []
 | cons {v : V} {vs : List V} {d : PyData} {ds : List PyData} : Td K H v d → TdAll K H vs ds → TdAll K H (v :: vs) (d :: ds)
end
section
variable {K : PySem.W.Frag} {H H' : Hp} {M : List Addr}
mutual
theorem Td.fr (e : Fr M H H') : ∀ {v : V} {d : PyData}, Td K H v d → Td K H' v d
 | _, _, .non => .non
 | _, _, .bl b => .bl b
 | _, _, .int i => .int i
 | _, _, .str x => .str x
 | _, _, .tup h hs => .tup (e.tup h) (TdAll.fr e hs)
theorem TdAll.fr (e : Fr M H H') : ∀ {vs : List V} {ds : List PyData}, TdAll K H vs ds → TdAll K H' vs ds
 | _, _, .nil => .nil
 | _, _, .cons h hs => .cons (Td.fr e h) (TdAll.fr e hs)
end
mutual
theorem Td.dp : ∀ {v : V} {d : PyData}, Td K H v d → Dp K H v d
 | _, _, .non => .non
 | _, _, .bl b => .bl b
 | _, _, .int i => .int i
 | _, _, .str x => .str x
 | _, _, .tup h hs => .tup h (TdAll.dp hs)
theorem TdAll.dp : ∀ {vs : List V} {ds : List PyData}, TdAll K H vs ds → DpAll K H vs ds
 | _, _, .nil => .nil
 | _, _, .cons h hs => .cons (Td.dp h) (TdAll.dp hs)
end
theorem Td.tuple_inv {v : V} {ds : List PyData} (h : Td K H v (.tuple ds)) : ∃ a xs, v = .ref a ∧ SqT K H a xs ∧ TdAll K H xs ds := by
 cases h with
 | tup h1 h2 => exact ⟨_, _, rfl, h1, h2⟩
theorem Td.int_inv {v : V} {i : Int} (h : Td K H v (.int i)) : v = .int i := by cases h; rfl
theorem Td.str_inv {v : V} {i : Str} (h : Td K H v (.str i)) : v = .str i := by cases h; rfl
theorem Td.bl_inv {v : V} {i : Bool} (h : Td K H v (.bool i)) : v = .bl i := by cases h; rfl
theorem Td.non_inv {v : V} (h : Td K H v .none) : v = .non := by cases h; rfl
theorem TdAll.nil_inv {vs : List V} (h : TdAll K H vs []) : vs = [] := by cases h; rfl
theorem TdAll.cons_inv {vs : List V} {d : PyData} {ds : List PyData} (h : TdAll K H vs (d :: ds)) : ∃ v ws, vs = v :: ws ∧ Td K H v d ∧ TdAll K H ws ds := by
 cases h with
 | cons h1 h2 => exact ⟨_, _, rfl, h1, h2⟩
theorem Td.t1 {v : V} {a : PyData} (h : Td K H v (.tuple [a])) : ∃ p x, v = .ref p ∧ SqT K H p [x] ∧ Td K H x a := by
 obtain ⟨p, xs, rfl, hp, h⟩ := h.tuple_inv
 obtain ⟨x, xs, rfl, hx, h⟩ := h.cons_inv
 cases h.nil_inv
 exact ⟨p, x, rfl, hp, hx⟩
theorem Td.t2 {v : V} {a b : PyData} (h : Td K H v (.tuple [a, b])) : ∃ p x y, v = .ref p ∧ SqT K H p [x, y] ∧ Td K H x a ∧ Td K H y b := by
 obtain ⟨p, xs, rfl, hp, h⟩ := h.tuple_inv
 obtain ⟨x, xs, rfl, hx, h⟩ := h.cons_inv
 obtain ⟨y, xs, rfl, hy, h⟩ := h.cons_inv
 cases h.nil_inv
 exact ⟨p, x, y, rfl, hp, hx, hy⟩
theorem Td.t3 {v : V} {a b c : PyData} (h : Td K H v (.tuple [a, b, c])) : ∃ p x y z, v = .ref p ∧ SqT K H p [x, y, z] ∧ Td K H x a ∧ Td K H y b ∧ Td K H z c := by
 obtain ⟨p, xs, rfl, hp, h⟩ := h.tuple_inv
 obtain ⟨x, xs, rfl, hx, h⟩ := h.cons_inv
 obtain ⟨y, xs, rfl, hy, h⟩ := h.cons_inv
 obtain ⟨z, xs, rfl, hz, h⟩ := h.cons_inv
 cases h.nil_inv
 exact ⟨p, x, y, z, rfl, hp, hx, hy, hz⟩
theorem Td.t4 {v : V} {a b c d : PyData} (h : Td K H v (.tuple [a, b, c, d])) : ∃ p x y z u, v = .ref p ∧ SqT K H p [x, y, z, u] ∧ Td K H x a ∧ Td K H y b ∧ Td K H z c ∧ Td K H u d := by
 obtain ⟨p, xs, rfl, hp, h⟩ := h.tuple_inv
 obtain ⟨x, xs, rfl, hx, h⟩ := h.cons_inv
 obtain ⟨y, xs, rfl, hy, h⟩ := h.cons_inv
 obtain ⟨z, xs, rfl, hz, h⟩ := h.cons_inv
 obtain ⟨u, xs, rfl, hu, h⟩ := h.cons_inv
 cases h.nil_inv
 exact ⟨p, x, y, z, u, rfl, hp, hx, hy, hz, hu⟩
end
def uAdd (K : PySem.W.Frag) : R2 := fun x y H Q => match x, y with
 | .int i, .int j => Q (.int (i + j)) H
 | .str a, .str b => a.length + b.length ≤ sizeLine ∧ Q (.str (a ++ b)) H
 | .ref a, .ref b => rCat (.ref a) (.ref b) H Q ∨ rCatT K (.ref a) (.ref b) H Q
 | _, _ => False
def uSub : R2 := fun x y H Q => match x, y with
 | .int i, .int j => Q (.int (i - j)) H
 | _, _ => False
def uMul : R2 := fun x y H Q => match x, y with
 | .int i, .int j => IntMulOk i j ∧ Q (.int (i * j)) H
 | .ref a, .int k => rRep (.ref a) (.int k) H Q
 | .str a, .int k => 2 ≤ k ∧ k ≤ 1000 ∧ 0 < a.length ∧ a.length ≤ 1000 ∧ Q (.str ⟨(List.replicate k.toNat a.cps).foldl (· ++ ·) #[]⟩) H
 | _, _ => False
def uDiv : R2 := fun x y H Q => match x, y with
 | .int i, .int j => CDivW i j ∧ Q (.int (i / j)) H
 | _, _ => False
def uMod : R2 := fun x y H Q => match x, y with
 | .int i, .int j => 0 < j ∧ Q (.int (i % j)) H
 | _, _ => False
def uPow : R2 := fun x y H Q => match x, y with
 | .int i, .int j => CPow i j ∧ Q (.int (i ^ j.toNat)) H
 | _, _ => False
def rEqE (K : PySem.W.Frag) (x y : V) (H : Hp) (Q : Bool → Prop) : Prop :=
 (∃ a b xs, x = .ref a ∧ y = .ref b ∧ SqT K H a xs ∧ SqT K H b [] ∧ Q (decide (xs = []))) ∨ (∃ a b xs, x = .ref a ∧ y = .ref b ∧ SqL K H a xs ∧ SqL K H b [] ∧ Q (decide (xs = []))) ∨
 ∃ a b kvs, x = .ref a ∧ y = .ref b ∧ H a = some (.dK kvs) ∧ H b = some (.dK []) ∧ Q (decide (kvs = []))
def uEq (K : PySem.W.Frag) : R2 := fun x y H Q => (scal x y = true ∧ Q (.bl (decide (x = y))) H) ∨ rEqD K x y H Q ∨ rEqE K x y H fun b => Q (.bl b) H
def uNe (K : PySem.W.Frag) : R2 := fun x y H Q => (scal x y = true ∧ Q (.bl (!decide (x = y))) H) ∨ rNeD K x y H Q ∨ rEqE K x y H fun b => Q (.bl (!b)) H
def uLt (K : PySem.W.Frag) : R2 := fun x y H Q => match x, y with
 | .int i, .int j => Q (.bl (decide (i < j))) H
 | .str a, .str b => Q (.bl (decide (a.cps.toList < b.cps.toList))) H
 | _, _ => False
def uGt : R2 := fun x y H Q => match x, y with
 | .int i, .int j => Q (.bl (decide (j < i))) H
 | _, _ => False
def uLe : R2 := fun x y H Q => match x, y with
 | .int i, .int j => Q (.bl (decide (i ≤ j))) H
 | .str a, .str b => Q (.bl (!decide (b.cps.toList < a.cps.toList))) H
 | _, _ => False
def uGe : R2 := fun x y H Q => match x, y with
 | .int i, .int j => Q (.bl (decide (j ≤ i))) H
 | _, _ => False
def uIn (K : PySem.W.Frag) : R2 := fun x y H Q => match x, y with
 | .str a, .str b => Q (.bl (!(Builtin.Str.occurrences b a 0 b.length 1).isEmpty)) H
 | x, y => rIn K false x y H Q
def uNotIn (K : PySem.W.Frag) : R2 := fun x y H Q => match x, y with
 | .str a, .str b => Q (.bl (!(!(Builtin.Str.occurrences b a 0 b.length 1).isEmpty))) H
 | x, y => rIn K true x y H Q
section
variable {X : Cx}
theorem opu_add : OpR X (binaryOp .Add) (uAdd X.K) := by
 intro pins s σ H x y v u Q I rx ry h
 cases x <;> cases y <;> first
  | exact absurd h id
  | exact op_add pins s σ H _ _ v u Q I rx ry ⟨_, _, rfl, rfl, h⟩
  | exact op_add_str pins s σ H _ _ v u Q I rx ry ⟨_, _, rfl, rfl, h.1, h.2⟩
  | exact h.elim (fun h => op_cat pins s σ H _ _ v u Q I rx ry h) (fun h => op_catT pins s σ H _ _ v u Q I rx ry h)
theorem opu_sub : OpR X (binaryOp .Sub) uSub := by
 intro pins s σ H x y v u Q I rx ry h
 cases x <;> cases y <;> first
  | exact absurd h id
  | exact op_sub pins s σ H _ _ v u Q I rx ry ⟨_, _, rfl, rfl, h⟩
theorem foldl_size (c : Array Nat) : ∀ (m : Nat) (acc : Array Nat), ((List.replicate m c).foldl (· ++ ·) acc).size = acc.size + m * c.size
 | 0, acc => by simp
 | m + 1, acc => by
  rw [List.replicate_succ, List.foldl_cons, foldl_size c m, Array.size_append, Nat.succ_mul]
  omega
theorem op_repS : OpR X (binaryOp .Mult) (fun x y H Q => ∃ (a : Str) (k : Int), x = .str a ∧ y = .int k ∧ 2 ≤ k ∧ k ≤ 1000 ∧ 0 < a.length ∧ a.length ≤ 1000 ∧ Q (.str ⟨(List.replicate k.toNat a.cps).foldl (· ++ ·) #[]⟩) H) := by
 intro pins s σ H x y v u Q I rx ry h
 obtain ⟨a, k, rfl, rfl, h1, h2, h3, h4, q⟩ := h
 obtain ⟨t, rfl⟩ := rx
 obtain ⟨t', rfl⟩ := ry
 have hm : a.length * k.toNat ≤ 1000000 := Nat.le_trans (Nat.mul_le_mul h4 (show k.toNat ≤ 1000 by omega)) (by decide)
 refine PySem.P.mul_str ?_ (fun _ _ => ?_) (fun _ _ => ?_) ?_
 ·rw [decide_eq_false (show ¬ k < -(2 ^ 63) by omega), decide_eq_false (show ¬ k ≥ 2 ^ 63 by omega)]; rfl
 ·have e : ((2 : Int) ^ 63 - 1) / 1000 ≤ (2 ^ 63 - 1) / k := by
   rw [Int.le_ediv_iff_mul_le (by omega)]
   have : ((2 : Int) ^ 63 - 1) / 1000 * k ≤ (2 ^ 63 - 1) / 1000 * 1000 := Int.mul_le_mul_of_nonneg_left h2 (by decide)
   have e2 : ((2 : Int) ^ 63 - 1) / 1000 * 1000 ≤ 2 ^ 63 - 1 := by decide
   omega
  have e3 : (1000 : Int) ≤ (2 ^ 63 - 1) / 1000 := by decide
  omega
 ·exact decide_eq_false (by have := sizeLine_eq; omega)
 ·rw [if_neg (by omega), if_neg (by simp only [Bool.or_eq_true, beq_iff_eq]; omega)]
  refine ⟨?_, .str _, H, I.tok _, ⟨_, rfl⟩, q⟩
  show ((List.replicate k.toNat a.cps).foldl (· ++ ·) #[]).size ≤ sizeLine
  rw [foldl_size]
  have e : a.cps.size = a.length := rfl
  have e2 : (#[] : Array Nat).size = 0 := rfl
  have := sizeLine_eq
  rw [e, e2, Nat.mul_comm]
  omega
theorem opu_mul : OpR X (binaryOp .Mult) uMul := by
 intro pins s σ H x y v u Q I rx ry h
 cases x <;> cases y <;> first
  | exact absurd h id
  | exact (opI fun _ _ _ _ _ _ _ hc q => mul_int q hc : OpR X (binaryOp .Mult) (rI IntMulOk fun i j => .int (i * j))) pins s σ H _ _ v u Q I rx ry ⟨_, _, rfl, rfl, h.1, h.2⟩
  | exact op_rep pins s σ H _ _ v u Q I rx ry h
  | exact op_repS pins s σ H _ _ v u Q I rx ry ⟨_, _, rfl, rfl, h⟩
theorem opu_div : OpR X (binaryOp .FloorDiv) uDiv := by
 intro pins s σ H x y v u Q I rx ry h
 cases x <;> cases y <;> first
  | exact absurd h id
  | exact op_fdivW pins s σ H _ _ v u Q I rx ry ⟨_, _, rfl, rfl, h.1, h.2⟩
theorem opu_mod : OpR X (binaryOp .Mod) uMod := by
 intro pins s σ H x y v u Q I rx ry h
 cases x <;> cases y <;> first
  | exact absurd h id
  | exact op_mod pins s σ H _ _ v u Q I rx ry ⟨_, _, rfl, rfl, h.1, h.2⟩
theorem opu_pow : OpR X (binaryOp .Pow) uPow := by
 intro pins s σ H x y v u Q I rx ry h
 cases x <;> cases y <;> first
  | exact absurd h id
  | exact op_pow pins s σ H _ _ v u Q I rx ry ⟨_, _, rfl, rfl, h.1, h.2⟩
theorem nil_of {xs : List V} {its : List Value} (r : Vals xs its) : decide (its = []) = decide (xs = []) := by
 cases r <;> rfl
theorem nil_of_kv {xs : List (Key × V)} {vs : List (Key × Value)} (r : KV xs vs) : decide (vs = []) = decide (xs = []) := by
 cases r <;> rfl
theorem size0 {its : List Value} : (its.toArray.size == 0) = decide (its = []) := by cases its <;> rfl
theorem op_eqE (hu : X.A.units + 64 < cLine) : OpR X (compareOp .Eq) (fun x y H Q => rEqE X.K x y H fun b => Q (.bl b) H) := by
 intro pins s σ H x y v u Q I rx ry h
 have hu1 : X.A.units < cLine := by omega
 rcases h with ⟨a, b, xs, rfl, rfl, ha, hb, q⟩ | ⟨a, b, xs, rfl, rfl, ha, hb, q⟩ | ⟨a, b, kvs, rfl, rfl, ha, hb, q⟩
 ·cases rx; cases ry
  obtain ⟨its, r, p, _⟩ := I.tuple ha
  obtain ⟨its2, r2, p2, _⟩ := I.tuple hb
  cases r2
  refine SeqAt.RcAt.tuples (e := fun _ => true) p p2 hu1 (fun j _ h2 => absurd h2 (Nat.not_lt_zero j)) X.prog X.w _ _ ⟨.bl (decide (xs = [])), H, I, ?_, q⟩
  rw [← nil_of r, ← size0]
  simp [L2.RelV]
 ·cases rx; cases ry
  obtain ⟨its, r, p, _⟩ := I.list ha
  obtain ⟨its2, r2, p2, _⟩ := I.list hb
  cases r2
  cases its with
  | nil =>
   refine SeqAt.RcAt.lists (e := fun _ => true) p.isList p2.isList rfl hu1 (fun j _ h2 => absurd h2 (Nat.not_lt_zero j)) X.prog X.w _ _ ⟨.bl (decide (xs = [])), H, I, ?_, q⟩
   rw [← nil_of r]
   rfl
  | cons c cs =>
   refine SeqAt.RcAt.lists_lengths p.isList p2.isList (by simp) hu1 X.prog X.w _ _ ⟨.bl (decide (xs = [])), H, I, ?_, q⟩
   rw [← nil_of r]
   rfl
 ·cases rx; cases ry
  obtain ⟨_, ya, va, ra, da⟩ := dk_of I.hok ha
  obtain ⟨_, yb, vb, rb, db⟩ := dk_of I.hok hb
  cases rb
  refine PySem.W.keq_eq (r := true) ya yb da db hu1 (fun hl => ?_) ⟨.bl (decide (kvs = [])), H, I, ?_, q⟩
  ·cases va with
   | nil => exact .nil
   | cons c cs => cases hl
  ·rw [← nil_of_kv ra]
   cases va <;> rfl
theorem op_neE (hu : X.A.units + 64 < cLine) : OpR X (compareOp .NotEq) (fun x y H Q => rEqE X.K x y H fun b => Q (.bl (!b)) H) := by
 intro pins s σ H x y v u Q I rx ry h
 have hu1 : X.A.units < cLine := by omega
 rcases h with ⟨a, b, xs, rfl, rfl, ha, hb, q⟩ | ⟨a, b, xs, rfl, rfl, ha, hb, q⟩ | ⟨a, b, kvs, rfl, rfl, ha, hb, q⟩
 ·cases rx; cases ry
  obtain ⟨its, r, p, _⟩ := I.tuple ha
  obtain ⟨its2, r2, p2, _⟩ := I.tuple hb
  cases r2
  refine SeqAt.RcNeAt.tuples (e := fun _ => true) p p2 hu1 (fun j _ h2 => absurd h2 (Nat.not_lt_zero j)) X.prog X.w _ _ ⟨.bl (!decide (xs = [])), H, I, ?_, q⟩
  rw [← nil_of r, ← size0]
  simp [L2.RelV]
 ·cases rx; cases ry
  obtain ⟨its, r, p, _⟩ := I.list ha
  obtain ⟨its2, r2, p2, _⟩ := I.list hb
  cases r2
  cases its with
  | nil =>
   refine SeqAt.RcNeAt.lists (e := fun _ => true) p.isList p2.isList rfl hu1 (fun j _ h2 => absurd h2 (Nat.not_lt_zero j)) X.prog X.w _ _ ⟨.bl (!decide (xs = [])), H, I, ?_, q⟩
   rw [← nil_of r]
   rfl
  | cons c cs =>
   refine SeqAt.RcNeAt.lists_lengths p.isList p2.isList (by simp) hu1 X.prog X.w _ _ ⟨.bl (!decide (xs = [])), H, I, ?_, q⟩
   rw [← nil_of r]
   rfl
 ·cases rx; cases ry
  obtain ⟨_, ya, va, ra, da⟩ := dk_of I.hok ha
  obtain ⟨_, yb, vb, rb, db⟩ := dk_of I.hok hb
  cases rb
  refine PySem.W.keq_ne (r := true) ya yb da db hu1 (fun hl => ?_) ⟨.bl (!decide (kvs = [])), H, I, ?_, q⟩
  ·cases va with
   | nil => exact .nil
   | cons c cs => cases hl
  ·rw [← nil_of_kv ra]
   cases va <;> rfl
theorem opu_eq (hu : X.A.units + 64 < cLine) : OpR X (compareOp .Eq) (uEq X.K) := by
 intro pins s σ H x y v u Q I rx ry h
 exact h.elim (fun h => op_eq pins s σ H _ _ v u Q I rx ry h) (fun h => h.elim (fun h => op_eqD hu pins s σ H _ _ v u Q I rx ry h) (fun h => op_eqE hu pins s σ H _ _ v u Q I rx ry h))
theorem opu_ne (hu : X.A.units + 64 < cLine) : OpR X (compareOp .NotEq) (uNe X.K) := by
 intro pins s σ H x y v u Q I rx ry h
 exact h.elim (fun h => op_ne pins s σ H _ _ v u Q I rx ry h) (fun h => h.elim (fun h => op_neD hu pins s σ H _ _ v u Q I rx ry h) (fun h => op_neE hu pins s σ H _ _ v u Q I rx ry h))
theorem opu_lt : OpR X (compareOp .Lt) (uLt X.K) := by
 intro pins s σ H x y v u Q I rx ry h
 cases x <;> cases y <;> first
  | exact absurd h id
  | exact op_lt pins s σ H _ _ v u Q I rx ry ⟨_, _, rfl, rfl, h⟩
  | exact op_lt_str pins s σ H _ _ v u Q I rx ry ⟨_, _, rfl, rfl, h⟩
theorem opu_gt : OpR X (compareOp .Gt) uGt := by
 intro pins s σ H x y v u Q I rx ry h
 cases x <;> cases y <;> first
  | exact absurd h id
  | exact op_gt pins s σ H _ _ v u Q I rx ry ⟨_, _, rfl, rfl, h⟩
theorem opu_le : OpR X (compareOp .LtE) uLe := by
 intro pins s σ H x y v u Q I rx ry h
 cases x <;> cases y <;> first
  | exact absurd h id
  | exact op_le pins s σ H _ _ v u Q I rx ry ⟨_, _, rfl, rfl, h⟩
  | exact op_le_str pins s σ H _ _ v u Q I rx ry ⟨_, _, rfl, rfl, h⟩
theorem opu_ge : OpR X (compareOp .GtE) uGe := by
 intro pins s σ H x y v u Q I rx ry h
 cases x <;> cases y <;> first
  | exact absurd h id
  | exact op_ge pins s σ H _ _ v u Q I rx ry ⟨_, _, rfl, rfl, h⟩
theorem opu_in : OpR X (compareOp .In) (uIn X.K) := by
 intro pins s σ H x y v u Q I rx ry h
 cases x <;> cases y <;> first
  | exact op_in_str pins s σ H _ _ v u Q I rx ry ⟨_, _, rfl, rfl, h⟩
  | exact op_in_seq pins s σ H _ _ v u Q I rx ry h
theorem opu_notIn : OpR X (compareOp .NotIn) (uNotIn X.K) := by
 intro pins s σ H x y v u Q I rx ry h
 cases x <;> cases y <;> first
  | exact op_notin_str pins s σ H _ _ v u Q I rx ry ⟨_, _, rfl, rfl, h⟩
  | exact op_notIn_seq pins s σ H _ _ v u Q I rx ry h
end
end SL
set_option Elab.async false
set_option linter.all false
set_option maxRecDepth 100000
set_option maxHeartbeats 2000000
namespace SL
open PySem PySem.Spec PyProof.Rows L2
section
variable {K : PySem.W.Frag} {σ : L2.St} {H : Hp} {Q : VK} {R : Bool → Hp → Prop} {D : Ends} {v x y : V} {i : Nat} {ta tb tc te : TE} {t u : TT} {ts tu : TS} {r : R2} {G : TG}
theorem g_var (h : σ[i]? = some (some v)) (q : Q v H) : tVar i σ H Q := ⟨v, h, q⟩
theorem g_c (q : Q v H) : tC v σ H Q := q
theorem g_op (q : ta σ H fun x H1 => tb σ H1 fun y H2 => r x y H2 Q) : tOp r ta tb σ H Q := q
theorem g_un {ru : V → Hp → VK → Prop} (q : ta σ H fun x H1 => ru x H1 Q) : tUn ru ta σ H Q := q
theorem g_test (q : ta σ H fun x H' => ∃ k, x = .bl k ∧ R k H') : tTest ta σ H R := q
theorem g_B (q : ta σ H fun x H' => ∃ k, x = .bl k ∧ R k H') : tB ta σ H R := q
theorem g_k {A : Bool → Prop} {b : Bool} (q : A b) : ∃ k, V.bl b = V.bl k ∧ A k := ⟨b, rfl, q⟩
theorem g_and (q : t σ H fun c H1 => if c = true then u σ H1 R else R false H1) : tAnd t u σ H R := q
theorem g_or (q : t σ H fun c H1 => if c = true then R true H1 else u σ H1 R) : tOr t u σ H R := q
theorem g_not (q : t σ H fun c H1 => R (!c) H1) : tNot t σ H R := q
theorem g_ifE (q : t σ H fun c H1 => if c = true then ta σ H1 Q else tb σ H1 Q) : tIf t ta tb σ H Q := q
theorem g_seq (q : ts { D with nx := tu D } σ H) : tSeq ts tu D σ H := q
theorem g_asg (q : te σ H fun w H1 => G w σ H1 D.nx) : tAsg te G D σ H := q
theorem g_name {P : L2.St → Hp → Prop} (q : P (σ.set i (some v)) H) : gName i v σ H P := q
theorem g_sub {to ti : TE} {tset : TSet} {P : L2.St → Hp → Prop} (q : to σ H fun o H1 => ti σ H1 fun k H2 => tset o k v H2 fun H3 => P σ H3) : gSub to ti tset v σ H P := q
theorem g_if (q : t σ H fun b H1 => if b = true then ts D σ H1 else tu D σ H1) : tIfS t ts tu D σ H := q
theorem g_ret (q : te σ H D.rt) : tRet te D σ H := q
theorem g_next (q : D.nx σ H) : tNext D σ H := q
theorem g_drop (q : te σ H fun _ H1 => D.nx σ H1) : tDrop te D σ H := q
theorem g_nil {A : List V → Hp → Prop} (q : A [] H) : tNil σ H A := q
theorem g_cons {tr : TA} {A : List V → Hp → Prop} (q : ta σ H fun x H1 => tr σ H1 fun xs H2 => A (x :: xs) H2) : tCons ta tr σ H A := q
theorem g_tup {tl : TA} (q : tl σ H fun xs H1 => xs.length ≤ sizeLine ∧ ∀ p, H1 p = none → Q (.ref p) (upd H1 p (.tup xs))) : tTup tl σ H Q := q
theorem g_lst {tl : TA} (q : tl σ H fun xs H1 => xs.length ≤ sizeLine ∧ ∀ p, H1 p = none → Q (.ref p) (upd H1 p (.lst xs))) : tLst tl σ H Q := q
theorem g_cb {rc : List V → Hp → VK → Prop} {tl : TA} (q : tl σ H fun vs H1 => rc vs H1 Q) : tCB rc tl σ H Q := q
theorem g_call {sp : Sp} {dvs : List V} {E : XK} {tl : TA} (q : tl σ H fun vs H1 => sp (vs ++ dvs) H1 Q E) : tCall sp dvs E tl σ H Q := q
theorem g_sl {rs : V → Option Int → Option Int → Hp → VK → Prop} {tl th : TO} (q : te σ H fun x H1 => tl σ H1 fun l H2 => th σ H2 fun u H3 => rs x l u H3 Q) : tSl rs te tl th σ H Q := q
theorem g_noPart {A : Option Int → Hp → Prop} (q : A none H) : tNoPart σ H A := q
theorem g_part {A : Option Int → Hp → Prop} (q : te σ H fun x H1 => ∃ i, x = .int i ∧ A (some i) H1) : tPart te σ H A := q
theorem g_ki {A : Int → Prop} {i : Int} (q : A i) : ∃ k, V.int i = V.int k ∧ A k := ⟨i, rfl, q⟩
theorem g_for {wi : TI} (q : wi σ H fun J H1 => ∃ W : Nat → Nat → L2.St → Hp → Prop, (∃ m, W 0 m σ H1) ∧ ∀ i m σ H, W i m σ H →
 (J.stop i H ∧ D.nx σ H) ∨ (J.go i H ∧ ∃ N : L2.St → Hp → Prop, (∀ σ' H', N σ' H' → ∃ m', m' < m ∧ W (i + 1) m' σ' H') ∧ ∀ x H', J.yld i H x H' → G x σ H' fun σ2 H2 => ts { D with nx := N, ct := N, bk := D.nx } σ2 H2)) : tFor wi G ts D σ H := q
theorem g_iR1 {tl : TA} {S : It → Hp → Prop} (q : tl σ H fun vs H1 => ∃ j : Int, vs = [.int j] ∧ -(2 ^ 62) ≤ j ∧ j < 2 ^ 62 ∧ S (Itr 0 j.toNat) H1) : iRng1 tl σ H S := q
theorem g_iR2 {tl : TA} {S : It → Hp → Prop} (q : tl σ H fun vs H1 => ∃ i j : Int, vs = [.int i, .int j] ∧ (-(2 ^ 62) ≤ i ∧ i < 2 ^ 62 ∧ -(2 ^ 62) ≤ j ∧ j < 2 ^ 62) ∧ S (Itr i (j - i).toNat) H1) : iRng2 tl σ H S := q
theorem g_iL {S : It → Hp → Prop} (q : te σ H fun x H1 => ∃ a, x = .ref a ∧ (∃ xs, SqL K H1 a xs) ∧ S (Itl K a) H1) : iList K te σ H S := q
theorem g_iT {S : It → Hp → Prop} (q : te σ H fun x H1 => ∃ a, x = .ref a ∧ (∃ xs, SqT K H1 a xs) ∧ S (Itt K a) H1) : iTup K te σ H S := q
theorem g_lc {wi : TI} {vs : List Nat} (q : wi σ H fun J H1 => ∀ D, H1 D = none → ∃ W : Nat → Nat → Hp → Prop, (∃ m, W 0 m (upd H1 D (.lst []))) ∧ ∀ i m H, W i m H →
 (J.stop i H ∧ Q (.ref D) H) ∨ (J.go i H ∧ ∃ Nx : Hp → Prop, (∀ H', Nx H' → ∃ m', m' < m ∧ W (i + 1) m' H') ∧ ∀ x H', J.yld i H x H' → G x (wipe σ vs) H' fun σ2 H2 => wipe σ2 vs = wipe σ vs ∧ t σ2 H2 fun b H3 =>
  if b = true then te σ2 H3 fun y H4 => ∃ acc, H4 D = some (.lst acc) ∧ acc.length < sizeLine ∧ Nx (upd H4 D (.lst (acc ++ [y]))) else Nx H3)) : tLc wi G t te vs σ H Q := q
theorem g_gtup {p : Addr} {xs : List V} {n : Nat} {tt : TGs} {P : L2.St → Hp → Prop} (h : SqT K H p xs) (hl : xs.length = n) (q : tt xs σ H P) : gTup K n tt (.ref p) σ H P := ⟨p, xs, rfl, h, hl, q⟩
theorem g_gcons {xs : List V} {tt : TGs} {P : L2.St → Hp → Prop} (q : G v σ H fun σ' H' => tt xs σ' H' P) : gCons G tt (v :: xs) σ H P := ⟨v, xs, rfl, q⟩
theorem g_gnil {P : L2.St → Hp → Prop} (q : P σ H) : gNil [] σ H P := ⟨rfl, q⟩
theorem g_yes (q : R true H) : tYes σ H R := q
theorem g_andT (q : ta σ H fun x H1 => ∃ k, TruV K x H1 k ∧ if k = true then tb σ H1 Q else Q x H1) : tAndT K ta tb σ H Q := q
theorem g_orT (q : ta σ H fun x H1 => ∃ k, TruV K x H1 k ∧ if k = true then Q x H1 else tb σ H1 Q) : tOrT K ta tb σ H Q := q
theorem g_notT (q : ta σ H fun x H1 => ∃ k, TruV K x H1 k ∧ Q (.bl (!k)) H1) : tNotT K ta σ H Q := q
theorem g_truB {A : Bool → Prop} {b : Bool} (q : A b) : ∃ k, TruV K (.bl b) H k ∧ A k := ⟨b, rfl, q⟩
theorem g_addI {i j : Int} (q : Q (.int (i + j)) H) : uAdd K (.int i) (.int j) H Q := q
theorem g_addS {a b : Str} (h : a.length + b.length ≤ sizeLine) (q : Q (.str (a ++ b)) H) : uAdd K (.str a) (.str b) H Q := ⟨h, q⟩
theorem g_addL {a b : Addr} {xs ys : List V} (h : H a = some (.lst xs)) (h2 : H b = some (.lst ys)) (hs : xs.length + ys.length ≤ sizeLine) (q : ∀ p, H p = none → Q (.ref p) (upd H p (.lst (xs ++ ys)))) : uAdd K (.ref a) (.ref b) H Q :=
 .inl ⟨a, b, xs, ys, rfl, rfl, h, h2, hs, q⟩
theorem g_subI {i j : Int} (q : Q (.int (i - j)) H) : uSub (.int i) (.int j) H Q := q
theorem g_mulI {i j : Int} (h : IntMulOk i j) (q : Q (.int (i * j)) H) : uMul (.int i) (.int j) H Q := ⟨h, q⟩
theorem g_divI {i j : Int} (h : CDivW i j) (q : Q (.int (i / j)) H) : uDiv (.int i) (.int j) H Q := ⟨h, q⟩
theorem g_modI {i j : Int} (h : 0 < j) (q : Q (.int (i % j)) H) : uMod (.int i) (.int j) H Q := ⟨h, q⟩
theorem g_powI {i j : Int} (h : CPow i j) (q : Q (.int (i ^ j.toNat)) H) : uPow (.int i) (.int j) H Q := ⟨h, q⟩
theorem g_ltI {i j : Int} (q : Q (.bl (decide (i < j))) H) : uLt K (.int i) (.int j) H Q := q
theorem g_gtI {i j : Int} (q : Q (.bl (decide (j < i))) H) : uGt (.int i) (.int j) H Q := q
theorem g_leI {i j : Int} (q : Q (.bl (decide (i ≤ j))) H) : uLe (.int i) (.int j) H Q := q
theorem g_geI {i j : Int} (q : Q (.bl (decide (j ≤ i))) H) : uGe (.int i) (.int j) H Q := q
theorem dec_i {i j : Int} : decide (V.int i = V.int j) = decide (i = j) := by
 by_cases h : i = j
 ·rw [decide_eq_true h, h]; exact decide_eq_true rfl
 ·rw [decide_eq_false h]; exact decide_eq_false fun z => h (V.int.inj z)
theorem dec_s {i j : Str} : decide (V.str i = V.str j) = decide (i = j) := by
 by_cases h : i = j
 ·rw [decide_eq_true h, h]; exact decide_eq_true rfl
 ·rw [decide_eq_false h]; exact decide_eq_false fun z => h (V.str.inj z)
theorem dec_b {i j : Bool} : decide (V.bl i = V.bl j) = decide (i = j) := by
 by_cases h : i = j
 ·rw [decide_eq_true h, h]; exact decide_eq_true rfl
 ·rw [decide_eq_false h]; exact decide_eq_false fun z => h (V.bl.inj z)
theorem g_eqI {i j : Int} (q : Q (.bl (decide (i = j))) H) : uEq K (.int i) (.int j) H Q := .inl ⟨rfl, by rw [dec_i]; exact q⟩
theorem g_eqS {i j : Str} (q : Q (.bl (decide (i = j))) H) : uEq K (.str i) (.str j) H Q := .inl ⟨rfl, by rw [dec_s]; exact q⟩
theorem g_eqB {i j : Bool} (q : Q (.bl (decide (i = j))) H) : uEq K (.bl i) (.bl j) H Q := .inl ⟨rfl, by rw [dec_b]; exact q⟩
theorem g_eqD {d e : PyData} (h : Dp K H x d) (h2 : Dp K H y e) (hs : SeqAt.shaped d = true) (hs2 : SeqAt.shaped e = true) (q : Q (.bl (PyData.eqv d e)) H) : uEq K x y H Q := .inr (.inl ⟨d, e, h, h2, hs, hs2, q⟩)
theorem g_neI {i j : Int} (q : Q (.bl (!decide (i = j))) H) : uNe K (.int i) (.int j) H Q := .inl ⟨rfl, by rw [dec_i]; exact q⟩
theorem g_neS {i j : Str} (q : Q (.bl (!decide (i = j))) H) : uNe K (.str i) (.str j) H Q := .inl ⟨rfl, by rw [dec_s]; exact q⟩
theorem g_neB {i j : Bool} (q : Q (.bl (!decide (i = j))) H) : uNe K (.bl i) (.bl j) H Q := .inl ⟨rfl, by rw [dec_b]; exact q⟩
theorem g_neD {d e : PyData} (h : Dp K H x d) (h2 : Dp K H y e) (hs : SeqAt.shaped d = true) (hs2 : SeqAt.shaped e = true) (q : Q (.bl (!PyData.eqv d e)) H) : uNe K x y H Q := .inr (.inl ⟨d, e, h, h2, hs, hs2, q⟩)
theorem g_eqET {a b : Addr} {xs : List V} (h : SqT K H a xs) (h2 : SqT K H b []) (q : Q (.bl (decide (xs = []))) H) : uEq K (.ref a) (.ref b) H Q := .inr (.inr (.inl ⟨a, b, xs, rfl, rfl, h, h2, q⟩))
theorem g_eqEL {a b : Addr} {xs : List V} (h : SqL K H a xs) (h2 : SqL K H b []) (q : Q (.bl (decide (xs = []))) H) : uEq K (.ref a) (.ref b) H Q := .inr (.inr (.inr (.inl ⟨a, b, xs, rfl, rfl, h, h2, q⟩)))
theorem g_neET {a b : Addr} {xs : List V} (h : SqT K H a xs) (h2 : SqT K H b []) (q : Q (.bl (!decide (xs = []))) H) : uNe K (.ref a) (.ref b) H Q := .inr (.inr (.inl ⟨a, b, xs, rfl, rfl, h, h2, q⟩))
theorem g_neEL {a b : Addr} {xs : List V} (h : SqL K H a xs) (h2 : SqL K H b []) (q : Q (.bl (!decide (xs = []))) H) : uNe K (.ref a) (.ref b) H Q := .inr (.inr (.inr (.inl ⟨a, b, xs, rfl, rfl, h, h2, q⟩)))
theorem g_neEK {a b : Addr} {kvs : List (Key × V)} (h : H a = some (.dK kvs)) (h2 : H b = some (.dK [])) (q : Q (.bl (!decide (kvs = []))) H) : uNe K (.ref a) (.ref b) H Q := .inr (.inr (.inr (.inr ⟨a, b, kvs, rfl, rfl, h, h2, q⟩)))
theorem g_mulS {a : Str} {k : Int} (h1 : 2 ≤ k) (h2 : k ≤ 1000) (h3 : 0 < a.length) (h4 : a.length ≤ 1000) (q : Q (.str ⟨(List.replicate k.toNat a.cps).foldl (· ++ ·) #[]⟩) H) : uMul (.str a) (.int k) H Q := ⟨h1, h2, h3, h4, q⟩
theorem g_ixL {p : Addr} {xs : List V} {i : Int} (h : SqL K H p xs) (e : atI xs i = some v) (q : Q v H) : rIx K (.ref p) (.int i) H Q := .inl ⟨p, xs, i, v, rfl, rfl, h, e, q⟩
theorem g_ixT {p : Addr} {xs : List V} {i : Int} (h : SqT K H p xs) (e : atI xs i = some v) (q : Q v H) : rIx K (.ref p) (.int i) H Q := .inr (.inl ⟨p, xs, i, v, rfl, rfl, h, e, q⟩)
theorem g_ixS {z : Str} {i : Int} {c : Nat} (h : z.length ≤ sizeLine) (e : atI z.cps.toList i = some c) (q : Q (.str ⟨#[c]⟩) H) : rIx K (.str z) (.int i) H Q := .inr (.inr ⟨z, i, c, rfl, rfl, h, e, q⟩)
theorem g_setL {p : Addr} {xs : List V} {k : Int} {j : Nat} {P : Hp → Prop} (h : H p = some (.lst xs)) (e : ixN xs.length k = some j) (q : P (upd H p (.lst (xs.set j v)))) : rSetL (.ref p) (.int k) v H P := ⟨p, xs, k, j, rfl, rfl, h, e, q⟩
theorem g_slL {p : Addr} {xs : List V} {lo hi : Option Int} (h : SqL K H p xs) (q : ∀ p, H p = none → Q (.ref p) (upd H p (.lst (cutV xs lo hi)))) : rSlL K (.ref p) lo hi H Q := ⟨p, xs, rfl, h, q⟩
theorem cut0 (xs : List V) (n : Nat) : cutV xs none (some (n : Int)) = xs.take n := by
 unfold cutV
 rw [HT.sIx_none, HT.sIx_nat, List.drop_zero, Nat.sub_zero]
 by_cases h : n ≤ xs.length
 ·rw [Nat.min_eq_left h]
 ·rw [Nat.min_eq_right (by omega), List.take_length, List.take_of_length_le (by omega)]
theorem cutA (xs : List V) (n : Nat) : cutV xs (some (n : Int)) none = xs.drop n := by
 unfold cutV
 rw [HT.sIx_none, HT.sIx_nat]
 by_cases h : n ≤ xs.length
 ·rw [Nat.min_eq_left h, ← List.length_drop, List.take_length]
 ·rw [Nat.min_eq_right (by omega), Nat.sub_self, List.take_zero, List.drop_eq_nil_of_le (by omega)]
theorem rd_start {tm : TS} {N : List Str} {vs : List V} {σ0 : L2.St} (e : start N vs = σ0) (q : tm D σ0 H) : tm D (start N vs) H := by rw [e]; exact q
theorem lt_of {n : Nat} (h : n ≤ 100000) : n < sizeLine := Nat.lt_of_le_of_lt h (by decide)
theorem le_of {n : Nat} (h : n ≤ 100000) : n ≤ sizeLine := Nat.le_trans h (by decide)
theorem g_tt {c : Bool} {A B : Prop} (h : c = true) (q : A) : if c = true then A else B := by rw [if_pos h]; exact q
theorem g_ff {c : Bool} {A B : Prop} (h : c = false) (q : B) : if c = true then A else B := by rw [if_neg (by rw [h]; exact Bool.false_ne_true)]; exact q
theorem g_by {c : Prop} [Decidable c] {A B : Prop} (h1 : c → A) (h2 : ¬ c → B) : if decide c = true then A else B := by
 by_cases h : c
 ·exact g_tt (decide_eq_true h) (h1 h)
 ·exact g_ff (decide_eq_false h) (h2 h)
theorem g_byN {c : Prop} [Decidable c] {A B : Prop} (h1 : ¬ c → A) (h2 : c → B) : if (!decide c) = true then A else B := by
 by_cases h : c
 ·exact g_ff (by rw [decide_eq_true h]; rfl) (h2 h)
 ·exact g_tt (by rw [decide_eq_false h]; rfl) (h1 h)
theorem g_byB {c : Bool} {A B : Prop} (h1 : c = true → A) (h2 : c = false → B) : if c = true then A else B := by
 cases c with
 | true => exact h1 rfl
 | false => exact h2 rfl
theorem mulR {i j : Int} (h1 : -(2 ^ 64) < j) (h2 : j < 2 ^ 64) : IntMulOk i j := .of_right (intBits_le_64 h1 h2)
theorem mulL {i j : Int} (h1 : -(2 ^ 64) < i) (h2 : i < 2 ^ 64) : IntMulOk i j := .of_left (intBits_le_64 h1 h2)
theorem divS {i j : Int} (h : 0 < j) (h2 : j < 2 ^ 200) : CDivW i j := by
 refine ⟨h, ?_⟩
 have e : j.natAbs < 2 ^ 200 := by omega
 exact Nat.lt_of_lt_of_le (PySem.Flt.log2_lt_of (by decide) e) (by decide)
end
end SL
set_option Elab.async false
set_option linter.all false
set_option maxRecDepth 100000
set_option maxHeartbeats 2000000
namespace SL
open PySem PySem.Spec PyProof.Rows L2
structure Cal (P : Program) (w : World) (K : PySem.W.Frag) (mg : Str → Option Value) (base : Heap) (k : Nat) (x : Str) (sp : Sp) : Prop where
 ex : ∃ (f : Addr) (fd : FuncData) (ps : List Str), FnOk P w K mg base CX0 k f fd ps sp ∧ mg x = some (.ref f) ∧ PySem.W.keepIn K (.ref f) = true ∧ Binds K fd ps []
section
variable {P : Program} {w : World} {K : PySem.W.Frag} {mg : Str → Option Value} {base : Heap}
theorem Cal.mono {j k : Nat} {x : Str} {sp : Sp} (c : Cal P w K mg base j x sp) (h : j ≤ k) : Cal P w K mg base k x sp := by
 obtain ⟨f, fd, ps, F, m, kp, b⟩ := c.ex
 exact ⟨f, fd, ps, F.mono h, m, kp, b⟩
theorem Cal.imp {k : Nat} {x : Str} {sp sp' : Sp} (c : Cal P w K mg base k x sp) (h : ∀ vs H Q E, sp' vs H Q E → sp vs H Q E) : Cal P w K mg base k x sp' := by
 obtain ⟨f, fd, ps, F, m, kp, b⟩ := c.ex
 exact ⟨f, fd, ps, F.imp h, m, kp, b⟩
end
section
variable {X : Cx} {k j : Nat} {x : Str} {sp : Sp} {p pos : Pos} {e : Expr} {es : List Expr} {t : TA}
def uLen (K : PySem.W.Frag) : List V → Hp → VK → Prop := fun xs H Q => ∃ x, xs = [x] ∧ match x with
 | .str z => z.length ≤ sizeLine ∧ Q (.int z.length) H
 | .ref p => (∃ ys, (SqL K H p ys ∨ SqT K H p ys) ∧ Q (.int ys.length) H) ∨ ∃ kvs, H p = some (.dK kvs) ∧ Q (.int kvs.length) H
 | _ => False
theorem callu_len : CallR X (.builtin "len") (uLen X.K) := by
  intro pins s σ H xs us Q I r h
  obtain ⟨x, rfl, h⟩ := h
  cases x <;> first
    | exact absurd h id
    | exact call_len_str pins s σ H _ us Q I r ⟨_, rfl, h.1, h.2⟩
    | (rcases h with ⟨ys, h1, h2⟩ | ⟨kvs, h1, h2⟩
       · exact call_len_seq pins s σ H _ us Q I r ⟨_, ys, rfl, h1, h2⟩
       · obtain ⟨u, rfl, r1⟩ := vals1 r
         cases r1
         exact d_len I (.inl h1) fun t s' I' => ⟨.int _, H, I', ⟨_, rfl⟩, h2⟩)
def uList (K : PySem.W.Frag) : List V → Hp → VK → Prop := fun xs H Q => (∃ p ys, xs = [.ref p] ∧ (SqL K H p ys ∨ SqT K H p ys) ∧ ∀ l, H l = none → Q (.ref l) (upd H l (.lst ys))) ∨ rListD xs H Q
theorem callu_list (hc : X.calm = true := by rfl) : CallR X (.type "list") (uList X.K) := call_list_of.or (call_list_dK hc)
def uIsi (K : PySem.W.Frag) : List V → Hp → VK → Prop := fun xs H Q => rIsi K xs H Q ∨ rIsiT K xs H Q
theorem callu_isi : CallR X (.builtin "isinstance") (uIsi X.K) := call_isi.or call_isiT
end
section
variable {K : PySem.W.Frag} {H : Hp} {Q : VK}
theorem g_len {p : Addr} {ys : List V} (h : SqL K H p ys ∨ SqT K H p ys) (q : Q (.int ys.length) H) : uLen K [.ref p] H Q := ⟨_, rfl, .inl ⟨ys, h, q⟩⟩
theorem g_lenK {p : Addr} {kvs : List (Key × V)} (h : H p = some (.dK kvs)) (q : Q (.int kvs.length) H) : uLen K [.ref p] H Q := ⟨_, rfl, .inr ⟨kvs, h, q⟩⟩
theorem g_lenS {z : Str} (h : z.length ≤ sizeLine) (q : Q (.int z.length) H) : uLen K [.str z] H Q := ⟨_, rfl, h, q⟩
theorem g_list {p : Addr} {ys : List V} (h : SqL K H p ys ∨ SqT K H p ys) (q : ∀ l, H l = none → Q (.ref l) (upd H l (.lst ys))) : uList K [.ref p] H Q := .inl ⟨p, ys, rfl, h, q⟩
theorem g_listD {p : Addr} {kvs : List (Key × V)} (h : H p = some (.dK kvs)) (q : ∀ l, H l = none → Q (.ref l) (upd H l (.lst (kvs.map fun kv => kV kv.1)))) : uList K [.ref p] H Q := .inr ⟨p, kvs, rfl, h, q⟩
end
end SL
namespace SL
open PySem PySem.Spec PyProof.Rows L2
def shownV : V → Str
 | .int i => toString i
 | .str z => reprText z
 | .bl b => if b then "True" else "False"
 | _ => "None"
def shortV : V → Prop
 | .int i => i.natAbs.log2 < 1920
 | .str z => (reprText z).length ≤ sizeLine
 | .bl _ => True
 | .non => True
 | _ => False
def uRepr : List V → Hp → VK → Prop := fun xs H Q => ∃ x, xs = [x] ∧ shortV x ∧ Q (.str (shownV x)) H
theorem callu_repr {X : Cx} : CallR X (.builtin "repr") uRepr := by
 intro pins s σ H xs us Q I r h
 obtain ⟨x, rfl, hs, q⟩ := h
 obtain ⟨u, rfl, r1⟩ := vals1 r
 cases x with
 | int i =>
  obtain ⟨t, rfl⟩ := r1
  exact PySem.P.repr_of_int hs ⟨.str _, H, I.tok _, ⟨_, rfl⟩, q⟩
 | str z =>
  obtain ⟨t, rfl⟩ := r1
  exact PySem.P.repr_of_str ⟨.str _, H, I.tok _, ⟨_, rfl⟩, q⟩ hs
 | bl b =>
  cases r1
  exact PySem.P.repr_of_bool ⟨.str (if b then "True" else "False"), H, I.tok _, ⟨_, by cases b <;> rfl⟩, q⟩
 | non =>
  cases r1
  exact PySem.P.repr_of_none ⟨.str _, H, I.tok _, ⟨_, rfl⟩, q⟩
 | _ => exact absurd hs id
section
variable {K : PySem.W.Frag} {H : Hp} {Q : VK} {x : V}
theorem tyx_l {p : Addr} {xs : List V} (h : SqL K H p xs) : TyX K H (.ref p) (.type "list") := by
 rcases h with (h | ⟨o, h⟩) | ⟨o, its, n, h1, h2, _⟩
 ·exact .base (.lst h)
 ·exact .base (.frz h)
 ·exact .kList h1 h2
theorem tyx_t {p : Addr} {xs : List V} (h : SqT K H p xs) : TyX K H (.ref p) (.type "tuple") := by
 rcases h with (h | ⟨o, h⟩) | ⟨o, its, n, h1, h2, _⟩
 ·exact .base (.tup h)
 ·exact .fTuple h
 ·exact .kTuple h1 h2
theorem g_isi {T U : String} {b : Bool} (ty : TyX K H x (.type T)) (e : kitB T U = some b) (q : Q (.bl b) H) : uIsi K [x, .ty U] H Q := .inl ⟨x, .ty U, _, _, b, rfl, .ty U, ty, kit_ty e, q⟩
theorem g_isi2 {T U1 U2 : String} {b1 b2 : Bool} {tp : Addr} (ht : H tp = some (.tup [.ty U1, .ty U2])) (ty : TyX K H x (.type T)) (e1 : kitB T U1 = some b1) (e2 : kitB T U2 = some b2) (q : Q (.bl (b1 || b2)) H) : uIsi K [x, .ref tp] H Q := by
 refine .inr ⟨x, tp, [.ty U1, .ty U2], _, [.type U1, .type U2], b1 || b2, rfl, ht, .cons (.ty U1) (.cons (.ty U2) .nil), ty, ?_, q⟩
 refine kitAny_cons (kit_ty e1) (fun h => ?_) (fun h => by rw [h]; rfl)
 subst h
 refine kitAny_cons (kit_ty e2) (fun h => ?_) (fun h => by rw [h]; rfl)
 subst h
 exact kitAny_nil
end
def Sm : Nat → PyData → Prop
 | 0, _ => False
 | _ + 1, .int i => i.natAbs.log2 < 1920
 | _ + 1, .str z => (reprText z).length ≤ sizeLine
 | _ + 1, .bool _ => True
 | _ + 1, .none => True
 | n + 1, .list ds => ds.length ≤ 10000 ∧ ∀ d ∈ ds, Sm n d
 | n + 1, .tuple ds => ds.length ≤ 10000 ∧ ∀ d ∈ ds, Sm n d
 | _ + 1, .dict _ => False
section
variable {K : PySem.W.Frag} {H H' : Hp} {M : List Addr}
mutual
theorem dp_same (e : Same H H') : ∀ {v : V} {d : PyData}, Dp K H v d → Dp K H' v d
 | _, _, .non => .non
 | _, _, .bl b => .bl b
 | _, _, .int i => .int i
 | _, _, .str x => .str x
 | _, _, .lst h hs => .lst (e.seq h) (dpa_same e hs)
 | _, _, .tup h hs => .tup ((Fr.of_same (M := []) e).tup h) (dpa_same e hs)
theorem dpa_same (e : Same H H') : ∀ {vs : List V} {ds : List PyData}, DpAll K H vs ds → DpAll K H' vs ds
 | _, _, .nil => .nil
 | _, _, .cons h hs => .cons (dp_same e h) (dpa_same e hs)
end
theorem dpa_len : ∀ {vs : List V} {ds : List PyData}, DpAll K H vs ds → vs.length = ds.length
 | _, _, .nil => rfl
 | _, _, .cons _ hs => congrArg Nat.succ (dpa_len hs)
theorem dpa_get : ∀ {vs : List V} {ds : List PyData} {i : Nat} {v : V}, DpAll K H vs ds → vs[i]? = some v → ∃ d, ds[i]? = some d ∧ Dp K H v d
 | _, _, _, _, .nil, e => by simp at e
 | _, _, 0, v, .cons h _, e => by simp at e; subst e; exact ⟨_, rfl, h⟩
 | _, _, i + 1, v, .cons _ hs, e => by
  obtain ⟨d, h1, h2⟩ := dpa_get (i := i) (v := v) hs (by simpa using e)
  exact ⟨d, by simpa using h1, h2⟩
end
end SL
namespace SL
open PySem PySem.Spec PyProof.Rows L2
section
variable {K : PySem.W.Frag} {σ : L2.St} {H : Hp} {a b : Addr} {xs ys : List V}
theorem walk_zipT {n : Nat} (hn : n = min xs.length ys.length) : Walk (RZ.ItzT K a b) n (fun H => SqT K H a xs ∧ SqT K H b ys) (YPair (fun i => xs[i]?) (fun i => ys[i]?)) :=
 have both : ∀ {i : Nat}, i < n → i < xs.length ∧ i < ys.length := fun {i} lt => by omega
 {
  goes := fun i _ lt q => ⟨xs, ys, xs[i]'(both lt).1, ys[i]'(both lt).2, q.1, q.2, List.getElem?_eq_getElem _, List.getElem?_eq_getElem _⟩
  stops := fun _ q => ⟨xs, ys, q.1, q.2, by omega⟩
  yields := fun i H v H' _ q y => have ⟨T, x, z, isT, new, as, fx, fy⟩ := y; ⟨T, x, z, isT, new, as, fx xs q.1, fy ys q.2⟩
 }
theorem g_izA {tl : TA} {S : It → Hp → Prop} (q : tl σ H fun vs H1 => ∃ a b xs ys, vs = [.ref a, .ref b] ∧ ((SqL K H1 a xs ∧ SqL K H1 b ys ∧ S (Itz K a b) H1) ∨ (SqT K H1 a xs ∧ SqT K H1 b ys ∧ S (RZ.ItzT K a b) H1))) : RZ.iZipA K tl σ H S := q
theorem g_iz {tl : TA} {S : It → Hp → Prop} (q : tl σ H fun vs H1 => ∃ a b xs ys, vs = [.ref a, .ref b] ∧ SqL K H1 a xs ∧ SqL K H1 b ys ∧ S (Itz K a b) H1) : iZip K tl σ H S := q
end
end SL
set_option Elab.async false
set_option linter.all false
set_option maxRecDepth 100000
set_option maxHeartbeats 2000000
namespace SL
open PySem PySem.Spec PyProof.Rows L2
structure RoomG (k : Nat) (A : Around) : Prop where
 rm : Room k A
 gd : A.guards = some []
theorem RoomG.mono {j k : Nat} {A : Around} (r : RoomG k A) (h : j ≤ k) : RoomG j A := ⟨r.rm.mono h, r.gd⟩
theorem RoomG.units {k : Nat} {A : Around} (r : RoomG k A) : A.units + 64 < cLine := r.rm.units
structure FnG (P : Program) (w : World) (K : PySem.W.Frag) (mg : Str → Option Value) (base : Heap) (CX : CXT) (k : Nat) (f : Addr) (fd : FuncData) (ps : List Str) (sp : Sp) : Prop where
 len : ∀ vs H Q E, sp vs H Q E → vs.length = ps.length
 go : ∀ (A : Around) (outer : List Env) (s : Shared) (H : Hp) (args : Args) (us : List Value) (vs : List V) (Q : VK) (E : XK), RoomG k A →
  Env0 P w K mg base A outer s H → BindsTo s fd args (ps.zip us) → Vals vs us → sp vs H Q E → codeAny (model P w) A (.call (.ref f) args) (CR CX outer P w H s Q E) s
section
variable {P : Program} {w : World} {K : PySem.W.Frag} {mg : Str → Option Value} {base : Heap} {CX : CXT}
theorem FnG.up {j k : Nat} {f : Addr} {fd : FuncData} {ps : List Str} {sp : Sp} (F : FnG P w K mg base CX j f fd ps sp) (h : j ≤ k) : FnG P w K mg base CX k f fd ps sp :=
 ⟨F.len, fun A outer s H args us vs Q E r => F.go A outer s H args us vs Q E (r.mono h)⟩
theorem FnG.imp {k : Nat} {f : Addr} {fd : FuncData} {ps : List Str} {sp sp' : Sp} (F : FnG P w K mg base CX k f fd ps sp) (h : ∀ vs H Q E, sp' vs H Q E → sp vs H Q E) : FnG P w K mg base CX k f fd ps sp' :=
 ⟨fun vs H Q E z => F.len vs H Q E (h vs H Q E z), fun A outer s H args us vs Q E r e b v z => F.go A outer s H args us vs Q E r e b v (h vs H Q E z)⟩
theorem fng_of {k : Nat} {f : Addr} {x qual : Str} {pr : Arguments} {bd : List Stmt} {sc : Scope} {dV kV doc pm cdv ct oc : Value} {an od : Option Addr} {osl : Array (Option Value)} {N ps : List Str} {sp : Sp}
  (lk : K.lookup f = some ⟨oc, od, .func (PySem.W.fnOf x qual pr bd sc dV kV doc pm an cdv ct), osl⟩) (hcd : PySem.W.codeIn K cdv qual = true) (S : FnScope N ps sc) (hlen : ∀ vs H Q E, sp vs H Q E → vs.length = ps.length)
  (hb : ∀ (A : Around) (outer : List Env) (s : Shared) (H : Hp) (vs : List V) (Q : VK) (E : XK), RoomG k (A.deeper (envOfC qual sc s.heap.objs.size f cdv)) → sp vs H Q E →
   ∃ t, PSs (cxOf CX P w K mg base N qual sc f cdv A outer s H E) bd t ∧ t { nx := fun _ H' => Q .non H', rt := Q } (start N vs) H) :
  FnG P w K mg base CX (k + 1) f (PySem.W.fnOf x qual pr bd sc dV kV doc pm an cdv ct) ps sp := by
 constructor
 ·exact hlen
 intro A outer s H args us vs Q E hr env0 hbind rel hsp
 have nl := hlen _ _ _ _ hsp
 have inH : K.In s.heap := env0.mod.kin.keeps fun b o z => (env0.bs b o z).1
 have nolim : s.heap.NoLimit := env0.mod.nolimit.keeps fun b o z => (env0.bs b o z).1
 have kinds : ∀ y ∈ ps.zip us, sc.names.lookup y.1 = some .local ∨ (sc.names.lookup y.1 = some .cell ∧ ((cellsFrom (s.heap.objs.size + 1) sc.names []).lookup y.1).isSome = true) := by
  rintro ⟨n, v⟩ hy
  exact (S.par n (List.of_mem_zip hy).1).imp id fun q => ⟨q, PySem.W.cellsFrom_some _ _ _ (.inl q)⟩
 refine codeAny_call_function hr.rm.depth (inH _ _ lk) rfl S.co S.gen rfl (PySem.W.codeRec_of inH hcd) (hbind _ _ _ _ (wpAny_newFunctionEnv_cells S.kind kinds fun en hen s1 ic => ?_))
 subst hen
 refine ⟨nolim.keeps ic.toInCall.keep, codeAny_func ?_⟩
 obtain ⟨t, ht, hq⟩ := hb A outer s H vs Q E ⟨hr.rm.deeper _, hr.gd⟩ hsp
 have J0 : Inv (cxOf CX P w K mg base N qual sc f cdv A outer s H E) [] (start N vs) H s1 := inv_start S hr.rm.hd env0 nl rel ic
 refine wpAny_mono (ht.run [] s1 (start N vs) H _ J0 hq) (fun fl s2 h2 => ?_) fun e s2 h2 => h2
 cases fl with
 | next =>
  obtain ⟨σ2, H2, J, q2⟩ := h2
  exact ⟨V.non, H2, J.os, J.bare, J.base, J.hok, rfl, q2⟩
 | ret u =>
  obtain ⟨v, σ2, H2, J, rv, q2⟩ := h2
  exact ⟨v, H2, J.os, J.bare, J.base, J.hok, rv, q2⟩
 | brk => exact h2.elim fun _ z => z.elim fun _ z => z.2.elim
 | cont => exact h2.elim fun _ z => z.elim fun _ z => z.2.elim
theorem okG {x qual : Str} {pr : Arguments} {bd : List Stmt} {sc : Scope} {dvs : List V} {kws : List (Str × V)} {f : Addr} {fd : FuncData} {N ps : List Str} {k : Nat} {sp : Sp} (F : FunD K x qual pr bd sc dvs kws f fd) (S : FnScope N ps sc) (hlen : ∀ vs H Q E, sp vs H Q E → vs.length = ps.length)
  (hb : ∀ (cdv : Value) (A : Around) (outer : List Env) (s : Shared) (H : Hp) (vs : List V) (Q : VK) (E : XK), RoomG k (A.deeper (envOfC qual sc s.heap.objs.size f cdv)) → sp vs H Q E →
   ∃ t, PSs (cxOf CX P w K mg base N qual sc f cdv A outer s H E) bd t ∧ t { nx := fun _ H' => Q .non H', rt := Q } (start N vs) H) : FnG P w K mg base CX (k + 1) f fd ps sp := by
 obtain ⟨oc, od, dV, kV, doc, pm, an, cdv, ct, osl, rfl, lk, hcd, _, _⟩ := F.ex
 exact fng_of lk hcd S hlen fun A outer s H vs Q E hr hsp => hb cdv A outer s H vs Q E hr hsp
structure CalG (P : Program) (w : World) (K : PySem.W.Frag) (mg : Str → Option Value) (base : Heap) (k : Nat) (x : Str) (sp : Sp) : Prop where
 ex : ∃ (f : Addr) (fd : FuncData) (ps : List Str), FnG P w K mg base CX0 k f fd ps sp ∧ mg x = some (.ref f) ∧ PySem.W.keepIn K (.ref f) = true ∧ Binds K fd ps []
theorem CalG.mono {j k : Nat} {x : Str} {sp : Sp} (c : CalG P w K mg base j x sp) (h : j ≤ k) : CalG P w K mg base k x sp := by
 obtain ⟨f, fd, ps, F, m, kp, b⟩ := c.ex
 exact ⟨f, fd, ps, F.up h, m, kp, b⟩
theorem CalG.imp {k : Nat} {x : Str} {sp sp' : Sp} (c : CalG P w K mg base k x sp) (h : ∀ vs H Q E, sp' vs H Q E → sp vs H Q E) : CalG P w K mg base k x sp' := by
 obtain ⟨f, fd, ps, F, m, kp, b⟩ := c.ex
 exact ⟨f, fd, ps, F.imp h, m, kp, b⟩
end
section
variable {X : Cx} {k j : Nat} {x : Str} {sp : Sp} {p pos : Pos} {e : Expr} {es : List Expr} {t : TA}
theorem run_fng {CX : CXT} {f : Addr} {fd : FuncData} {ps : List Str} {dvs : List V} {ds : List Value} {E : XK} {pins : List (Addr × Obj)} {σ : L2.St} {H : Hp} {s : Shared} {Q : VK} {us : List Value} {vs : List V}
  (F : FnG X.prog X.w X.K X.mg X.base CX k f fd ps sp) (hr : RoomG k X.A) (hb : Binds X.K fd ps ds) (hd : Vals dvs ds) (hx : Passes CX X E) (I : Inv X pins σ H s) (r : Vals vs us) (h : sp (vs ++ dvs) H Q E) :
  wpAny (model X.prog X.w) X.A (call (.ref f) us) (EP X pins σ Q) X.xe s := by
 have rel : Vals (vs ++ dvs) (us ++ ds) := r.append hd
 have ln : (us ++ ds).length = ps.length := rel.length.symm.trans (F.len _ _ _ _ h)
 refine wpAny_call (codeAny_mono (F.go X.A X.stack s H ⟨us, []⟩ (us ++ ds) (vs ++ dvs) Q E hr I.env0 (hb s us I.kIn ln) rel h) fun res s2 hq => ?_)
 cases res with
 | ok fl =>
  cases fl with
  | ret u => exact I.after hq
  | _ => exact hq.elim
 | error z => exact hx pins σ H s z s2 I hq
theorem pe_calG (c : CalG X.prog X.w X.K X.mg X.base k x sp) (hr : RoomG j X.A) (hg : Gl X x) (ha : PA X (e :: es) t) (hk : k ≤ j := by first | decide | omega)
  (hdb : (x == ("__debug__" : Str)) = false := by decide) (hst : starEach (e :: es) X.env = (false, eval e X.env) :: starEach es X.env := by rfl) (hnp : (backTo pos (starEach es X.env)).any (·.1) = false := by rfl) :
  PE X (.Call (.Name x p) (e :: es) [] pos) (tCall sp [] E0 t) := by
 obtain ⟨f, fd, ps, F, hm, kp, b⟩ := c.ex
 constructor
 intro pins s σ H Q I h
 refine wpAny_Call_Name_kw (ld_glob I hg hm (PySem.W.callWith_K (h₀ := X.base) I.ok.mod.kin kp (thn (ha.run pos pins s σ H _ I h) fun us s1 z => ?_) hst hnp) hdb)
 obtain ⟨vs, H1, I1, r, q⟩ := z
 exact ⟨I1.kIn, run_fng F (hr.mono hk) b .nil pass0 I1 r q⟩
end
theorem calG_of {P : Program} {w : World} {K : PySem.W.Frag} {mg : Str → Option Value} {base : Heap} {k : Nat} {x : Str} {sp : Sp} {f : Addr} {fd : FuncData} {ps : List Str} (F : FnG P w K mg base CX0 k f fd ps sp) (m : mg x = some (.ref f)) (kp : PySem.W.keepIn K (.ref f) = true) (b : Binds K fd ps []) : CalG P w K mg base k x sp := ⟨f, fd, ps, F, m, kp, b⟩
def scrO (vs : List Value) : Obj := { cls := .type "list", data := .seq vs.toArray }
theorem law_from {P : Program} {w : World} {K : PySem.W.Frag} {mg mb : Str → Option Value} {k : Nat} {fa a : Addr} {fd : FuncData} {x : Str} {sp : Sp} {s : Shared} {vs : List Value} {H : Hp}
  (kin : K.In s.heap) (gns : s.heap.Ns mainGlobals mg) (bns : s.heap.Ns builtinsNs mb) (bok : ∀ x : Str, x ≠ "__name__" → mb x = bootBuiltins x) (nolim : s.heap.NoLimit) (nog : s.gens = #[]) (scr : s.heap.get? a = some (scrO vs)) (hr : RoomG k callerA)
  (F : ∀ base : Heap, K.In base → base.Ns mainGlobals mg → FnG P w K mg base CX0 k fa fd [x] sp) (hbind : ∀ (s : Shared) (u : Value), BindsTo s fd ⟨[u], []⟩ [(x, u)])
  (hsp : sp [.ref a] H (fun v _ => v = .bl true) fun _ _ _ => False) (hO : Only H) (hok : HOk P w H s.heap) (hA : ∀ b, H b ≠ none → b = a) (hK : H a ≠ none → K.lookup a = none) :
  codeAny (model P w) callerA (.call (.ref fa) ⟨[.ref a], []⟩) (fun r s2 => r = .ok (.ret (.bool true)) ∧ OldK s.heap s2.heap ∧ s2.os = s.os ∧ AllBare s2.gens) s := by
 have dfree : ∀ {b : Addr} {o : Obj} {es : Array DictEntry} {ep : Nat}, s.heap.get? b = some o → o.data = .dict es ep → H b = none := by
  intro b o es ep h1 h2
  cases q : H b with
  | none => rfl
  | some u =>
   have hb : b = a := hA b (by rw [q]; exact fun z => nomatch z)
   rw [hb, scr] at h1
   cases h1
   cases h2
 have nsH : ∀ {b : Addr} {m : Str → Option Value}, s.heap.Ns b m → (hidT s.heap H).Ns b m := by
  rintro b m ⟨o, es, ep, h1, h2, h3⟩
  exact ⟨o, es, ep, hidT_get h1 (dfree h1 h2), h2, h3⟩
 have kH : K.In (hidT s.heap H) := by
  intro b o h1
  refine hidT_get (kin b o h1) ?_
  cases q : H b with
  | none => rfl
  | some u =>
   have hb : b = a := hA b (by rw [q]; exact fun z => nomatch z)
   rw [hb] at h1 q
   rw [hK (by rw [q]; exact fun z => nomatch z)] at h1
   cases h1
 obtain ⟨mc, l1, l2⟩ := nolim
 have md : Mod K mg (hidT s.heap H) := ⟨kH, nsH gns, ⟨mb, nsH bns, bok⟩, ⟨mc, nsH l1, l2⟩⟩
 have env : Env0 P w K mg (hidT s.heap H) callerA [] s H := ⟨rfl, md, fun _ _ z => of_hidT z, Nat.le_of_eq (hidT_size _ _), trivial, fun b hb => (nomatch (show b ∈ ([] : List Addr) from hb)), hok, .of_eq nog⟩
 refine codeAny_mono ((F _ kH (nsH gns)).go callerA [] s H ⟨[.ref a], []⟩ [.ref a] [.ref a] _ _ hr env (hbind s (.ref a)) (.cons rfl .nil) hsp) fun r s2 h => ?_
 cases r with
 | error z => exact h.elim
 | ok fl =>
  cases fl with
  | ret u =>
   obtain ⟨v, H2, os, bare, un, hok2, rv, q⟩ := h
   have q1 : v = .bl true := q
   rw [q1] at rv
   have ru : u = Value.bool true := rv
   rw [ru]
   refine ⟨rfl, OldK.of_keep fun b o h1 => ?_, os, bare⟩
   rcases hO b with z | ⟨ob, xs, z⟩
   ·exact un.keep b o h1 z (fun y => nomatch (show b ∈ ([] : List Addr) from y)) (fun y => nomatch y)
   ·obtain ⟨g1, _⟩ := hok b _ z
    obtain ⟨g2, _⟩ := hok2 b _ (un.frzs b ob _ z)
    rw [h1] at g1
    cases g1
    exact g2
  | _ => exact h.elim
theorem law_run {P : Program} {w : World} {K : PySem.W.Frag} {mg mb : Str → Option Value} {k : Nat} {fa a : Addr} {fd : FuncData} {x : Str} {sp : Sp} {s : Shared} {vs : List Value} {ns : List Int}
  (kin : K.In s.heap) (gns : s.heap.Ns mainGlobals mg) (bns : s.heap.Ns builtinsNs mb) (bok : ∀ x : Str, x ≠ "__name__" → mb x = bootBuiltins x) (nolim : s.heap.NoLimit) (nog : s.gens = #[]) (scr : s.heap.get? a = some (scrO vs)) (hin : IntsAre vs ns) (small : ns.length ≤ sizeLine) (hr : RoomG k callerA)
  (F : ∀ base : Heap, K.In base → base.Ns mainGlobals mg → FnG P w K mg base CX0 k fa fd [x] sp) (hbind : ∀ (s : Shared) (u : Value), BindsTo s fd ⟨[u], []⟩ [(x, u)])
  (hsp : ∀ H : Hp, Only H → SqL K H a (ns.map V.int) → sp [.ref a] H (fun v _ => v = .bl true) fun _ _ _ => False) :
  codeAny (model P w) callerA (.call (.ref fa) ⟨[.ref a], []⟩) (fun r s2 => r = .ok (.ret (.bool true)) ∧ OldK s.heap s2.heap ∧ s2.os = s.os ∧ AllBare s2.gens) s := by
 have rel := vals_ints hin
 have ln := hin.length
 cases hk : K.lookup a with
 | none =>
  let H0 : Hp := fun b => if b = a then some (.frz (scrO vs) (.lst (ns.map V.int))) else none
  have at_a : H0 a = some (.frz (scrO vs) (.lst (ns.map V.int))) := if_pos rfl
  have off_a : ∀ b, b ≠ a → H0 b = none := fun b hb => if_neg hb
  have only : Only H0 := fun b => by
   by_cases hb : b = a
   ·rw [hb]; exact .inr ⟨_, _, at_a⟩
   ·exact .inl (off_a b hb)
  refine law_from (H := H0) kin gns bns bok nolim nog scr hr F hbind (hsp H0 only (.inl (.inr ⟨_, at_a⟩))) only (fun b u z => ?_) (fun b z => ?_) fun _ => hk
  ·by_cases hb : b = a
   ·subst hb
    rw [at_a] at z
    cases z
    exact ⟨scr, (by rw [List.length_map]; exact small), vs, _, rel, scr⟩
   ·rw [off_a b hb] at z
    cases z
  ·by_cases hb : b = a
   ·exact hb
   ·exact absurd (off_a b hb) z
 | some o =>
  have h1 := kin a o hk
  rw [scr] at h1
  cases h1
  refine law_from (H := fun _ => none) kin gns bns bok nolim nog scr hr F hbind (hsp _ (fun _ => .inl rfl) (.inr ⟨_, vs.toArray, _, hk, rfl, rfl, rfl, by rw [List.size_toArray, ln]; exact small, by simpa using rel⟩)) (fun _ => .inl rfl) (fun b u z => ?_) (fun b z => absurd rfl z) fun z => absurd rfl z
  have z2 : (none : Option HO) = some u := z
  cases z2
theorem walkG {l : PySem.W.OpenLaw} {n k : Nat} {q : Program} {loose : List Str} {XP : (Str → Option Value) → Heap → Prop} {YP : World → Heap → Prop} {d : DefRec} {x : Str} (hn : l.most = some n) (hn2 : n ≤ sizeLine) (hdf : d.params.defaults = []) (hr : Room k callerA)
  (F : ∀ (w : World) (mg : Str → Option Value) (fa : Addr) (h : Heap), YP w h → h.Ns mainGlobals mg → mg d.name = some (.ref fa) →
   ∃ (K : PySem.W.Frag) (fd : FuncData) (sp : Sp), K.In h ∧ (∀ (s : Shared) (u : Value), BindsTo s fd ⟨[u], []⟩ [(x, u)]) ∧
    (∀ (H : Hp) (a : Addr) (ns : List Int), ns.length ≤ n → SqL K H a (ns.map V.int) → sp [.ref a] H (fun v _ => v = .bl true) fun _ _ _ => False) ∧ ∀ base : Heap, K.In base → base.Ns mainGlobals mg → FnG l.prog w K mg base CX0 k fa fd [x] sp) :
  PySem.W.WalkO q loose XP YP l.row.toRowW d [] (fun f vs => PySem.call f vs) := by
 refine Att.attach_call hn hdf fun w s₀ s₁ mg mb fa o pm cd doc a vs ns G Y ho hd hcd hmg hobj hints hlen hg => ?_
 obtain ⟨K, fd, sp, kin, hb, hsp, hF⟩ := F w mg fa _ Y G.T.g hmg
 exact law_run kin G.T.g G.T.b G.T.builtins G.T.nolimit hg hobj hints (Nat.le_trans hlen hn2) ⟨hr, rfl⟩ hF hb fun H _ hS => hsp H a ns hlen hS
end SL
set_option Elab.async false
set_option linter.all false
set_option maxRecDepth 100000
set_option maxHeartbeats 2000000
namespace SL
open PySem PySem.Spec PyProof.Rows L2
def isSc : V → Bool
 | .int _ | .str _ | .bl _ | .non => true
 | _ => false
def scD : V → PyData
 | .int i => .int i
 | .str x => .str x
 | .bl b => .bool b
 | _ => .none
def keyD : Key → PyData
 | .inl i => .int i
 | .inr x => .str x
def kvD (kvs : List (Key × V)) : PyData := .dict (kvs.map fun kv => (keyD kv.1, scD kv.2))
theorem sc_reads {h : Heap} {x : V} {u : Value} (s : isSc x = true) (r : RelV x u) : Reads h u (scD x) [] := by
 cases x with
 | int i => obtain ⟨t, rfl⟩ := r; exact .int i t
 | str i => obtain ⟨t, rfl⟩ := r; exact .str i t
 | bl b => cases r; exact .bool b
 | non => cases r; exact .none
 | _ => cases s
theorem key_reads {h : Heap} {k : Key} {u : Value} (r : keyIs k u = true) : Reads h u (keyD k) [] := by
 rcases keyIs_shape r with ⟨i, t, rfl, rfl⟩ | ⟨x, t, rfl, rfl⟩
 ·exact .int i t
 ·exact .str x t
theorem pairs_reads {P : Program} {w : World} {h : Heap} : ∀ {es : List DictEntry} {kvs : List (Key × V)} {vs : List (Key × Value)}, Pairs (mixKind P w) es vs → KV kvs vs → (∀ kv ∈ kvs, isSc kv.2 = true) →
  ReadsAll h (es.map (·.key)) ((kvs.map fun kv => (keyD kv.1, scD kv.2)).map (·.1)) [] ∧ ReadsAll h (es.map (·.val)) ((kvs.map fun kv => (keyD kv.1, scD kv.2)).map (·.2)) []
 | _, _, _, .nil, .nil, _ => ⟨.nil, .nil⟩
 | en :: _, (k, v) :: r, kv2 :: _, .cons h1 h2 h3, .cons g1 g2, hs => by
  obtain ⟨i1, i2⟩ := pairs_reads (h := h) h3 g2 fun kv z => hs kv (List.mem_cons_of_mem _ z)
  obtain ⟨e1, e2⟩ := g1
  have e3 : keyIs k en.key = true := by
   have e4 : k = kv2.1 := e1
   rw [e4]; exact h1
  have r1 : RelV v kv2.2 := e2
  rw [← h2] at r1
  exact ⟨.cons (key_reads e3) i1, .cons (sc_reads (hs _ List.mem_cons_self) r1) i2⟩
def rReprD (K : PySem.W.Frag) : List V → Hp → VK → Prop := fun xs H Q => ∃ (p : Addr) (d : PyData), xs = [.ref p] ∧ (Dp K H (.ref p) d ∨ ∃ kvs, H p = some (.dK kvs) ∧ (∀ kv ∈ kvs, isSc kv.2 = true) ∧ d = kvD kvs) ∧
 d.showable = true ∧ d.depth ≤ 50 ∧ d.shown.length ≤ sizeLine ∧ Q (.str d.shown) H
mutual
theorem dp_nodict {K : PySem.W.Frag} {H : Hp} : ∀ {v : V} {d : PyData}, Dp K H v d → d.hasDict = false
 | _, _, .non => by simp only [PyData.hasDict]
 | _, _, .bl _ => by simp only [PyData.hasDict]
 | _, _, .int _ => by simp only [PyData.hasDict]
 | _, _, .str _ => by simp only [PyData.hasDict]
 | _, _, .lst _ h => by simp only [PyData.hasDict]; exact dpa_nodict h
 | _, _, .tup _ h => by simp only [PyData.hasDict]; exact dpa_nodict h
theorem dpa_nodict {K : PySem.W.Frag} {H : Hp} : ∀ {vs : List V} {ds : List PyData}, DpAll K H vs ds → PyData.hasDictAll ds = false
 | _, _, .nil => by simp only [PyData.hasDictAll]
 | _, _, .cons h hs => by simp only [PyData.hasDictAll, dp_nodict h, dpa_nodict hs, Bool.or_self]
end
section
variable {X : Cx} {k : Nat}
theorem call_reprD (hr : RoomG k X.A) : CallR X (.builtin "repr") (rReprD X.K) := by
 intro pins s σ H xs us Q I r h
 obtain ⟨p, d, rfl, hd, hs, hdep, hsz, q⟩ := h
 obtain ⟨u, rfl, r1⟩ := vals1 r
 have hu : X.A.units + (d.depth + 1) < cLine := by have := hr.units; omega
 rcases hd with hd | ⟨kvs, hp, hsc, rfl⟩
 ·cases r1
  obtain ⟨as, hR⟩ := Dp.reads I d _ _ hd (show RelV (.ref p) (.ref p) from rfl)
  exact repr_of_reads' hR hs (fun z => by rw [dp_nodict hd] at z; cases z) hr.gd hu (fun _ _ z => z) (fun h' u tk hk => ⟨.str _, H, I.kept (t' := tk) hk, ⟨u, rfl⟩, q⟩) hsz
 ·cases r1
  obtain ⟨_, y, vs, rk, o, es, ep, e, ex, hdat, _, pr, _⟩ := I.hok p _ hp
  obtain ⟨i1, i2⟩ := pairs_reads (h := s.heap) pr rk hsc
  have hR : Reads s.heap (.ref p) (kvD kvs) (p :: [] ++ []) := .dict e ex.1 hdat i1 i2
  refine repr_of_reads' hR hs (fun _ z => ?_) hr.gd hu (fun _ _ z => z) (fun h' u tk hk => ⟨.str _, H, I.kept (t' := tk) hk, ⟨u, rfl⟩, q⟩) hsz
  have z1 : sysModules = p := by simpa using z
  rw [← z1] at y
  simp at y
def uReprG (K : PySem.W.Frag) : List V → Hp → VK → Prop := fun xs H Q => uRepr xs H Q ∨ rReprD K xs H Q
theorem callu_reprG (hr : RoomG k X.A) : CallR X (.builtin "repr") (uReprG X.K) := callu_repr.or (call_reprD hr)
end
section
variable {K : PySem.W.Frag} {H : Hp} {Q : VK} {x : V}
theorem g_reprS (h : shortV x) (q : Q (.str (shownV x)) H) : uReprG K [x] H Q := .inl ⟨x, rfl, h, q⟩
theorem g_dget {td ty : TE} {σ : L2.St} (q : td σ H fun x H1 => ty σ H1 fun y H2 => ∃ a v, x = .ref a ∧ DGet H2 a y (some v) ∧ Q v H2) : tDGet td ty σ H Q := q
theorem g_dgetS {A : V → Prop} {p : Addr} {kvs : List (Key × V)} {z : Str} {v : V} (h : H p = some (.dK kvs)) (e : valV kvs (Sum.inr z) = some v) (q : A v) : ∃ a w, V.ref p = .ref a ∧ DGet H a (.str z) (some w) ∧ A w := by
 have g := DGet.k (k := (Sum.inr z : Key)) h
 rw [e] at g
 exact ⟨p, v, rfl, g, q⟩
theorem g_dnewK {σ : L2.St} (q : ∀ p, H p = none → Q (.ref p) (upd H p (.dK []))) : tDNewK σ H Q := q
end
end SL
namespace SL
open PySem PySem.Spec PyProof.Rows L2
section
variable {X : Cx} {K : PySem.W.Frag}
theorem kOp {r : PySem.W.Frag → R2} {f : Value → Value → Sem Value} (e : X.K = K) (h : OpR X f (r X.K)) : OpR X f (r K) := e ▸ h
theorem kIx {r : PySem.W.Frag → R2} (e : X.K = K) (h : IxR X (r X.K)) : IxR X (r K) := e ▸ h
theorem kSl {r : PySem.W.Frag → V → Option Int → Option Int → Hp → VK → Prop} (e : X.K = K) (h : SlR X (r X.K)) : SlR X (r K) := e ▸ h
theorem kCall {r : PySem.W.Frag → List V → Hp → VK → Prop} {f : Value} (e : X.K = K) (h : CallR X f (r X.K)) : CallR X f (r K) := e ▸ h
theorem kMt {r : PySem.W.Frag → V → List V → Hp → VK → Prop} {id : String} (e : X.K = K) (h : MtR X id (r X.K)) : MtR X id (r K) := e ▸ h
variable {a b : Expr} {rest es : List Expr} {ta tb te : TE} {tgs : TGs} {pos : Pos} {tg : Expr} {n k : Nat}
theorem pe_andTK (e : X.K = K) (ha : PE X a ta) (hb : PE X (.BoolOp .And (b :: rest) pos) tb) : PE X (.BoolOp .And (a :: b :: rest) pos) (tAndT K ta tb) := by subst e; exact pe_andT ha hb
theorem pe_orTK (e : X.K = K) (ha : PE X a ta) (hb : PE X (.BoolOp .Or (b :: rest) pos) tb) : PE X (.BoolOp .Or (a :: b :: rest) pos) (tOrT K ta tb) := by subst e; exact pe_orT ha hb
theorem pe_notTK (e : X.K = K) (ha : PE X a ta) : PE X (.UnaryOp .Not a pos) (tNotT K ta) := by subst e; exact pe_notT ha
theorem pi_listK (e : X.K = K) (h : PE X a ta) : PI X tg a (iList K ta) := by subst e; exact pi_list h
theorem pi_tupK (e : X.K = K) (h : PE X a ta) : PI X tg a (iTup K ta) := by subst e; exact pi_tup h
theorem pg_tupK (e : X.K = K) (hc : X.calm = true) (h : PGs X es tgs) (hn : (assignEach es X.env).length = n := by rfl) (hst : (assignEach es X.env).findIdx? (·.1) = none := by rfl) : PG X (.Tuple es k pos) (gTup K n tgs) := by subst e; exact pg_tup hc h hn hst
end
end SL
namespace SL
open PySem PySem.Spec PyProof.Rows L2
def uTuple (K : PySem.W.Frag) : List V → Hp → VK → Prop := fun xs H Q => ∃ p ys, xs = [.ref p] ∧ ((SqL K H p ys ∧ ∀ l, H l = none → Q (.ref l) (upd H l (.tup ys))) ∨ (SqT K H p ys ∧ Q (.ref p) H))
theorem callu_tuple {X : Cx} : CallR X (.type "tuple") (uTuple X.K) := call_tuple_of
section
variable {K : PySem.W.Frag} {H : Hp} {Q : VK}
theorem g_tupleL {p : Addr} {ys : List V} (h : SqL K H p ys) (q : ∀ l, H l = none → Q (.ref l) (upd H l (.tup ys))) : uTuple K [.ref p] H Q := ⟨p, ys, rfl, .inl ⟨h, q⟩⟩
end
end SL
namespace SL
open PySem PySem.Spec PyProof.Rows L2
section
variable {X : Cx} {K : PySem.W.Frag} {ex : Expr} {T : String} {rb : V → List V → Hp → VK → Prop} {to : TE} {tl : TA} {σ : L2.St} {H : Hp} {Q : VK}
theorem kBM (e : X.K = K) (h : PE X ex (tBM X.K T rb to tl)) : PE X ex (tBM K T rb to tl) := e ▸ h
theorem g_bm (q : to σ H fun x H1 => tyV K T x H1 ∧ tl σ H1 fun xs H2 => rb x xs H2 Q) : tBM K T rb to tl σ H Q := q
theorem g_bm0 (q : to σ H fun x H1 => tyV K T x H1 ∧ rb x [] H1 Q) : tBM0 K T rb to σ H Q := q
theorem g_tyS {A : Prop} {z : Str} (q : A) : tyV K "str" (.str z) H ∧ A := ⟨rfl, q⟩
theorem g_tyL {A : Prop} {p : Addr} {xs : List V} (h : SqL K H p xs) (q : A) : tyV K "list" (.ref p) H ∧ A := ⟨.inl ⟨rfl, xs, h⟩, q⟩
end
end SL
namespace SL
open PySem PySem.Spec PyProof.Rows L2
theorem valV_out {κ : Type} [DecidableEq κ] {k : κ} : ∀ {kvs : List (κ × V)}, k ∉ kvs.map (·.1) → valV kvs k = none
 | [], _ => rfl
 | p :: r, h => by
  rw [valV_neg fun e => h (by rw [← e]; exact List.mem_cons_self)]
  exact valV_out fun z => h (List.mem_cons_of_mem _ z)
theorem mergeK_nd : ∀ {kvs acc : List (Key × V)}, ((acc ++ kvs).map (·.1)).Nodup → mergeK acc kvs = acc ++ kvs
 | [], acc, _ => (List.append_nil acc).symm
 | p :: r, acc, h => by
  have h1 : p.1 ∉ acc.map (·.1) := fun z => by
   rw [List.map_append, List.nodup_append] at h
   exact h.2.2 p.1 z p.1 (List.mem_cons_self ..) rfl
  show mergeK (putK acc p.1 p.2) r = acc ++ p :: r
  rw [putK_new _ (valV_out h1)]
  have e : acc ++ p :: r = (acc ++ [(p.1, p.2)]) ++ r := by simp
  rw [e] at h ⊢
  exact mergeK_nd h
section
variable {K : PySem.W.Frag} {σ : L2.St} {H : Hp} {Q : VK} {tk tv : TE} {trs : List (TE × TE)} {A : List (V × V) → Hp → Prop}
theorem g_disp (q : ∀ p, H p = none → tPairs trs σ (upd H p (.dK [])) fun ps H2 => H2 p = some (.dK []) ∧ ∃ kvs : List (Key × V), ps = kvs.map (fun kv => (kV kv.1, kv.2)) ∧ kvs.length ≤ 15 ∧ Q (.ref p) (upd H2 p (.dK (mergeK [] kvs)))) : tDisp trs σ H Q := q
theorem g_pairs (q : tk σ H fun x H1 => tv σ H1 fun y H2 => tPairs trs σ H2 fun ps H3 => A ((x, y) :: ps) H3) : tPairs ((tk, tv) :: trs) σ H A := q
theorem g_pairs0 (q : A [] H) : tPairs [] σ H A := q
end
end SL
set_option Elab.async false
set_option linter.all false
set_option maxRecDepth 100000
set_option maxHeartbeats 2000000
namespace SL
open PySem PySem.Spec PyProof.Rows L2
section
variable {P : Program} {w : World} {K : PySem.W.Frag} {mg : Str → Option Value} {base : Heap} {f : Addr} {fd : FuncData} {ps : List Str} {x : Str} {sp : Nat → Sp}
theorem calG_rec (b : Nat) (z : ∀ vs H Q E, ¬ sp 0 vs H Q E) (m : mg x = some (.ref f)) (kp : PySem.W.keepIn K (.ref f) = true) (bb : Binds K fd ps [])
  (st : ∀ n, CalG P w K mg base (b + n) x (sp n) → FnG P w K mg base CX0 (b + n + 1) f fd ps (sp (n + 1))) : ∀ n, CalG P w K mg base (b + n) x (sp n)
 | 0 => calG_of ⟨fun vs H Q E h => absurd h (z _ _ _ _), fun _ _ _ _ _ _ _ _ _ _ _ _ _ h => absurd h (z _ _ _ _)⟩ m kp bb
 | n + 1 => calG_of (st n (calG_rec b z m kp bb st n)) m kp bb
theorem calG_rec0 (z : ∀ vs H Q E, ¬ sp 0 vs H Q E) (m : mg x = some (.ref f)) (kp : PySem.W.keepIn K (.ref f) = true) (bb : Binds K fd ps [])
  (st : ∀ n, CalG P w K mg base n x (sp n) → FnG P w K mg base CX0 (n + 1) f fd ps (sp (n + 1))) : ∀ n, CalG P w K mg base n x (sp n)
 | 0 => calG_of ⟨fun vs H Q E h => absurd h (z _ _ _ _), fun _ _ _ _ _ _ _ _ _ _ _ _ _ h => absurd h (z _ _ _ _)⟩ m kp bb
 | n + 1 => calG_of (st n (calG_rec0 z m kp bb st n)) m kp bb
end
end SL
set_option Elab.async false
set_option linter.all false
set_option maxRecDepth 100000
set_option maxHeartbeats 2000000
namespace SL
open PySem PySem.Spec PyProof.Rows L2
section
variable {X : Cx} {K : PySem.W.Frag} {σ : L2.St} {H : Hp} {Q : VK} {x y : V}
def tFs (ts : List TE) : TE := fun σ H Q => tJs ts Str.empty σ H fun out H1 => Q (.str out) H1
theorem pe_fs {v1 v2 : Expr} {rest : List Expr} {ts : List TE} {pos : Pos} (h : PJ X (v1 :: v2 :: rest) ts) : PE X (.JoinedStr (v1 :: v2 :: rest) pos) (tFs ts) := pe_joined h
theorem g_fs {ts : List TE} (q : tJs ts Str.empty σ H fun out H1 => Q (.str out) H1) : tFs ts σ H Q := q
theorem g_js0 {acc : Str} {A : Str → Hp → Prop} (q : A acc H) : tJs [] acc σ H A := q
theorem g_js {t : TE} {ts : List TE} {acc : Str} {A : Str → Hp → Prop} (q : t σ H fun x H1 => ∃ y : Str, x = .str y ∧ (acc ++ y).length ≤ sizeLine ∧ tJs ts (acc ++ y) σ H1 A) : tJs (t :: ts) acc σ H A := q
theorem g_fmt {te : TE} (q : te σ H fun x H1 => (∃ y : Str, x = .str y ∧ y.length ≤ sizeLine ∧ Q (.str y) H1) ∨ ∃ i : Int, x = .int i ∧ i.natAbs.log2 < 1920 ∧ Q (.str (toString i)) H1) : tFmt te σ H Q := q
theorem g_fmtS {z : Str} {A : Str → Prop} {B : Prop} (h : z.length ≤ sizeLine) (q : A z) : (∃ y : Str, V.str z = .str y ∧ y.length ≤ sizeLine ∧ A y) ∨ B := .inl ⟨z, rfl, h, q⟩
theorem g_jsS {z acc : Str} {A : Str → Prop} (h : (acc ++ z).length ≤ sizeLine) (q : A z) : ∃ y : Str, V.str z = .str y ∧ (acc ++ y).length ≤ sizeLine ∧ A y := ⟨z, rfl, h, q⟩
theorem app_len {a b : Str} : (a ++ b).length = a.length + b.length := Array.size_append
theorem lit_q : ("'" : Str).length = 1 := by decide +kernel
theorem lit_lp : ("(" : Str).length = 1 := by decide +kernel
theorem lit_rp : (")" : Str).length = 1 := by decide +kernel
theorem lit_sp : (" " : Str).length = 1 := by decide +kernel
theorem lit_cs : (", " : Str).length = 2 := by decide +kernel
theorem lit_not : ("not " : Str).length = 4 := by decide +kernel
theorem lit_is : (" is " : Str).length = 4 := by decide +kernel
theorem lit_if : (" if " : Str).length = 4 := by decide +kernel
theorem lit_e : Str.empty.length = 0 := by decide +kernel
theorem lit_dot : ("." : Str).length = 1 := by decide +kernel
def rJoin (K : PySem.W.Frag) : V → List V → Hp → VK → Prop := fun x xs H Q => ∃ a p, ∃ ys : List Str, x = .str a ∧ xs = [.ref p] ∧ (SqL K H p (ys.map V.str) ∨ SqT K H p (ys.map V.str)) ∧
 (ys.map (·.length)).sum + ys.length * a.length ≤ 16777216 ∧ Q (.str (Txt.join a ys)) H
theorem mt_joinU : MtR X "str.join" (rJoin X.K) := mt_join
def uStr : List V → Hp → VK → Prop := fun xs H Q => (∃ i, xs = [.int i] ∧ i.natAbs.log2 < 1920 ∧ Q (.str (toString i)) H) ∨ ∃ a, xs = [.str a] ∧ Q (.str a) H
theorem callu_str : CallR X (.type "str") uStr := call_str_int.or SkE.call_str_str
def uInt : List V → Hp → VK → Prop := fun xs H Q => (∃ i, xs = [.int i] ∧ Q (.int i) H) ∨ ∃ k, xs = [.bl k] ∧ Q (.int (if k then 1 else 0)) H
theorem callu_int : CallR X (.type "int") uInt := call_int1
theorem g_strI {i : Int} (h : i.natAbs.log2 < 1920) (q : Q (.str (toString i)) H) : uStr [.int i] H Q := .inl ⟨i, rfl, h, q⟩
theorem g_intB {k : Bool} (q : Q (.int (if k then 1 else 0)) H) : uInt [.bl k] H Q := .inr ⟨k, rfl, q⟩
def uIs : R2 := fun x y H Q => y = .non ∧ Q (.bl (decide (x = .non))) H
def uIsNot : R2 := fun x y H Q => y = .non ∧ Q (.bl (!decide (x = .non))) H
theorem opu_is : OpR X (compareOp .Is) uIs := op_isN
theorem g_is (q : Q (.bl (decide (x = .non))) H) : uIs x .non H Q := ⟨rfl, q⟩
theorem g_isNot (q : Q (.bl (!decide (x = .non))) H) : uIsNot x .non H Q := ⟨rfl, q⟩
theorem g_slS {z : Str} {lo hi : Option Int} (h : z.length ≤ sizeLine) (q : Q (.str (cutS z lo hi)) H) : rSlS (.str z) lo hi H Q := ⟨z, rfl, h, q⟩
theorem g_inS {a b : Str} (q : Q (.bl (!(Builtin.Str.occurrences b a 0 b.length 1).isEmpty)) H) : uIn K (.str a) (.str b) H Q := q
theorem g_notInS {a b : Str} (q : Q (.bl (!(!(Builtin.Str.occurrences b a 0 b.length 1).isEmpty))) H) : uNotIn K (.str a) (.str b) H Q := q
theorem g_inT {z : Str} {p : Addr} {xs : List V} (h : SqL K H p xs ∨ SqT K H p xs) (h2 : xs.all flatV = true) (q : Q (.bl (inV (.str z) xs)) H) : uIn K (.str z) (.ref p) H Q := ⟨p, xs, rfl, h, rfl, h2, q⟩
theorem g_notInT {z : Str} {p : Addr} {xs : List V} (h : SqL K H p xs ∨ SqT K H p xs) (h2 : xs.all flatV = true) (q : Q (.bl (!inV (.str z) xs)) H) : uNotIn K (.str z) (.ref p) H Q := ⟨p, xs, rfl, h, rfl, h2, q⟩
theorem inV_str (z : Str) (ws : List Str) : inV (.str z) (ws.map V.str) = decide (z ∈ ws) := by
 induction ws with
 | nil => rfl
 | cons w r ih =>
  unfold inV at ih ⊢
  rw [List.map_cons, List.any_cons, ih]
  by_cases h : z = w
  ·subst h
   simp [eqV]
  ·have : decide (V.str z = V.str w) = false := decide_eq_false fun e => h (V.str.inj e)
   simp [eqV, h, Ne.symm h]
theorem flat_strs (ws : List Str) : (ws.map V.str).all flatV = true := by
 induction ws with
 | nil => rfl
 | cons w r ih => rw [List.map_cons, List.all_cons, ih]; rfl
theorem g_dget2 {td ty tx : TE} (q : td σ H fun x H1 => ∃ a, x = .ref a ∧ IsD H1 a ∧ ty σ H1 fun y H2 => tx σ H2 fun z H3 => ∃ o, DGet H3 a y o ∧ Q (o.getD z) H3) : tDGet2 td ty tx σ H Q := q
end
def WD (K : PySem.W.Frag) (w : World) (a : Addr) (kvs : List (Str × Option V)) : Prop := (∃ es n, KDict K w a es n) ∧ ∀ p ∈ kvs, ∃ r, PySem.W.nsIn K a p.1 = some r ∧ RelO p.2 r
def tKGet2 (K : PySem.W.Frag) (w : World) (td ty tx : TE) : TE := fun σ H Q => td σ H fun x H1 => ∃ a kvs, x = .ref a ∧ WD K w a kvs ∧ ty σ H1 fun y H2 => tx σ H2 fun z H3 => ∃ k o, y = .str k ∧ (k, o) ∈ kvs ∧ Q (o.getD z) H3
def rIxW (K : PySem.W.Frag) (w : World) : R2 := fun x y H Q => ∃ a kvs k v, x = .ref a ∧ y = .str k ∧ WD K w a kvs ∧ (k, some v) ∈ kvs ∧ Q v H
section
variable {X : Cx} {o e f : Expr} {apos cpos : Pos} {td ty tx : TE}
theorem wd_none {h : Heap} {K : PySem.W.Frag} {w : World} {P : Program} {a : Addr} {es : Array DictEntry} {n : Nat} (X : K.In h) (D : KDict K w a es n) : ∃ ob, h.get? a = some ob ∧ ob.dict = none := ⟨_, X _ _ D.at_, rfl⟩
theorem pe_kget2 (ho : PE X o td) (he : PE X e ty) (hf : PE X f tx) (m : M2 X o "get" apos e f cpos) : PE X (.Call (.Attribute o "get" apos) [e, f] [] cpos) (tKGet2 X.K X.w td ty tx) := by
 refine ⟨fun pins s σ H Q I h => ?_⟩
 refine wpAny_Call_method m.base m.few m.line PySem.F.plainAttrs_dict PySem.F.slot_dict_get PySem.F.type_dict_get (thn (ho.run pins s σ H _ I h) fun u s1 ⟨x, H1, I1, rx, a, kvs, ex, wd, q1⟩ => ?_)
 subst ex
 obtain rfl : u = Value.ref a := rx
 obtain ⟨⟨es, n, D⟩, hv⟩ := wd
 refine ⟨kd_type D I1, fun b q => ?_, ?_⟩
 ·cases q
  exact wd_none (P := X.prog) I1.kIn D
 rw [m.trees]
 refine Calls.callWith_builtin rfl (Calls.evalArgs_plain (Calls.spliced_cons (thn (he.run pins s1 σ H1 _ I1 q1) fun iv s2 ⟨y, H2, I2, ry, q2⟩ =>
  Calls.spliced_cons (thn (hf.run pins s2 σ H2 _ I2 q2) fun fv s3 ⟨z, H3, I3, rz, k, ov, ey, hm, q3⟩ => Calls.spliced_nil ?_))))
 subst ey
 obtain ⟨t, rfl⟩ := (show ∃ t, iv = Value.str k t from ry)
 obtain ⟨r, e1, e2⟩ := hv _ hm
 refine call_meetsIn PySem.F.slot_dict_get (kd_type D I3) PySem.F.entry_dict_get (PySem.F.args_dict_get_3 _ _ _) (meets_dict_get_default (strKind X.prog X.w) a (strKind_is X.prog X.w k t) D.low fv) ⟨_, PySem.W.mapOf_K (prog := X.prog) I3.kIn D.at_ D.lit, ?_⟩
 refine ⟨ov.getD z, H3, I3.tok _, ?_, q3⟩
 rw [PySem.W.find_K D.at_ e1]
 cases ov with
 | none =>
  cases e2.none_of
  exact rz
 | some v =>
  obtain ⟨u, eu, ru⟩ := e2.some_of
  rw [eu]
  exact ru
theorem ix_wd : IxR X (rIxW X.K X.w) := by
 intro value slice pins s σ H x y v u Q I rx ry h hs
 obtain ⟨p, kvs, z, r, ex, ey, ⟨⟨es, n, D⟩, hv⟩, hm, q⟩ := h
 obtain ⟨r', e1, e2⟩ := hv _ hm
 obtain ⟨u0, eu, ru⟩ := e2.some_of
 rw [eu] at e1
 exact ix_kdict value slice pins s σ H x y v u Q I rx ry ⟨p, z, r, ex, ey, ⟨es, n, u0, D.at_, D.lit, e1, ru⟩, q⟩ hs
end
theorem kIxW {X : Cx} {K : PySem.W.Frag} {w : World} (e : X.K = K) (e2 : X.w = w) (h : IxR X (rIxW X.K X.w)) : IxR X (rIxW K w) := by subst e e2; exact h
section
variable {K : PySem.W.Frag} {w : World} {H : Hp} {Q : VK} {σ : L2.St}
theorem g_kget2 {td ty tx : TE} (q : td σ H fun x H1 => ∃ a kvs, x = .ref a ∧ WD K w a kvs ∧ ty σ H1 fun y H2 => tx σ H2 fun z H3 => ∃ k o, y = .str k ∧ (k, o) ∈ kvs ∧ Q (o.getD z) H3) : tKGet2 K w td ty tx σ H Q := q
theorem g_ixW {a : Addr} {kvs : List (Str × Option V)} {k : Str} {v : V} (h : WD K w a kvs) (hm : (k, some v) ∈ kvs) (q : Q v H) : rIxW K w (.ref a) (.str k) H Q := ⟨a, kvs, k, v, rfl, rfl, h, hm, q⟩
end
def wdB (K : PySem.W.Frag) (a : Addr) (kvs : List (Str × Option He.Dv)) : Bool := kvs.all fun q => match PySem.W.nsIn K a q.1 with
 | some (some u) => (match q.2 with
  | some v => He.relB (v.v K) u
  | none => false)
 | some none => q.2.isNone
 | none => false
theorem wd_of {K : PySem.W.Frag} {w : World} {a : Addr} {kvs : List (Str × Option He.Dv)} {es : Array DictEntry} {n : Nat} (D : KDict K w a es n) (h : wdB K a kvs = true) : WD K w a (kvs.map fun q => (q.1, q.2.map (He.Dv.v K))) := by
 refine ⟨⟨es, n, D⟩, fun p hp => ?_⟩
 obtain ⟨q, hq, rfl⟩ := List.mem_map.mp hp
 have h2 := List.all_eq_true.mp h q hq
 cases e : PySem.W.nsIn K a q.1 with
 | none => rw [e] at h2; cases h2
 | some r =>
  rw [e] at h2
  refine ⟨r, rfl, ?_⟩
  obtain ⟨qk, qo⟩ := q
  cases r with
  | none =>
   cases qo with
   | none => trivial
   | some v => cases h2
  | some u =>
   cases qo with
   | none => cases h2
   | some v => exact He.relB_ok h2
end SL
set_option Elab.async false
set_option linter.all false
set_option maxRecDepth 100000
set_option maxHeartbeats 2000000
namespace SL
open PySem PySem.Spec PyProof.Rows L2
theorem lc_map {J : It} {n : Nat} {G : Hp → Prop} {xs ys : List V} (w : Walk J n G (YAt xs)) {g : TG} {te : TE} {vs : List Nat} {σ : L2.St} {H1 : Hp} {D : Addr} {Qd : Hp → Prop} (hG : ∀ H', Fr [] H1 H' → G H') (hn : xs.length = n) (hy : ys.length = n) (hz : n ≤ 10000) (hD : H1 D = none)
  (body : ∀ (i : Nat) (x y : V) (H' : Hp) (A : V → Hp → Prop), xs[i]? = some x → ys[i]? = some y → Fr [] H1 H' → (∀ H4, Fr [] H' H4 → A y H4) → g x (wipe σ vs) H' fun σ2 H2 => wipe σ2 vs = wipe σ vs ∧ te σ2 H2 A)
  (fin : ∀ H', Fr [] H1 H' → H' D = some (.lst ys) → Qd H') :
  ∃ W : Nat → Nat → Hp → Prop, (∃ m, W 0 m (upd H1 D (.lst []))) ∧ ∀ i m H, W i m H →
   (J.stop i H ∧ Qd H) ∨ (J.go i H ∧ ∃ Nx : Hp → Prop, (∀ H', Nx H' → ∃ m', m' < m ∧ W (i + 1) m' H') ∧ ∀ x H', J.yld i H x H' → g x (wipe σ vs) H' fun σ2 H2 => wipe σ2 vs = wipe σ vs ∧ tYes σ2 H2 fun b H3 =>
    if b = true then te σ2 H3 fun y H4 => ∃ acc, H4 D = some (.lst acc) ∧ acc.length < sizeLine ∧ Nx (upd H4 D (.lst (acc ++ [y]))) else Nx H3) := by
 subst hn
 refine lc_it w (fun i H' => Fr [] H1 H' ∧ H' D = some (.lst (ys.take i))) ⟨Fr.new hD, by rw [List.take_zero]; exact upd_same⟩ (fun i H' _ h => hG H' h.1) (fun i x H' H'' hi h y => ?_) (fun H' h => ?_)
 ·obtain ⟨rfl, hx⟩ := y
  obtain ⟨h1, h2⟩ := h
  have hi2 : i < ys.length := by omega
  exact body i x ys[i] H'' _ hx (List.getElem?_eq_getElem hi2) h1 fun H4 e4 => ⟨_, e4.at h2 (fun z => nomatch z), lt_of (by rw [List.length_take]; omega), (h1.trans e4).over hD, by rw [upd_same, List.take_succ, List.getElem?_eq_getElem hi2]; rfl⟩
 ·exact fin H' h.1 (by rw [h.2, ← hy, List.take_length])
theorem tls_get {α : Type} {f : α → Str} {xs : List α} {i : Nat} {x : α} (h : xs[i]? = some x) : ((xs.map f).map V.str)[i]? = some (.str (f x)) := by
 rw [List.getElem?_map, List.getElem?_map, h]
 rfl
theorem tda_get {α : Type} {K : PySem.W.Frag} {H : Hp} {f : α → PyData} : ∀ {xs : List α} {vs : List V}, TdAll K H vs (xs.map f) → vs.length = xs.length ∧ ∀ (i : Nat) (v : V), vs[i]? = some v → ∃ x, xs[i]? = some x ∧ Td K H v (f x)
 | [], vs, h => by cases h.nil_inv; exact ⟨rfl, fun i x e => by simp at e⟩
 | y :: r, vs, h => by
  obtain ⟨v, ws, rfl, h1, h2⟩ := TdAll.cons_inv (show TdAll K H vs (f y :: r.map f) from h)
  obtain ⟨k1, k2⟩ := tda_get h2
  refine ⟨by simp [k1], fun i x e => ?_⟩
  cases i with
  | zero =>
   simp only [List.getElem?_cons_zero, Option.some.injEq] at e
   subst e
   exact ⟨y, rfl, h1⟩
  | succ j =>
   simp only [List.getElem?_cons_succ] at e
   exact k2 j x e
theorem tda_mk {α : Type} {K : PySem.W.Frag} {H : Hp} {f : α → PyData} : ∀ {xs : List α} {vs : List V}, vs.length = xs.length → (∀ (i : Nat) (x : α) (v : V), xs[i]? = some x → vs[i]? = some v → Td K H v (f x)) → TdAll K H vs (xs.map f)
 | [], [], _, _ => .nil
 | [], _ :: _, h, _ => by cases h
 | _ :: _, [], h, _ => by cases h
 | x :: r, v :: ws, h, k => .cons (k 0 x v rfl rfl) (tda_mk (Nat.succ.inj h) fun i y u e1 e2 => k (i + 1) y u e1 e2)
theorem lc_td {α : Type} {f : α → PyData} {T : α → Str} {as : List α} {K : PySem.W.Frag} {J : It} {n : Nat} {G : Hp → Prop} {xs : List V} (w : Walk J n G (YAt xs)) {g : TG} {te : TE} {vs : List Nat} {σ : L2.St} {H1 : Hp} {D : Addr} {Qd : Hp → Prop} (hG : ∀ H', Fr [] H1 H' → G H') (hn : xs.length = n)
  (hx : TdAll K H1 xs (as.map f)) (hz : as.length ≤ 10000) (hD : H1 D = none)
  (body : ∀ (x : V) (c : α) (H' : Hp) (A : V → Hp → Prop), c ∈ as → Td K H' x (f c) → Fr [] H1 H' → (∀ H4, Fr [] H' H4 → A (.str (T c)) H4) → g x (wipe σ vs) H' fun σ2 H2 => wipe σ2 vs = wipe σ vs ∧ te σ2 H2 A)
  (fin : ∀ H', Fr [] H1 H' → H' D = some (.lst ((as.map T).map V.str)) → Qd H') :
  ∃ W : Nat → Nat → Hp → Prop, (∃ m, W 0 m (upd H1 D (.lst []))) ∧ ∀ i m H, W i m H →
   (J.stop i H ∧ Qd H) ∨ (J.go i H ∧ ∃ Nx : Hp → Prop, (∀ H', Nx H' → ∃ m', m' < m ∧ W (i + 1) m' H') ∧ ∀ x H', J.yld i H x H' → g x (wipe σ vs) H' fun σ2 H2 => wipe σ2 vs = wipe σ vs ∧ tYes σ2 H2 fun b H3 =>
    if b = true then te σ2 H3 fun y H4 => ∃ acc, H4 D = some (.lst acc) ∧ acc.length < sizeLine ∧ Nx (upd H4 D (.lst (acc ++ [y]))) else Nx H3) := by
 obtain ⟨k1, k2⟩ := tda_get hx
 refine lc_map w hG hn (by rw [List.length_map, List.length_map]; omega) (by omega) hD (fun i x y H' A ex ey e k => ?_) fin
 obtain ⟨c, hc, hd⟩ := k2 i x ex
 rw [tls_get hc] at ey
 cases ey
 exact body x c H' A (List.mem_of_getElem? hc) (hd.fr e) e k
theorem sum_len {ts : List Str} {n : Nat} (h : ∀ t ∈ ts, t.length ≤ n) : (ts.map (·.length)).sum ≤ ts.length * n := by
 induction ts with
 | nil => simp
 | cons t r ih =>
  have h1 := h t List.mem_cons_self
  have h2 := ih fun x hx => h x (List.mem_cons_of_mem _ hx)
  simp only [List.map_cons, List.sum_cons, List.length_cons, Nat.succ_mul]
  omega
section
variable {P : Program} {w : World} {K : PySem.W.Frag} {mg : Str → Option Value} {base : Heap} {f : Addr} {fd : FuncData} {ps : List Str} {x : Str} {sp : Nat → Sp}
theorem calG_rec2 (b : Nat) (z : ∀ vs H Q E, ¬ sp 0 vs H Q E) (m : mg x = some (.ref f)) (kp : PySem.W.keepIn K (.ref f) = true) (bb : Binds K fd ps [])
  (st : ∀ n, CalG P w K mg base (b + 2 * n) x (sp n) → FnG P w K mg base CX0 (b + 2 * n + 2) f fd ps (sp (n + 1))) : ∀ n, CalG P w K mg base (b + 2 * n) x (sp n)
 | 0 => calG_of ⟨fun vs H Q E h => absurd h (z _ _ _ _), fun _ _ _ _ _ _ _ _ _ _ _ _ _ h => absurd h (z _ _ _ _)⟩ m kp bb
 | n + 1 => calG_of (st n (calG_rec2 b z m kp bb st n)) m kp bb
end
section
variable {K : PySem.W.Frag} {σ : L2.St} {H : Hp} {D : Ends} {Q : VK}
theorem g_dput {td ty tv : TE} (q : tv σ H fun v H1 => td σ H1 fun x H2 => ty σ H2 fun y H3 => ∃ a H4, x = .ref a ∧ DPut H3 a y v H4 ∧ D.nx σ H4) : sDPut td ty tv D σ H := q
theorem g_dputS {p : Addr} {kvs : List (Key × V)} {z : Str} {v : V} {A : Hp → Prop} (h : H p = some (.dK kvs)) (hl : kvs.length ≤ 1000) (q : A (upd H p (.dK (putK kvs (Sum.inr z) v)))) : ∃ a H4, V.ref p = .ref a ∧ DPut H a (.str z) v H4 ∧ A H4 :=
 ⟨p, _, rfl, DPut.k (k := (Sum.inr z : Key)) h (lt_of (by omega)), q⟩
end
theorem putK_mem {kvs : List (Key × V)} {k : Key} {v : V} {p : Key × V} (h : p ∈ putK kvs k v) : p ∈ kvs ∨ p = (k, v) := by
 unfold putK at h
 split at h
 ·obtain ⟨c, hc, rfl⟩ := List.mem_map.mp h
  split
  ·rename_i e
   exact .inr (by rw [e])
  ·exact .inl hc
 ·rcases List.mem_append.mp h with h | h
  ·exact .inl h
  ·exact .inr (List.mem_singleton.mp h)
theorem putK_len {kvs : List (Key × V)} {k : Key} {v : V} : (putK kvs k v).length ≤ kvs.length + 1 := by
 unfold putK
 split
 ·rw [List.length_map]; omega
 ·rw [List.length_append]; exact Nat.le_refl _
theorem putK_ne {kvs : List (Key × V)} {k : Key} {v : V} : putK kvs k v ≠ [] := by
 unfold putK
 split
 ·rename_i e
  intro h
  rw [List.map_eq_nil_iff] at h
  rw [h] at e
  cases e
 ·intro h
  cases List.append_eq_nil_iff.mp h with
  | intro _ h => cases h
theorem mergeK_mem {kvs : List (Key × V)} : ∀ {acc : List (Key × V)} {p : Key × V}, p ∈ mergeK acc kvs → p ∈ acc ∨ p ∈ kvs := by
 induction kvs with
 | nil => exact fun h => .inl h
 | cons c r ih =>
  intro acc p h
  rcases ih (show p ∈ mergeK (putK acc c.1 c.2) r from h) with h | h
  ·rcases putK_mem h with h | h
   ·exact .inl h
   ·exact .inr (by rw [h]; exact List.mem_cons_self)
  ·exact .inr (List.mem_cons_of_mem _ h)
theorem mergeK_len {kvs : List (Key × V)} : ∀ {acc : List (Key × V)}, (mergeK acc kvs).length ≤ acc.length + kvs.length := by
 induction kvs with
 | nil => exact fun {acc} => Nat.le_refl _
 | cons c r ih =>
  intro acc
  have h := ih (acc := putK acc c.1 c.2)
  have h2 := putK_len (kvs := acc) (k := c.1) (v := c.2)
  show (mergeK (putK acc c.1 c.2) r).length ≤ acc.length + (r.length + 1)
  omega
section
variable {D : Ends} {σ : L2.St} {H : Hp}
theorem g_cutS {ts tu : TS} (Pv : L2.St → Hp → Prop) (h1 : ∀ σ' H', Pv σ' H' → tu D σ' H') (h2 : ∀ N : L2.St → Hp → Prop, (∀ σ' H', Pv σ' H' → N σ' H') → ts { D with nx := N } σ H) : tSeq ts tu D σ H := h2 (tu D) h1
theorem g_seqIf (t : TT) (a b u : TS) (D : Ends) (σ : L2.St) (H : Hp) : tSeq (tIfS t a b) u D σ H → tSeq (tIfS t a b) u D σ H := id
end
theorem g_slA {K : PySem.W.Frag} {H : Hp} {Q : VK} {p : Addr} {xs : List V} {lo hi : Option Int} (h : SqT K H p xs) (q : ∀ (r : Addr) (H' : Hp), Fr [] H H' → SqT K H' r (cutV xs lo hi) → Q (.ref r) H') : rSlA K (.ref p) lo hi H Q := by
 refine ⟨p, xs, rfl, h, fun w => q p H Fr.refl ?_, fun _ r hr => q r _ (Fr.new hr) (SqT.of upd_same)⟩
 have e : cutV xs lo hi = xs := by
  unfold cutV
  rw [w.1, w.2, List.drop_zero, Nat.sub_zero, List.take_length]
 rw [e]
 exact h
def spTx {α : Type} (K : PySem.W.Frag) (d : α → PyData) (G : α → Prop) (T : α → Str) : Sp := fun vs H Q _ => ∃ v a, vs = [v] ∧ Td K H v (d a) ∧ G a ∧ ∀ H', Fr [] H H' → Q (.str (T a)) H'
end SL
set_option Elab.async false
set_option linter.all false
set_option maxRecDepth 100000
set_option maxHeartbeats 2000000
namespace SL
open PySem PySem.Spec PyProof.Rows L2
section
variable {σ : L2.St} {H : Hp} {Q : VK} {D : Ends}
theorem g_listRg {te : TE} (q : tRg1 te σ H fun a b H1 => RgOk a b ∧ ∀ q, H1 q = none → Q (.ref q) (upd H1 q (.lst (rgV a b)))) : tLstRg (tRg1 te) σ H Q := q
theorem g_rg1 {ta : TE} {A : Int → Int → Hp → Prop} (q : ta σ H fun x H1 => ∃ n, x = .int n ∧ A 0 n H1) : tRg1 ta σ H A := q
theorem g_app {p : Addr} {xs : List V} {v : V} (h : H p = some (.lst xs)) (hz : xs.length ≤ 10000) (q : Q .non (upd H p (.lst (xs ++ [v])))) : rAppend (.ref p) [v] H Q := ⟨p, xs, v, rfl, rfl, h, lt_of (by omega), q⟩
end
abbrev Turns (J : It) (b : (Hp → Prop) → V → Hp → Prop) (H0 : Hp) (Dn : Hp → Prop) : Prop :=
 ∃ W : Nat → Nat → Hp → Prop, (∃ m, W 0 m H0) ∧ ∀ i m H, W i m H → (J.stop i H ∧ Dn H) ∨ (J.go i H ∧ ∃ Nx : Hp → Prop, (∀ H', Nx H' → ∃ m', m' < m ∧ W (i + 1) m' H') ∧ ∀ x H', J.yld i H x H' → b Nx x H')
abbrev inB (g1 : TG) (tt1 : TT) (te : TE) (vs1 : List Nat) (σ : L2.St) (D : Addr) (Nx : Hp → Prop) (x : V) (H' : Hp) : Prop :=
 g1 x (wipe σ vs1) H' fun σ3 H5 => wipe σ3 vs1 = wipe σ vs1 ∧ tt1 σ3 H5 fun b H6 => if b = true then te σ3 H6 fun y H7 => ∃ acc, H7 D = some (.lst acc) ∧ acc.length < sizeLine ∧ Nx (upd H7 D (.lst (acc ++ [y]))) else Nx H6
abbrev outB (g : TG) (tt : TT) (wi1 : TI) (g1 : TG) (tt1 : TT) (te : TE) (vs vs1 : List Nat) (σ : L2.St) (D : Addr) (Nx : Hp → Prop) (x : V) (H' : Hp) : Prop :=
 g x (wipe σ vs) H' fun σ2 H2 => wipe σ2 vs = wipe σ vs ∧ tt σ2 H2 fun b H3 => if b = true then wi1 σ2 H3 fun J1 H4 => Turns J1 (inB g1 tt1 te vs1 σ2 D) H4 Nx else Nx H3
abbrev dictB (g : TG) (tt : TT) (tk tv : TE) (vs : List Nat) (σ : L2.St) (D : Addr) (Nx : Hp → Prop) (x : V) (H' : Hp) : Prop :=
 g x (wipe σ vs) H' fun σ2 H2 => wipe σ2 vs = wipe σ vs ∧ tt σ2 H2 fun b H3 => if b = true then tk σ2 H3 fun y H4 => tv σ2 H4 fun z H5 => ∃ kvs k, y = kV k ∧ H5 D = some (.dK kvs) ∧ kvs.length < sizeLine ∧ Nx (upd H5 D (.dK (putK kvs k z))) else Nx H3
section
variable {J : It} {n : Nat} {G : Hp → Prop} {Y : Nat → Hp → V → Hp → Prop}
end
section
variable {σ : L2.St} {H : Hp} {Q : VK} {wi wi1 : TI} {g g1 : TG} {tt tt1 : TT} {te tk tv : TE} {vs vs1 : List Nat}
theorem g_lc2 (q : wi σ H fun J H1 => ∀ D, H1 D = none → Turns J (outB g tt wi1 g1 tt1 te vs vs1 σ D) (upd H1 D (.lst [])) fun H => Q (.ref D) H) : tLc2 wi g tt wi1 g1 tt1 te vs vs1 σ H Q := q
theorem g_dc (q : wi σ H fun J H1 => ∀ D, H1 D = none → Turns J (dictB g tt tk tv vs σ D) (upd H1 D (.dK [])) fun H => Q (.ref D) H) : tDc wi g tt tk tv vs σ H Q := q
theorem g_din {ty td : TE} (q : ty σ H fun y H1 => td σ H1 fun x H2 => ∃ a o, x = .ref a ∧ DGet H2 a y o ∧ Q (.bl o.isSome) H2) : tDIn ty td σ H Q := q
end
end SL
set_option Elab.async false
set_option linter.all false
set_option maxRecDepth 100000
set_option maxHeartbeats 2000000
namespace SL
open PySem PySem.Spec PyProof.Rows L2
structure EcC (K : PySem.W.Frag) (C : Addr) : Prop where
 oe : OexC K C
 xf : XfC K C
 xc : ExcC K C
def oexB (K : PySem.W.Frag) (C : Addr) : Bool := match K.lookup C with
 | some ⟨.type "type", _, .cls cd, sl⟩ => (match cd.mro, sl.toList with
  | .ref C' :: bm, [_, _, _, _, some (.builtin n), _] => decide (C' = C) && (decide (n = "ValueError.__new__") && (!cd.hasDel && (cd.hasDict && PySem.HandSPX.refsVE bm)))
  | _, _ => false)
 | _ => false
def ecB (K : PySem.W.Frag) (C : Addr) : Bool := oexB K C && (decide (PySem.W.findIn K (.ref C) "__setattr__" = some (some (.builtin "object.__setattr__"))) && (decide (PySem.W.subIn K (.ref C) (.type "BaseException") = some true) &&
 (decide (PySem.W.typeIn K (.ref C) = some (.type "type")) && (PySem.W.keepIn K (.ref C) && (decide (PySem.W.findIn K (.ref C) "__getattribute__" = some (some (.builtin "BaseException.__getattribute__"))) &&
 (decide (PySem.W.findIn K (.ref C) "__getattr__" = some none) && (PySem.W.hasDictIn K C && (decide (PySem.W.findIn K (.ref C) "__class__" = some (some (.builtin "object.__class__"))) &&
 (decide (PySem.W.specialIn K (.builtin "object.__class__") "__get__" = some (some (.builtin "getset_descriptor.__get__"))) && (decide (PySem.W.takesIn K (.builtin "object.__class__") = some true) && decide (PySem.W.mroIn K C (.type "object") = some true)))))))))))
theorem oexB_ok {K : PySem.W.Frag} {C : Addr} (h : oexB K C = true) : ∃ nm q N bs bm sn sub ab col dd k0 k1 k2 k3 k5, K.lookup C = some (excClassObj nm q C N bs bm true sn sub ab col dd k0 k1 k2 k3 k5 "ValueError.__new__") ∧ PySem.HandSPX.refsVE bm = true := by
 unfold oexB at h
 split at h
 ·rename_i dd cd sl ho
  split at h
  ·rename_i C' bm k0 k1 k2 k3 n k5 hm hs
   simp only [Bool.and_eq_true, decide_eq_true_eq, Bool.not_eq_true'] at h
   obtain ⟨rfl, rfl, hdel, hd, hr⟩ := h
   obtain ⟨nm, bs, mro, ns, qn, hdt, sn, sub, ab, col, del⟩ := cd
   dsimp only at hm hdel hd
   subst hm hdel hd
   have hsl : sl = #[k0, k1, k2, k3, some (.builtin "ValueError.__new__"), k5] := by
    obtain ⟨l⟩ := sl
    simp only at hs
    rw [hs]
   subst hsl
   exact ⟨nm, qn, ns, bs, bm, sn, sub, ab, col, dd, k0, k1, k2, k3, k5, ho, hr⟩
  ·cases h
 ·cases h
theorem ecB_ok {K : PySem.W.Frag} {C : Addr} (h : ecB K C = true) : EcC K C := by
 unfold ecB at h
 simp only [Bool.and_eq_true, decide_eq_true_eq] at h
 obtain ⟨h1, h2, h3, h4, h5, h6, h7, h8, h9, h10, h11, h12⟩ := h
 exact ⟨⟨oexB_ok h1, h2, h3, h4, h5⟩, ⟨h6, h7, h3, h8⟩, ⟨h6, h7, h3, h8, h9, h10, h11, h12⟩⟩
structure EcI (K : PySem.W.Frag) (C fI : Addr) : Prop where
 ini : PySem.W.findIn K (.ref C) "__init__" = some (some (.ref fI))
 ty : PySem.W.typeIn K (.ref fI) = some (.type "function")
 ga : PySem.W.specialIn K (.ref C) "__getattribute__" = some (some (.builtin "type.__getattribute__"))
 rd : PySem.W.readsIn K C (.type "type") = true
 fd : PySem.W.findCls K (.ref C) (.type "type") "__init__" = some (.val (.ref fI))
 kp : PySem.W.keepIn K (.ref fI) = true
def eciB (K : PySem.W.Frag) (C fI : Addr) : Bool := decide (PySem.W.findIn K (.ref C) "__init__" = some (some (.ref fI))) && (decide (PySem.W.typeIn K (.ref fI) = some (.type "function")) &&
 (decide (PySem.W.specialIn K (.ref C) "__getattribute__" = some (some (.builtin "type.__getattribute__"))) && (PySem.W.readsIn K C (.type "type") && ((match PySem.W.findCls K (.ref C) (.type "type") "__init__" with
  | some (.val (.ref f)) => decide (f = fI)
  | _ => false) && PySem.W.keepIn K (.ref fI)))))
theorem eciB_ok {K : PySem.W.Frag} {C fI : Addr} (h : eciB K C fI = true) : EcI K C fI := by
 unfold eciB at h
 simp only [Bool.and_eq_true, decide_eq_true_eq] at h
 obtain ⟨h1, h2, h3, h4, h5, h6⟩ := h
 refine ⟨h1, h2, h3, h4, ?_, h6⟩
 split at h5
 ·rename_i f e
  rw [e, of_decide_eq_true h5]
 ·cases h5
structure ClG (P : Program) (w : World) (K : PySem.W.Frag) (mg : Str → Option Value) (base : Heap) (k : Nat) (x : Str) (C : Addr) (sp : Sp) : Prop where
 m : mg x = some (.ref C)
 ec : EcC K C
 ex : ∃ (fI : Addr) (fd : FuncData) (ps : List Str), FnG P w K mg base CX0 k fI fd ps sp ∧ EcI K C fI ∧ Binds K fd ps []
section
variable {X : Cx} {k j : Nat} {x : Str} {C : Addr} {sp : Sp} {p p1 p2 pos : Pos} {e : Expr} {es : List Expr} {t ta : TA}
theorem pe_fini {pl : Sem Bool} (c : ClG X.prog X.w X.K X.mg X.base k x C sp) (hr : RoomG j X.A) (hg : Gl X x) (ha : PA X (e :: es) t) (hk : k ≤ j := by first | decide | omega)
  (hdb : (x == ("__debug__" : Str)) = false := by decide)
  (hc : eval (.Call (.Attribute (.Name x p1) "__init__" p2) (e :: es) [] pos) X.env = (do
   let ov ← eval (.Name x p1) X.env
   standAt p2.atName
   let (f, first) ← holding [ov] (getMethod ov "__init__" pl)
   callWith pos f first (backTo pos (starEach (e :: es) X.env)) (backToKw pos (keywordEach [] X.env))) := by rfl)
  (hst : starEach (e :: es) X.env = (false, eval e X.env) :: starEach es X.env := by rfl) (hnp : (backTo pos (starEach es X.env)).any (·.1) = false := by rfl) :
  PE X (.Call (.Attribute (.Name x p1) "__init__" p2) (e :: es) [] pos) (tCall sp [] E0 t) := by
 obtain ⟨fI, fd, ps, F, ci, b⟩ := c.ex
 refine ⟨fun pins s σ H Q I h => ?_⟩
 refine PySem.W.methodCall_KW (ld_glob I hg c.m ?_ hdb) hc
 refine PySem.W.method_cls I.kIn ci.ga (PySem.W.cls_value I.kIn ci.rd ci.fd rfl ?_)
 have I2 := I.tok (s.toks + 1)
 refine PySem.W.callWith_K (h₀ := X.base) I2.ok.mod.kin ci.kp (thn (ha.run pos pins _ σ H _ I2 h) fun us s1 z => ?_) hst hnp
 obtain ⟨vs, H1, I1, r, q⟩ := z
 exact ⟨I1.kIn, run_fng F (hr.mono hk) b .nil pass0 I1 r q⟩
theorem RoomG.make {k : Nat} {A : Around} (hr : RoomG (k + 1) A) (C : Addr) (us : List Value) (kw : List (Str × Value)) : RoomG k (A.under (.builtin "type.__call__" ⟨.ref C :: us, kw⟩)) := ⟨hr.rm.make C us kw, hr.gd⟩
def spMk (C : Addr) (sp : Sp) (vs : List V) (H1 : Hp) (Q : VK) : Prop := vs.length ≤ 1000 ∧ ∀ a, H1 a = none → sp (.ref a :: vs) (upd H1 a (exo a C none)) (fun v H2 => v = .non ∧ Q (.ref a) H2) E0
abbrev laidE (C : Addr) (us : List Value) (s : Shared) : Shared := { s with heap := (s.heap.push (PySem.W.kdv_tup us)).push (PySem.HandSPX.excO C s.heap.objs.size) }
theorem laidE_keeps {us : List Value} {s : Shared} (a : Addr) (o : Obj) (e : s.heap.get? a = some o) : (laidE C us s).heap.get? a = some o := Heap.get?_push_of_some _ (Heap.get?_push_of_some _ e)
theorem laidE_inv {us : List Value} {pins : List (Addr × Obj)} {σ : L2.St} {H : Hp} {s : Shared} (I : Inv X pins σ H s) : Inv X pins σ (upd H (s.heap.objs.size + 1) (exo (s.heap.objs.size + 1) C none)) (laidE C us s) :=
 I.laid (t' := s.toks) laidE_keeps (Nat.le_succ _) (exo_ok (by heap_get))
theorem exn_runs (c : ClG X.prog X.w X.K X.mg X.base k x C sp) (hr : RoomG j X.A) (hk : k + 1 ≤ j) {pins : List (Addr × Obj)} {σ : L2.St} {H : Hp} {s : Shared} {Q E : Value → Shared → Prop} {Qi : VK} {vs : List V} {us : List Value} (I : Inv X pins σ H s) (r : Vals vs us) (few : vs.length ≤ 1000)
  (prom : sp (.ref (s.heap.objs.size + 1) :: vs) (upd H (s.heap.objs.size + 1) (exo (s.heap.objs.size + 1) C none)) Qi E0)
  (on : ∀ u z, CE X.stack X.prog X.w (upd H (s.heap.objs.size + 1) (exo (s.heap.objs.size + 1) C none)) (laidE C us s) Qi u z → u = .none ∧ Q (.ref (s.heap.objs.size + 1)) z) :
  wpAny (model X.prog X.w) X.A (call (.ref C) us) Q E s := by
 obtain ⟨fI, fd, ps, Fn, ci, binds⟩ := c.ex
 have J := laidE_inv (C := C) (us := us) I
 have all : Vals (V.ref (s.heap.objs.size + 1) :: vs) (Value.ref (s.heap.objs.size + 1) :: us) := .cons rfl r
 have count : (Value.ref (s.heap.objs.size + 1) :: us ++ []).length = ps.length := (congrArg List.length (List.append_nil _)).trans (all.length.symm.trans (Fn.len _ _ _ _ prom))
 have small : us.length ≤ sizeLine := by rw [← r.length, sizeLine_eq]; omega
 have bound := List.append_nil (Value.ref (s.heap.objs.size + 1) :: us) ▸ binds (laidE C us s) (Value.ref (s.heap.objs.size + 1) :: us) J.kIn count
 have body := Fn.go _ X.stack (laidE C us s) _ ⟨Value.ref (s.heap.objs.size + 1) :: us, []⟩ _ _ Qi E0 ((hr.mono hk).make C us []) (J.env0.make C us []) bound all prom
 obtain ⟨_, _, _, _, bm, _, _, _, _, _, _, _, _, _, _, at_C, same⟩ := c.ec.oe.cls
 refine wpAny_call (PySem.HandSPX.call_own F.excBase_ValueError (fun Y => PySem.HandSPX.refsVE_contains Y bm same) (I.kIn _ _ at_C) (PySem.W.looks_findIn I.kIn ci.ini) (fun self => PySem.W.bind_fn I.kIn self ci.ty) small (codeAny_mono body fun res z hz => ?_))
 match res, hz with
 | .ok (.ret u), hz => exact on u z hz
 | .ok .next, hz => exact absurd hz id
 | .ok .brk, hz => exact absurd hz id
 | .ok .cont, hz => exact absurd hz id
 | .error _, hz => exact absurd hz id
def tMkE (C : Addr) (sp : Sp) (ta : TA) : TE := fun σ H Q => ta σ H fun vs H1 => spMk C sp vs H1 Q
def tXat (K : PySem.W.Frag) (n : Str) (te : TE) : TE := fun σ H Q => te σ H fun x H1 => ∃ (a C d : Addr) (fs : List (Str × V)) (v : V), x = .ref a ∧ EcC K C ∧ PySem.W.findIn K (.ref C) n = some none ∧ H1 a = some (exo a C (some d)) ∧ H1 d = some (exd d fs) ∧ fs.lookup n = some v ∧ Q v H1
end
end SL
namespace PySem.W
open PySem PySem.Spec PySem.Calls PyProof.Rows
section
variable {prog : Program} {w : World} {A : Around} {E : Value → Shared → Prop} {s : Shared} {K : Frag} {x D : Addr} {ox : Obj} {od : Option Obj}
end
end PySem.W
namespace SL
open PySem PySem.Spec PyProof.Rows L2
section
variable {X : Cx} {k j : Nat} {x : Str} {C : Addr} {sp : Sp} {p p1 p2 pos : Pos} {e : Expr} {es : List Expr} {t ta : TA}
def tMkX (C : Addr) (sp : Sp) (ta : TA) : L2.St → Hp → XK → Prop := fun σ H Q => ta σ H fun vs H1 => vs.length ≤ 1000 ∧ ∀ a, H1 a = none → sp (.ref a :: vs) (upd H1 a (exo a C none))
 (fun v H2 => v = .non ∧ ∃ (d : Addr) (fs : List (Str × V)), H2 a = some (exo a C (some d)) ∧ H2 d = some (exd d fs) ∧ H1 d = none ∧ Q (.ref C) (some d) (upd (del H2 a) d (.xd fs))) E0
theorem mkX_ok (c : ClG X.prog X.w X.K X.mg X.base k x C sp) (hr : RoomG j X.A) (hk : k + 1 ≤ j) {pins : List (Addr × Obj)} {σ : L2.St} {H1 : Hp} {s1 : Shared} {Q : XK} {vs : List V} {us : List Value} (I1 : Inv X pins σ H1 s1) (r1 : Vals vs us)
  (q : vs.length ≤ 1000 ∧ ∀ a, H1 a = none → sp (.ref a :: vs) (upd H1 a (exo a C none)) (fun v H2 => v = .non ∧ ∃ (d : Addr) (fs : List (Str × V)), H2 a = some (exo a C (some d)) ∧ H2 d = some (exd d fs) ∧ H1 d = none ∧ Q (.ref C) (some d) (upd (del H2 a) d (.xd fs))) E0) :
  wpAny (model X.prog X.w) X.A (call (.ref C) us) (MkP X pins σ Q) X.xe s1 :=
 exn_runs c hr hk I1 r1 q.1 (q.2 _ (I1.hok.fresh (Nat.le_succ _))) fun u z hz => by
  obtain ⟨v, H2, same_os, bare, un, hok, rv, rfl, d, fs, at_a, at_d, free, q2⟩ := hz
  exact ⟨rv, mk_end (raises_own c.ec.oe.exC c.ec.oe.tyC) I1 (Nat.le_succ _) laidE_keeps un hok same_os bare at_a at_d free q2⟩
theorem pmk_mkX (c : ClG X.prog X.w X.K X.mg X.base k x C sp) (hr : RoomG j X.A) (hg : Gl X x) (ha : PA X (e :: es) ta) (hk : k + 1 ≤ j := by first | decide | omega)
  (hdb : (x == ("__debug__" : Str)) = false := by decide) (hst : starEach (e :: es) X.env = (false, eval e X.env) :: starEach es X.env := by rfl) (hnp : (backTo pos (starEach es X.env)).any (·.1) = false := by rfl) :
  PMk X (.Call (.Name x p) (e :: es) [] pos) (tMkX C sp ta) := by
 intro pins s σ H Q I h
 refine wpAny_Call_Name_kw (ld_glob I hg c.m ?_ hdb)
 refine PySem.W.callWith_K (h₀ := X.base) I.ok.mod.kin c.ec.oe.kC (thn (ha.run pos pins s σ H _ I h) fun us s1 ⟨vs, H1, I1, r1, q1⟩ => ⟨I1.kIn, ?_⟩) hst hnp
 exact mkX_ok c hr hk I1 r1 q1
end
structure CalX (P : Program) (w : World) (K : PySem.W.Frag) (mg : Str → Option Value) (base : Heap) (k : Nat) (x : Str) (sp : Sp) : Prop where
 ex : ∃ (f : Addr) (fd : FuncData) (ps : List Str), FnG P w K mg base (L2.CX P w) k f fd ps sp ∧ mg x = some (.ref f) ∧ PySem.W.keepIn K (.ref f) = true ∧ Binds K fd ps []
theorem calX_of {P : Program} {w : World} {K : PySem.W.Frag} {mg : Str → Option Value} {base : Heap} {k : Nat} {x : Str} {sp : Sp} {f : Addr} {fd : FuncData} {ps : List Str} (F : FnG P w K mg base (L2.CX P w) k f fd ps sp) (m : mg x = some (.ref f)) (kp : PySem.W.keepIn K (.ref f) = true) (b : Binds K fd ps []) : CalX P w K mg base k x sp := ⟨f, fd, ps, F, m, kp, b⟩
section
variable {X : Cx} {k j : Nat} {x : Str} {sp : Sp} {p pos : Pos} {e : Expr} {es : List Expr} {t : TA} {W : WX}
theorem pe_calX (c : CalX X.prog X.w X.K X.mg X.base k x sp) (tk : Takes X W) (hr : RoomG j X.A) (hg : Gl X x) (ha : PA X (e :: es) t) (hk : k ≤ j := by first | decide | omega)
  (hdb : (x == ("__debug__" : Str)) = false := by decide) (hst : starEach (e :: es) X.env = (false, eval e X.env) :: starEach es X.env := by rfl) (hnp : (backTo pos (starEach es X.env)).any (·.1) = false := by rfl) :
  PE X (.Call (.Name x p) (e :: es) [] pos) (tCallS sp (WE W) t) := by
 obtain ⟨f, fd, ps, F, hm, kp, b⟩ := c.ex
 constructor
 intro pins s σ H Q I h
 refine wpAny_Call_Name_kw (ld_glob I hg hm (PySem.W.callWith_K (h₀ := X.base) I.ok.mod.kin kp (thn (ha.run pos pins s σ H _ I h) fun us s1 z => ?_) hst hnp) hdb)
 obtain ⟨vs, H1, I1, r, q⟩ := z
 refine ⟨I1.kIn, ?_⟩
 have ln : us.length = ps.length := r.length.symm.trans (F.len _ _ _ _ q)
 have b2 := b s1 us I1.kIn (by rw [List.append_nil]; exact ln)
 rw [List.append_nil] at b2
 refine wpAny_call (codeAny_mono (F.go X.A X.stack s1 H1 ⟨us, []⟩ us vs Q (WE W σ) (hr.mono hk) I1.env0 b2 r q) fun res s2 hq => ?_)
 cases res with
 | ok fl =>
  cases fl with
  | ret u => exact I1.after hq
  | _ => exact hq.elim
 | error z => exact passAt tk σ pins H1 s1 z s2 I1 hq
end
end SL
namespace SL
open PySem PySem.Spec PyProof.Rows L2
def tXs (K : PySem.W.Frag) (a : Addr) (cls : Value) (d : Option Addr) (n : Str) (te : TE) : TE := fun σ H Q => te σ H fun x H1 => x = .ref a ∧ ∃ (C dd : Addr) (fs : List (Str × V)) (v : V), cls = .ref C ∧ d = some dd ∧ EcC K C ∧ PySem.W.findIn K (.ref C) n = some none ∧ H1 dd = some (.xd fs) ∧ fs.lookup n = some v ∧ Q v H1
def tRs (t : L2.St → Hp → XK → Prop) (W : WX) : TS := fun _ σ H => t σ H fun cls d H' => W cls d σ H'
theorem ps_rs {X : Cx} {W : WX} {e : Expr} {t : L2.St → Hp → XK → Prop} {pos : Pos} (hc : X.calm = true) (tk : Takes X W) (he : PMk X e t) : PS X (.Raise (some e) none pos) (tRs t W) := ps_raise hc tk he
def tTry (K : PySem.W.Frag) (c : Value) (i : Nat) (tb : WX → TS) (ts : Addr → Value → Option Addr → TS) (Wout : WX) : TS := fun D σ H => tb (wAs K c i ts Wout D) D σ H
theorem find_VE (K : PySem.W.Frag) : PySem.W.findCls K (.type "ValueError") (.type "type") "__init__" = some (.val (.builtin "ValueError.__init__")) := by kernel_rfl
section
variable {X : Cx} {K : PySem.W.Frag} {e : Expr} {st : Stmt} {ta : TA} {te to : TE} {f : Str} {a : Addr} {cls : Value} {d : Option Addr} {σ : L2.St} {H : Hp} {Q : VK} {D : Ends}
theorem kVeI (q : X.K = K) (h : PE X e (tVeI X.K ta)) : PE X e (tVeI K ta) := q ▸ h
theorem kOst (q : X.K = K) (h : PS X st (tOst X.K f to te)) : PS X st (tOst K f to te) := q ▸ h
theorem g_vei (q : ta σ H fun vs H1 => ∃ (a C : Addr) (ws : List V), vs = .ref a :: ws ∧ ws.length ≤ 1000 ∧ OexC K C ∧ H1 a = some (exo a C none) ∧ Q .non H1) : tVeI K ta σ H Q := q
theorem g_ost (q : te σ H fun y H1 => to σ H1 fun x H2 => ∃ a C : Addr, x = .ref a ∧ OexC K C ∧ PySem.W.findIn K (.ref C) f = some none ∧
 ((H2 a = some (exo a C none) ∧ ∀ dx, H2 dx = none → dx ≠ a → D.nx σ (upd (upd H2 dx (exd dx [(f, y)])) a (exo a C (some dx)))) ∨
  ∃ (dx : Addr) (fs : List (Str × V)), H2 a = some (exo a C (some dx)) ∧ H2 dx = some (exd dx fs) ∧ fs.length ≤ 900 ∧ D.nx σ (upd H2 dx (exd dx ((f, y) :: fs))))) : tOst K f to te D σ H := q
theorem g_xat (q : te σ H fun x H1 => ∃ (a C d : Addr) (fs : List (Str × V)) (v : V), x = .ref a ∧ EcC K C ∧ PySem.W.findIn K (.ref C) f = some none ∧ H1 a = some (exo a C (some d)) ∧ H1 d = some (exd d fs) ∧ fs.lookup f = some v ∧ Q v H1) : tXat K f te σ H Q := q
theorem g_xs (q : te σ H fun x H1 => x = .ref a ∧ ∃ (C dd : Addr) (fs : List (Str × V)) (v : V), cls = .ref C ∧ d = some dd ∧ EcC K C ∧ PySem.W.findIn K (.ref C) f = some none ∧ H1 dd = some (.xd fs) ∧ fs.lookup f = some v ∧ Q v H1) : tXs K a cls d f te σ H Q := q
theorem g_mkE {C : Addr} {sp : Sp} (q : ta σ H fun vs H1 => spMk C sp vs H1 Q) : tMkE C sp ta σ H Q := q
theorem g_rs {t : L2.St → Hp → XK → Prop} {W : WX} (q : t σ H fun cls d H' => W cls d σ H') : tRs t W D σ H := q
theorem g_mkX {C : Addr} {sp : Sp} {Qx : XK} (q : ta σ H fun vs H1 => vs.length ≤ 1000 ∧ ∀ a, H1 a = none → sp (.ref a :: vs) (upd H1 a (exo a C none))
 (fun v H2 => v = .non ∧ ∃ (d : Addr) (fs : List (Str × V)), H2 a = some (exo a C (some d)) ∧ H2 d = some (exd d fs) ∧ H1 d = none ∧ Qx (.ref C) (some d) (upd (del H2 a) d (.xd fs))) E0) : tMkX C sp ta σ H Qx := q
theorem g_try {c : Value} {i : Nat} {tb : WX → TS} {ts : Addr → Value → Option Addr → TS} {Wout : WX} (q : tb (wAs K c i ts Wout D) D σ H) : tTry K c i tb ts Wout D σ H := q
theorem g_callS {sp : Sp} {E : L2.St → XK} (q : ta σ H fun vs H1 => sp vs H1 Q (E σ)) : tCallS sp E ta σ H Q := q
end
theorem okX {P : Program} {w : World} {K : PySem.W.Frag} {mg : Str → Option Value} {base : Heap} {x qual : Str} {pr : Arguments} {bd : List Stmt} {sc : Scope} {dvs : List V} {kws : List (Str × V)} {f : Addr} {fd : FuncData} {N ps : List Str} {k : Nat} {sp : Sp} (F : FunD K x qual pr bd sc dvs kws f fd) (S : FnScope N ps sc) (hlen : ∀ vs H Q E, sp vs H Q E → vs.length = ps.length)
  (hb : ∀ (cdv : Value) (A : Around) (outer : List Env) (s : Shared) (H : Hp) (vs : List V) (Q : VK) (E : XK), RoomG k (A.deeper (envOfC qual sc s.heap.objs.size f cdv)) → sp vs H Q E →
   Takes (cxOf (L2.CX P w) P w K mg base N qual sc f cdv A outer s H E) (fun cls d _ H => E cls d H) →
   ∃ t, PSs (cxOf (L2.CX P w) P w K mg base N qual sc f cdv A outer s H E) bd t ∧ t { nx := fun _ H' => Q .non H', rt := Q } (start N vs) H) : FnG P w K mg base (L2.CX P w) (k + 1) f fd ps sp :=
 okG F S hlen fun cdv A outer s H vs Q E hr hsp => hb cdv A outer s H vs Q E hr hsp (takes_of rfl rfl rfl rfl)
def Made (a C : Addr) (fs : List (Str × V)) (H : Hp) (Q : VK) : Prop := ∀ (d : Addr) (H' : Hp), H d = none → d ≠ a → Fr [a] H H' → H' a = some (exo a C (some d)) → H' d = some (exd d fs) → Q .non H'
def IniAt (K : PySem.W.Frag) (a C : Addr) (f : Str) (H : Hp) : Prop := OexC K C ∧ PySem.W.findIn K (.ref C) f = some none ∧ H a = some (exo a C none)
def spL (K : PySem.W.Frag) : Sp := fun vs H Q _ => ∃ (a C : Addr) (y : V), vs = [.ref a, y] ∧ IniAt K a C "word" H ∧ Made a C [("word", y)] H Q
def spI1 (K : PySem.W.Frag) (w f : Str) : Sp := fun vs H Q _ => ∃ (a C : Addr) (y : V), vs = [.ref a, y] ∧ IniAt K a C "word" H ∧ PySem.W.findIn K (.ref C) f = some none ∧ Made a C [(f, y), ("word", .str w)] H Q
theorem nofix_exo {e C : Addr} {d : Option Addr} : ¬ Fix (exo e C d) := fun z => z
theorem Fr.exd {H : Hp} {a d C : Addr} {o u : HO} (hd : H d = none) (ha : H a = some (exo a C none)) : Fr [a] H (upd (upd H d o) a u) := (Fr.new hd).trans (Fr.mut List.mem_cons_self (by rw [upd_ne (ne_of_none ha hd)]; exact ha) nofix_exo)
theorem mkX_I1 {K : PySem.W.Frag} {C : Addr} {w f : Str} {y : V} {H : Hp} {Qx : XK} (T : EcC K C) (h1 : PySem.W.findIn K (.ref C) "word" = some none) (h2 : PySem.W.findIn K (.ref C) f = some none)
  (q : ∀ (d : Addr) (H' : Hp), Fr [] H H' → H' d = some (.xd [(f, y), ("word", .str w)]) → Qx (.ref C) (some d) H') :
  [y].length ≤ 1000 ∧ ∀ a, H a = none → spI1 K w f (.ref a :: [y]) (upd H a (exo a C none)) (fun v H2 => v = .non ∧ ∃ (d : Addr) (fs : List (Str × V)), H2 a = some (exo a C (some d)) ∧ H2 d = some (exd d fs) ∧ H d = none ∧ Qx (.ref C) (some d) (upd (del H2 a) d (.xd fs))) E0 :=
 ⟨Nat.le_of_ble_eq_true rfl, fun a ha => ⟨a, C, y, rfl, ⟨T.oe, h1, upd_same⟩, h2, fun d H' hd hne fr e1 e2 => ⟨rfl, d, _, e1, e2, by rw [upd_ne hne] at hd; exact hd, q d _ (fun b o hb _ => by
  have hb2 : b ≠ a := ne_of_none hb ha
  have hd2 : H d = none := by rw [upd_ne hne] at hd; exact hd
  rw [upd_ne (ne_of_none hb hd2), del_ne hb2]
  exact fr b o (by rw [upd_ne hb2]; exact hb) (.inl fun z => hb2 (List.mem_singleton.mp z))) upd_same⟩⟩⟩
end SL
namespace SL
open PySem PySem.Spec PyProof.Rows L2
section
variable {K : PySem.W.Frag} {σ : L2.St} {H : Hp} {Q : VK} {ta tb tc te : TE} {r r' : R2}
theorem g_chain (q : ta σ H fun x H1 => tb σ H1 fun y H2 => r x y H2 fun z H3 => ∃ k, z = .bl k ∧ (if k = true then tc σ H3 fun w' H4 => r' y w' H4 Q else Q (.bl false) H3)) : tChain r r' ta tb tc σ H Q := q
theorem g_rU {f : Int → V} {i : Int} (q : Q (f i) H) : rU f (.int i) H Q := ⟨i, rfl, q⟩
theorem g_istr {S : It → Hp → Prop} (q : te σ H fun v H1 => ∃ x, v = .str x ∧ S (Its x) H1) : iStr te σ H S := q
theorem g_leS {a b : Str} (q : Q (.bl (!decide (b.cps.toList < a.cps.toList))) H) : uLe (.str a) (.str b) H Q := q
end
end SL
namespace SL
open PySem PySem.Spec PyProof.Rows L2 He
def asY (g : Addr → Option Obj) (n : Nat) : List Addr := He.asD g n ++ [cStatics]
structure SaysY (fa : List Fa) (fn : List DefD) (ts : List Tab) (ex : PySem.W.Frag → Bool) (w : World) (K : PySem.W.Frag) : Prop where
 t : SaysT fa fn ts w K
 more : ex K = true
def obsY (n : Nat) (fa : List Fa) (fn : List DefD) (ts : List Tab) (ex : PySem.W.Frag → Bool) (g : Addr → Option Obj) : AlX := (obsT fa fn ts (frG g (asY g n)), ex (frG g (asY g n)))
def hookY (n : Nat) (fa : List Fa) (fn : List DefD) (ts : List Tab) (ex : PySem.W.Frag → Bool) : PySem.W.Hook where
 α := AlX
 obs := fun s => obsY n fa fn ts ex s.heap.get?
 val := fun w => (valT fn ts w, true)
 says := fun w h => ∃ K : PySem.W.Frag, K.In h ∧ SaysY fa fn ts ex w K
 of := fun _ _ e => ⟨_, frG_in, ⟨congrArg (fun z : AlX => z.1) e, congrArg (fun z : AlX => z.2) e⟩⟩
 keeps := fun _ _ _ ⟨K, hK, c⟩ k => ⟨K, PySem.W.Frag.In.keeps hK k, c⟩
theorem obsY_eq {n : Nat} {fa : List Fa} {fn : List DefD} {ts : List Tab} {ex : PySem.W.Frag → Bool} {g : Addr → Option Obj} {s : Shared} (h : ∀ a, g a = s.heap.get? a) : obsY n fa fn ts ex g = (hookY n fa fn ts ex).obs s := by
 have e : g = s.heap.get? := funext h
 rw [e] <;> rfl
end SL
set_option Elab.async false
set_option linter.all false
set_option maxRecDepth 100000
set_option maxHeartbeats 2000000
namespace SL
open PySem PySem.Spec PyProof.Rows L2
structure MetG (P : Program) (w : World) (K : PySem.W.Frag) (mg : Str → Option Value) (base : Heap) (CX : CXT) (k : Nat) (C : Addr) (m : Str) (dvs : List V) (sp : Sp) : Prop where
 cls : Cls K C
 ex : ∃ (f : Addr) (fd : FuncData) (ps : List Str) (ds : List Value), Meth K C m f ∧ FnG P w K mg base CX k f fd ps sp ∧ Binds K fd ps ds ∧ Vals dvs ds
def tMetX (C : Addr) (m : Str) (sp : Sp) (dvs : List V) (E : L2.St → XK) (ta : TE) (t : TA) : TE := fun σ H Q => ta σ H fun x H1 => ∃ a dx fs, x = .ref a ∧ H1 a = some (.ins C dx fs) ∧ fs.lookup m = none ∧
 t σ H1 fun vs H2 => sp (x :: (vs ++ dvs)) H2 Q (E σ)
section
variable {X : Cx} {k j : Nat} {C : Addr} {sp : Sp} {m : Str} {pos apos : Pos} {e o : Expr} {es : List Expr} {ta : TE} {t : TA} {W : WX} {dvs : List V}
abbrev metEval (o : Expr) (m : Str) (apos pos : Pos) (pl : Sem Bool) (args : List (Bool × Sem Value)) (kws : List (Option Str × Sem Value)) (env : Env) : Sem Value := do
 let self ← eval o env
 standAt apos.atName
 let (d, fst) ← holding [self] (getMethod self m pl)
 callWith pos d fst args kws
theorem met_call {as : List Expr} {f : Addr} {pl : Sem Bool} {kws : List Keyword} {pins : List (Addr × Obj)} {σ : L2.St} {H : Hp} {s : Shared} {R : V → Hp → Prop} {Q : Value → Shared → Prop} (cls : Cls X.K C) (meth : Meth X.K C m f) (he : PE X o ta)
  (form : eval (.Call (.Attribute o m apos) as kws pos) X.env = metEval o m apos pos pl (backTo pos (starEach as X.env)) (backToKw pos (keywordEach kws X.env)) X.env) (I : Inv X pins σ H s) (h : ta σ H fun x H1 => ∃ a dx fs, x = .ref a ∧ H1 a = some (.ins C dx fs) ∧ fs.lookup m = none ∧ R x H1)
  (on : ∀ a H1 z, Inv X pins σ H1 z → R (.ref a) H1 → wpAny (model X.prog X.w) X.A (callWith pos (.ref f) [.ref a] (backTo pos (starEach as X.env)) (backToKw pos (keywordEach kws X.env))) Q X.xe z) : wpAny (model X.prog X.w) X.A (eval (.Call (.Attribute o m apos) as kws pos) X.env) Q X.xe s :=
 PySem.W.methodCall_KW (pl := pl) (thn (he.run pins s σ H _ I h) fun u z hz => by
  obtain ⟨_, H1, J, ru, a, _, _, rfl, at_a, no_field, r⟩ := hz
  cases (show u = Value.ref a from ru)
  exact getmeth_ok J at_a cls meth no_field (on a H1 z J r)) form
theorem pe_metG {pl : Sem Bool} (M : MetG X.prog X.w X.K X.mg X.base CX0 k C m dvs sp) (hr : RoomG j X.A) (he : PE X o ta) (ha : PA X (e :: es) t) (hk : k ≤ j := by first | decide | omega)
  (hst : starEach (e :: es) X.env = (false, eval e X.env) :: starEach es X.env := by rfl) (hpl : (backTo pos (starEach es X.env)).any (·.1) = false := by rfl)
  (ht : eval (.Call (.Attribute o m apos) (e :: es) [] pos) X.env = metEval o m apos pos pl (backTo pos (starEach (e :: es) X.env)) (backToKw pos (keywordEach [] X.env)) X.env := by rfl) :
  PE X (.Call (.Attribute o m apos) (e :: es) [] pos) (tMetX C m sp dvs (fun _ => E0) ta t) := ⟨fun pins s σ H Q I h => by
 obtain ⟨f, fd, ps, ds, meth, Fn, binds, rel⟩ := M.ex
 exact met_call M.cls meth he ht I h fun a H1 z J q => PySem.W.callWith_K (first := [.ref a]) (h₀ := X.base) J.ok.mod.kin meth.kp (thn (ha.run pos pins z σ H1 _ J q) fun us y hy => by
  obtain ⟨vs, H2, J2, r, q2⟩ := hy
  exact ⟨J2.kIn, run_fng (us := .ref a :: us) (vs := .ref a :: vs) Fn (hr.mono hk) binds rel pass0 J2 (.cons rfl r) q2⟩) hst hpl⟩
theorem pe_metG0 {pl : Sem Bool} (M : MetG X.prog X.w X.K X.mg X.base CX0 k C m dvs sp) (hr : RoomG j X.A) (he : PE X o ta) (hk : k ≤ j := by first | decide | omega)
  (ht : eval (.Call (.Attribute o m apos) [] [] pos) X.env = metEval o m apos pos pl (backTo pos (starEach [] X.env)) (backToKw pos (keywordEach [] X.env)) X.env := by rfl) :
  PE X (.Call (.Attribute o m apos) [] [] pos) (tMetX C m sp dvs (fun _ => E0) ta tNil) := ⟨fun pins s σ H Q I h => by
 obtain ⟨f, fd, ps, ds, meth, Fn, binds, rel⟩ := M.ex
 exact met_call M.cls meth he ht I h fun a H1 z J q => PySem.W.callWith_K0 (first := [.ref a]) J.kIn meth.kp (run_fng (us := [.ref a]) (vs := [.ref a]) Fn (hr.mono hk) binds rel pass0 J (.cons rfl .nil) q)⟩
theorem run_fnx {f : Addr} {fd : FuncData} {ps : List Str} {ds : List Value} {pins : List (Addr × Obj)} {σ : L2.St} {H : Hp} {s : Shared} {Q : VK} {us : List Value} {vs : List V} (F : FnG X.prog X.w X.K X.mg X.base (L2.CX X.prog X.w) k f fd ps sp) (tk : Takes X W) (hr : RoomG k X.A)
  (hb : Binds X.K fd ps ds) (hd : Vals dvs ds) (I : Inv X pins σ H s) (r : Vals vs us) (h : sp (vs ++ dvs) H Q (WE W σ)) : wpAny (model X.prog X.w) X.A (call (.ref f) us) (EP X pins σ Q) X.xe s := by
 have rel : Vals (vs ++ dvs) (us ++ ds) := r.append hd
 have ln : (us ++ ds).length = ps.length := rel.length.symm.trans (F.len _ _ _ _ h)
 refine wpAny_call (codeAny_mono (F.go X.A X.stack s H ⟨us, []⟩ (us ++ ds) (vs ++ dvs) Q (WE W σ) hr I.env0 (hb s us I.kIn ln) rel h) fun res s2 hq => ?_)
 cases res with
 | ok fl =>
  cases fl with
  | ret u => exact I.after hq
  | _ => exact hq.elim
 | error z => exact passAt tk σ pins H s z s2 I hq
theorem pe_metX {pl : Sem Bool} (M : MetG X.prog X.w X.K X.mg X.base (L2.CX X.prog X.w) k C m dvs sp) (tk : Takes X W) (hr : RoomG j X.A) (he : PE X o ta) (ha : PA X (e :: es) t) (hk : k ≤ j := by first | decide | omega)
  (hst : starEach (e :: es) X.env = (false, eval e X.env) :: starEach es X.env := by rfl) (hpl : (backTo pos (starEach es X.env)).any (·.1) = false := by rfl)
  (ht : eval (.Call (.Attribute o m apos) (e :: es) [] pos) X.env = metEval o m apos pos pl (backTo pos (starEach (e :: es) X.env)) (backToKw pos (keywordEach [] X.env)) X.env := by rfl) :
  PE X (.Call (.Attribute o m apos) (e :: es) [] pos) (tMetX C m sp dvs (WE W) ta t) := ⟨fun pins s σ H Q I h => by
 obtain ⟨f, fd, ps, ds, meth, Fn, binds, rel⟩ := M.ex
 exact met_call M.cls meth he ht I h fun a H1 z J q => PySem.W.callWith_K (first := [.ref a]) (h₀ := X.base) J.ok.mod.kin meth.kp (thn (ha.run pos pins z σ H1 _ J q) fun us y hy => by
  obtain ⟨vs, H2, J2, r, q2⟩ := hy
  exact ⟨J2.kIn, run_fnx (us := .ref a :: us) (vs := .ref a :: vs) Fn tk (hr.mono hk) binds rel J2 (.cons rfl r) q2⟩) hst hpl⟩
theorem pe_metX0 {pl : Sem Bool} (M : MetG X.prog X.w X.K X.mg X.base (L2.CX X.prog X.w) k C m dvs sp) (tk : Takes X W) (hr : RoomG j X.A) (he : PE X o ta) (hk : k ≤ j := by first | decide | omega)
  (ht : eval (.Call (.Attribute o m apos) [] [] pos) X.env = metEval o m apos pos pl (backTo pos (starEach [] X.env)) (backToKw pos (keywordEach [] X.env)) X.env := by rfl) :
  PE X (.Call (.Attribute o m apos) [] [] pos) (tMetX C m sp dvs (WE W) ta tNil) := ⟨fun pins s σ H Q I h => by
 obtain ⟨f, fd, ps, ds, meth, Fn, binds, rel⟩ := M.ex
 exact met_call M.cls meth he ht I h fun a H1 z J q => PySem.W.callWith_K0 (first := [.ref a]) J.kIn meth.kp (run_fnx (us := [.ref a]) (vs := [.ref a]) Fn tk (hr.mono hk) binds rel J (.cons rfl .nil) q)⟩
end
section
variable {X : Cx} {K : PySem.W.Frag} {o e value ex : Expr} {f : Str} {pos pos' tpos : Pos} {ta tv : TE} {rd : V → V → Hp → VK → Prop} {st : Stmt}
theorem kFld (h : X.K = K) (p : PE X ex (tFld X.K ta f)) : PE X ex (tFld K ta f) := h ▸ p
theorem kSFld (h : X.K = K) (p : PS X st (sFld X.K ta tv f)) : PS X st (sFld K ta tv f) := h ▸ p
theorem kFldAug (h : X.K = K) (p : PS X st (sFldAug X.K ta tv rd f)) : PS X st (sFldAug K ta tv rd f) := h ▸ p
variable {σ : L2.St} {H : Hp} {Q : VK} {C : Addr} {m : Str} {sp : Sp} {dvs : List V} {E : L2.St → XK} {t : TA} {D : Ends}
theorem g_fld (q : ta σ H fun x H1 => ∃ a C dx fs v, x = .ref a ∧ H1 a = some (.ins C dx fs) ∧ Cls K C ∧ NoAttr K C f ∧ fs.lookup f = some v ∧ Q v H1) : tFld K ta f σ H Q := q
theorem g_met (q : ta σ H fun x H1 => ∃ a dx fs, x = .ref a ∧ H1 a = some (.ins C dx fs) ∧ fs.lookup m = none ∧ t σ H1 fun vs H2 => sp (x :: (vs ++ dvs)) H2 Q (E σ)) : tMetX C m sp dvs E ta t σ H Q := q
theorem g_sfld (q : tv σ H fun y H1 => ta σ H1 fun x H2 => ∃ a C dx fs, x = .ref a ∧ H2 a = some (.ins C dx fs) ∧ Cls K C ∧ NoAttr K C f ∧ fs.length < 1000 ∧ D.nx σ (upd H2 a (.ins C dx (putF f y fs)))) : sFld K ta tv f D σ H := q
theorem g_fldaug (q : ta σ H fun x H1 => ∃ a C dx fs v, x = .ref a ∧ H1 a = some (.ins C dx fs) ∧ Cls K C ∧ NoAttr K C f ∧ fs.lookup f = some v ∧
 tv σ H1 fun y H2 => rd v y H2 fun z H3 => ∃ dx' fs', H3 a = some (.ins C dx' fs') ∧ fs'.length < 1000 ∧ D.nx σ (upd H3 a (.ins C dx' (putF f z fs')))) : sFldAug K ta tv rd f D σ H := q
end
section
variable {σ : L2.St} {H : Hp} {D : Ends}
theorem g_while2 {c : TT} {tb : TS} (Pv : L2.St → Hp → Prop) (μ : L2.St → Hp → Nat) (h0 : Pv σ H) (hs : ∀ σ H, Pv σ H → c σ H fun b H1 => if b = true then ∃ N : L2.St → Hp → Prop, (∀ σ' H', N σ' H' → ∃ m', m' < μ σ H ∧ m' = μ σ' H' ∧ Pv σ' H') ∧ tb { D with nx := N, ct := N, bk := D.nx } σ H1 else D.nx σ H1) :
  tWhile c tb D σ H := by
 refine ⟨fun m σ H => m = μ σ H ∧ Pv σ H, ⟨_, rfl, h0⟩, ?_⟩
 rintro m σ H ⟨rfl, p⟩
 exact hs σ H p
theorem g_wt {μ : L2.St → Hp → Nat} {Pv : L2.St → Hp → Prop} {M : Nat} {T : (L2.St → Hp → Prop) → Prop} (h : T fun σ' H' => Pv σ' H' ∧ μ σ' H' < M) : ∃ N : L2.St → Hp → Prop, (∀ σ' H', N σ' H' → ∃ m', m' < M ∧ m' = μ σ' H' ∧ Pv σ' H') ∧ T N :=
 ⟨_, fun _ _ z => ⟨_, z.2, rfl, z.1⟩, h⟩
theorem g_aug1 {i : Nat} {a b : Int} {f : Int → Int → Int} (h : σ[i]? = some (some (.int a))) (q : D.nx (σ.set i (some (.int (f a b)))) H) : tAug i (tC (.int b)) (ipI f) D σ H := ⟨_, h, _, _, rfl, rfl, q⟩
end
end SL
set_option Elab.async false
set_option linter.all false
set_option maxRecDepth 100000
set_option maxHeartbeats 2000000
namespace SL
open PySem PySem.Spec PyProof.Rows L2
def tMakeX (C : Addr) (n m : Nat) (sp : Sp) (gV : List V → List V → List V) (E : L2.St → XK) (t tk : TA) : TE := fun σ H Q => t σ H fun vs H1 => tk σ H1 fun zs H2 => vs.length = n ∧ zs.length = m ∧ ∀ x dx, H2 x = none → H2 dx = none → dx ≠ x →
 sp (gV (.ref x :: vs) zs) (upd (upd H2 dx (.own x)) x (.ins C dx [])) (fun v H3 => v = .non ∧ Q (.ref x) H3) (E σ)
theorem g_makeX {C : Addr} {n m : Nat} {sp : Sp} {gV : List V → List V → List V} {E : L2.St → XK} {t tk : TA} {σ : L2.St} {H : Hp} {Q : VK} (q : t σ H fun vs H1 => tk σ H1 fun zs H2 => vs.length = n ∧ zs.length = m ∧ ∀ x dx, H2 x = none → H2 dx = none → dx ≠ x →
 sp (gV (.ref x :: vs) zs) (upd (upd H2 dx (.own x)) x (.ins C dx [])) (fun v H3 => v = .non ∧ Q (.ref x) H3) (E σ)) : tMakeX C n m sp gV E t tk σ H Q := q
section
variable {X : Cx} {k j n : Nat} {f C : Addr} {fd : FuncData} {ps ks : List Str} {sp : Sp} {x : Str} {p pos : Pos} {e : Expr} {es : List Expr} {kws : List Keyword} {t tk : TA} {g : List Value → List Value → List Value} {gV : List V → List V → List V} {W : WX}
theorem run_mk {CX : CXT} {E : XK} {pins : List (Addr × Obj)} {σ : L2.St} {H : Hp} {s : Shared} {Q : VK} {us ws : List Value} {vs zs : List V} (M : Mk X.K C f) (Fn : FnG X.prog X.w X.K X.mg X.base CX k f fd ps sp) (hr : RoomG (k + 1) X.A) (kb : KBn X.K fd ps (n + 1) ks g gV) (fail : PassesAt CX X σ E)
  (I : Inv X pins σ H s) (r : Vals vs us) (rz : Vals zs ws) (l1 : vs.length = n) (l2 : zs.length = ks.length)
  (prom : ∀ o d, H o = none → H d = none → d ≠ o → sp (gV (.ref o :: vs) zs) (upd (upd H d (.own o)) o (.ins C d [])) (fun v H2 => v = .non ∧ Q (.ref o) H2) E) :
  wpAny (model X.prog X.w) X.A (call (.ref C) us (ks.zip ws)) (EP X pins σ Q) X.xe s := by
 have J : Inv X pins σ _ _ := Inv.made (C := C) I
 have fresh := fun i => I.hok.fresh (a := s.heap.objs.size + i) (Nat.le_add_right ..)
 have all : Vals (V.ref (s.heap.objs.size + 1) :: vs) (Value.ref (s.heap.objs.size + 1) :: us) := .cons rfl r
 have count : (Value.ref (s.heap.objs.size + 1) :: us).length = n + 1 := all.length.symm.trans (congrArg (· + 1) l1)
 have init := Fn.go _ X.stack _ _ ⟨Value.ref (s.heap.objs.size + 1) :: us, ks.zip ws⟩ _ _ _ E (hr.make C us (ks.zip ws)) (J.env0.make C us (ks.zip ws)) (kb.to _ _ ws J.kIn count (rz.length.symm.trans l2)) (kb.rel all rz) (prom _ _ (fresh 1) (fresh 0) (Nat.ne_of_lt (Nat.lt_succ_self _)))
 refine wpAny_call (make_map (f := f) I.kIn M.makes M.init (beq_iff_eq.mp M.fn) (codeAny_mono init fun res z hz => ?_))
 match res, hz with
 | .error x, hz => exact fail pins _ _ x z J hz
 | .ok .next, hz => exact absurd hz id
 | .ok .brk, hz => exact absurd hz id
 | .ok .cont, hz => exact absurd hz id
 | .ok (.ret u), hz =>
  have ⟨_, H2, J2, ru, is_non, q⟩ := J.after hz
  cases is_non
  exact ⟨ru, .ref _, H2, J2, rfl, q⟩
structure MkX (P : Program) (w : World) (K : PySem.W.Frag) (mg : Str → Option Value) (base : Heap) (k : Nat) (x : Str) (C : Addr) (n : Nat) (ks : List Str) (gV : List V → List V → List V) (sp : Sp) : Prop where
 m : mg x = some (.ref C)
 ex : ∃ (f : Addr) (fd : FuncData) (ps : List Str) (g : List Value → List Value → List Value), Mk K C f ∧ FnG P w K mg base (L2.CX P w) k f fd ps sp ∧ KBn K fd ps (n + 1) ks g gV
theorem pe_mk {CX : CXT} {E : L2.St → XK} (m : X.mg x = some (.ref C)) (M : Mk X.K C f) (Fn : FnG X.prog X.w X.K X.mg X.base CX k f fd ps sp) (kb : KBn X.K fd ps (n + 1) ks g gV) (fail : ∀ σ, PassesAt CX X σ (E σ)) (hr : RoomG (k + 1) X.A) (hg : Gl X x) (ha : PA X (e :: es) t) (hkw : PK X kws tk)
  (named : (backToKw pos (keywordEach kws X.env)).all (·.1.isSome) = true) (names : (backToKw pos (keywordEach kws X.env)).filterMap (·.1) = ks) (no_debug : (x == ("__debug__" : Str)) = false)
  (each : starEach (e :: es) X.env = (false, eval e X.env) :: starEach es X.env) (no_star : ((backTo pos (starEach (e :: es) X.env)).any (·.1) || (backToKw pos (keywordEach kws X.env)).any (·.1.isNone)) = false) :
  PE X (.Call (.Name x p) (e :: es) kws pos) (tMakeX C n ks.length sp gV E t tk) := ⟨fun pins s σ H Q I h =>
 wpAny_Call_Name_kw (ld_glob I hg m (PySem.W.callWith_KW (h₀ := X.base) I.ok.mod.kin M.kp named (thn (ha.run pos pins s σ H _ I h) fun us s1 h1 => by
  obtain ⟨vs, H1, J, r, h1⟩ := h1
  refine thn (hkw.run pos pins s1 σ H1 _ J h1) fun ws s2 h2 => ?_
  obtain ⟨zs, H2, J2, rz, l1, l2, q⟩ := h2
  exact ⟨J2.kIn, names ▸ run_mk M Fn hr kb (fail σ) J2 r rz l1 l2 q⟩) no_star each) no_debug)⟩
theorem pe_makeX (M : MkX X.prog X.w X.K X.mg X.base k x C n ks gV sp) (hx : Takes X W) (hr : RoomG j X.A) (hg : Gl X x) (ha : PA X (e :: es) t) (hkw : PK X kws tk) (hk : k + 1 ≤ j := by first | decide | omega)
  (hall : (backToKw pos (keywordEach kws X.env)).all (·.1.isSome) = true := by rfl) (hks : (backToKw pos (keywordEach kws X.env)).filterMap (·.1) = ks := by rfl) (hdb : (x == ("__debug__" : Str)) = false := by decide)
  (he : starEach (e :: es) X.env = (false, eval e X.env) :: starEach es X.env := by rfl) (hpl : ((backTo pos (starEach (e :: es) X.env)).any (·.1) || (backToKw pos (keywordEach kws X.env)).any (·.1.isNone)) = false := by rfl) :
  PE X (.Call (.Name x p) (e :: es) kws pos) (tMakeX C n ks.length sp gV (WE W) t tk) := by
 have ⟨_, _, _, _, made, Fn, kb⟩ := M.ex
 exact pe_mk M.m made Fn kb (passAt hx) (hr.mono hk) hg ha hkw hall hks hdb he hpl
end
end SL
set_option Elab.async false
set_option linter.all false
set_option maxRecDepth 100000
set_option maxHeartbeats 2000000
namespace SL
open PySem PySem.Spec PyProof.Rows L2 PySem.Builtin PySem.Builtin.Str
theorem repS_list (a : Array Nat) : ∀ (n : Nat) (acc : Array Nat), ((List.replicate n a).foldl (· ++ ·) acc).toList = acc.toList ++ (List.replicate n a.toList).flatten
 | 0, acc => by simp
 | n + 1, acc => by
  rw [List.replicate_succ, List.foldl_cons, repS_list a n, Array.toList_append, List.replicate_succ, List.flatten_cons, List.append_assoc]
def repS (y : Str) (k : Int) : Str := ⟨(List.replicate k.toNat y.cps).foldl (· ++ ·) #[]⟩
theorem repS_toList (y : Str) (k : Int) : (repS y k).cps.toList = (List.replicate k.toNat y.cps.toList).flatten := by
 show ((List.replicate k.toNat y.cps).foldl (· ++ ·) #[]).toList = _
 rw [repS_list]
 rfl
theorem repS_len {y : Str} (hy : y.length = 1) (k : Int) : (repS y k).length = k.toNat := by
 have h : (repS y k).length = (repS y k).cps.toList.length := Array.length_toList.symm
 have h1 : y.cps.toList.length = 1 := hy
 rw [h, repS_toList, List.length_flatten, List.map_replicate, h1, List.sum_replicate_nat]
 omega
theorem repS_one (y : Str) : repS y 1 = y := by
 unfold repS
 show (⟨#[] ++ y.cps⟩ : Str) = y
 rw [Array.empty_append]
section
variable {X : Cx} {o e : Expr} {te : TE} {to tk : TE} {y : Str} {j1 j2 j3 : Nat} {c0 c1 c2 apos pos pm : Pos}
end
end SL
set_option Elab.async false
set_option linter.all false
set_option maxRecDepth 100000
set_option maxHeartbeats 4000000
namespace LW
open PySem PySem.Spec PyProof.Rows L2 SL
abbrev FnP (K : PySem.W.Frag) (x : Str) (st : Stmt) (f : Addr) (fd : FuncData) : Prop := FunD K x x (defArgs st) (defBody st) (defScope st) [] [] f fd
def topS (i : Nat) : Stmt := PySem.Challenge.pw_sightlore_k04_whole_rules_there_and_back.main.body.getD i (.Pass ⟨0, 0, 0, 0⟩)
abbrev FnM (K : PySem.W.Frag) (q : Str) (st : Stmt) (f : Addr) (fd : FuncData) : Prop := FunD K "__init__" q (defArgs st) (defBody st) (defScope st) [] [] f fd
abbrev FnMd (K : PySem.W.Frag) (x q : Str) (st : Stmt) (dvs : List V) (kws : List (Str × V)) (f : Addr) (fd : FuncData) : Prop := FunD K x q (defArgs st) (defBody st) (defScope st) dvs kws f fd
def methS (i j : Nat) : Stmt := match topS i with
 | .ClassDef _ _ _ body _ _ _ _ _ _ _ => body.getD j (.Pass ⟨0, 0, 0, 0⟩)
 | s => s
def d_LoreError_ini : He.DefD := ⟨("LoreError", some "__init__"), "__init__", "LoreError.__init__", defArgs (methS 1 0), defBody (methS 1 0), defScope (methS 1 0), [], []⟩
def d_BadText_ini : He.DefD := ⟨("BadText", some "__init__"), "__init__", "BadText.__init__", defArgs (methS 3 0), defBody (methS 3 0), defScope (methS 3 0), [], []⟩
def d_Row_ini : He.DefD := ⟨("Row", some "__init__"), "__init__", "Row.__init__", defArgs (methS 31 0), defBody (methS 31 0), defScope (methS 31 0), [], [("mine", .bl false), ("plain", .bl true)]⟩
def d_Row_sort_here : He.DefD := ⟨("Row", some "sort_here"), "sort_here", "Row.sort_here", defArgs (methS 31 1), defBody (methS 31 1), defScope (methS 31 1), [.int 0], []⟩
def d_Row_thing : He.DefD := ⟨("Row", some "thing"), "thing", "Row.thing", defArgs (methS 31 2), defBody (methS 31 2), defScope (methS 31 2), [.int 0], []⟩
def d_Row_is_sign : He.DefD := ⟨("Row", some "is_sign"), "is_sign", "Row.is_sign", defArgs (methS 31 3), defBody (methS 31 3), defScope (methS 31 3), [.int 0], []⟩
def d_Row_is_kept : He.DefD := ⟨("Row", some "is_kept"), "is_kept", "Row.is_kept", defArgs (methS 31 4), defBody (methS 31 4), defScope (methS 31 4), [.int 0], []⟩
def d_Row_wrong : He.DefD := ⟨("Row", some "wrong"), "wrong", "Row.wrong", defArgs (methS 31 5), defBody (methS 31 5), defScope (methS 31 5), [], []⟩
def d_Row_step : He.DefD := ⟨("Row", some "step"), "step", "Row.step", defArgs (methS 31 6), defBody (methS 31 6), defScope (methS 31 6), [], []⟩
def d_Row_need_sign : He.DefD := ⟨("Row", some "need_sign"), "need_sign", "Row.need_sign", defArgs (methS 31 7), defBody (methS 31 7), defScope (methS 31 7), [], []⟩
def d_Row_need_name : He.DefD := ⟨("Row", some "need_name"), "need_name", "Row.need_name", defArgs (methS 31 8), defBody (methS 31 8), defScope (methS 31 8), [], []⟩
def d_Row_need_end : He.DefD := ⟨("Row", some "need_end"), "need_end", "Row.need_end", defArgs (methS 31 9), defBody (methS 31 9), defScope (methS 31 9), [], []⟩
def d_is_word : He.DefD := ⟨("is_word", none), "is_word", "is_word", defArgs (topS 10), defBody (topS 10), defScope (topS 10), [], []⟩
def d_is_name : He.DefD := ⟨("is_name", none), "is_name", "is_name", defArgs (topS 11), defBody (topS 11), defScope (topS 11), [], []⟩
def d_is_number : He.DefD := ⟨("is_number", none), "is_number", "is_number", defArgs (topS 12), defBody (topS 12), defScope (topS 12), [], []⟩
def d_value_text : He.DefD := ⟨("value_text", none), "value_text", "value_text", defArgs (topS 13), defBody (topS 13), defScope (topS 13), [], []⟩
def d_run_end : He.DefD := ⟨("run_end", none), "run_end", "run_end", defArgs (topS 17), defBody (topS 17), defScope (topS 17), [], []⟩
def d_is_full : He.DefD := ⟨("is_full", none), "is_full", "is_full", defArgs (topS 18), defBody (topS 18), defScope (topS 18), [], []⟩
def d_run_thing : He.DefD := ⟨("run_thing", none), "run_thing", "run_thing", defArgs (topS 19), defBody (topS 19), defScope (topS 19), [], []⟩
def d_word_thing : He.DefD := ⟨("word_thing", none), "word_thing", "word_thing", defArgs (topS 20), defBody (topS 20), defScope (topS 20), [], []⟩
def d_begins_number : He.DefD := ⟨("begins_number", none), "begins_number", "begins_number", defArgs (topS 21), defBody (topS 21), defScope (topS 21), [], []⟩
def d_next_thing : He.DefD := ⟨("next_thing", none), "next_thing", "next_thing", defArgs (topS 22), defBody (topS 22), defScope (topS 22), [], []⟩
def d_things_of : He.DefD := ⟨("things_of", none), "things_of", "things_of", defArgs (topS 23), defBody (topS 23), defScope (topS 23), [], []⟩
def d_read_leaf : He.DefD := ⟨("read_leaf", none), "read_leaf", "read_leaf", defArgs (topS 32), defBody (topS 32), defScope (topS 32), [], []⟩
def d_read_product : He.DefD := ⟨("read_product", none), "read_product", "read_product", defArgs (topS 33), defBody (topS 33), defScope (topS 33), [], []⟩
def d_read_sum : He.DefD := ⟨("read_sum", none), "read_sum", "read_sum", defArgs (topS 34), defBody (topS 34), defScope (topS 34), [], []⟩
def d_read_test : He.DefD := ⟨("read_test", none), "read_test", "read_test", defArgs (topS 35), defBody (topS 35), defScope (topS 35), [], []⟩
def d_read_term : He.DefD := ⟨("read_term", none), "read_term", "read_term", defArgs (topS 36), defBody (topS 36), defScope (topS 36), [], []⟩
def d_read_atom : He.DefD := ⟨("read_atom", none), "read_atom", "read_atom", defArgs (topS 37), defBody (topS 37), defScope (topS 37), [], []⟩
def d_read_part : He.DefD := ⟨("read_part", none), "read_part", "read_part", defArgs (topS 38), defBody (topS 38), defScope (topS 38), [], []⟩
def d_read_parts : He.DefD := ⟨("read_parts", none), "read_parts", "read_parts", defArgs (topS 39), defBody (topS 39), defScope (topS 39), [], []⟩
def d_read_arg : He.DefD := ⟨("read_arg", none), "read_arg", "read_arg", defArgs (topS 40), defBody (topS 40), defScope (topS 40), [], []⟩
def d_read_args : He.DefD := ⟨("read_args", none), "read_args", "read_args", defArgs (topS 41), defBody (topS 41), defScope (topS 41), [], []⟩
def d_read_rule : He.DefD := ⟨("read_rule", none), "read_rule", "read_rule", defArgs (topS 42), defBody (topS 42), defScope (topS 42), [], []⟩
def d_read_question : He.DefD := ⟨("read_question", none), "read_question", "read_question", defArgs (topS 43), defBody (topS 43), defScope (topS 43), [], []⟩
def d_read_tests : He.DefD := ⟨("read_tests", none), "read_tests", "read_tests", defArgs (topS 44), defBody (topS 44), defScope (topS 44), [], []⟩
def d_read_paper : He.DefD := ⟨("read_paper", none), "read_paper", "read_paper", defArgs (topS 45), defBody (topS 45), defScope (topS 45), [], []⟩
def d_tightness : He.DefD := ⟨("tightness", none), "tightness", "tightness", defArgs (topS 48), defBody (topS 48), defScope (topS 48), [], []⟩
def d_wrapped : He.DefD := ⟨("wrapped", none), "wrapped", "wrapped", defArgs (topS 49), defBody (topS 49), defScope (topS 49), [], []⟩
def d_sum_text : He.DefD := ⟨("sum_text", none), "sum_text", "sum_text", defArgs (topS 50), defBody (topS 50), defScope (topS 50), [], []⟩
def d_term_text : He.DefD := ⟨("term_text", none), "term_text", "term_text", defArgs (topS 51), defBody (topS 51), defScope (topS 51), [], []⟩
def d_atom_text : He.DefD := ⟨("atom_text", none), "atom_text", "atom_text", defArgs (topS 52), defBody (topS 52), defScope (topS 52), [], []⟩
def d_part_text : He.DefD := ⟨("part_text", none), "part_text", "part_text", defArgs (topS 53), defBody (topS 53), defScope (topS 53), [], []⟩
def d_arg_text : He.DefD := ⟨("arg_text", none), "arg_text", "arg_text", defArgs (topS 54), defBody (topS 54), defScope (topS 54), [], []⟩
def d_args_text : He.DefD := ⟨("args_text", none), "args_text", "args_text", defArgs (topS 55), defBody (topS 55), defScope (topS 55), [], []⟩
def d_parts_text : He.DefD := ⟨("parts_text", none), "parts_text", "parts_text", defArgs (topS 56), defBody (topS 56), defScope (topS 56), [], []⟩
def d_rule_text : He.DefD := ⟨("rule_text", none), "rule_text", "rule_text", defArgs (topS 57), defBody (topS 57), defScope (topS 57), [], []⟩
def d_question_text : He.DefD := ⟨("question_text", none), "question_text", "question_text", defArgs (topS 58), defBody (topS 58), defScope (topS 58), [], []⟩
def d__law_bag : He.DefD := ⟨("_law_bag", none), "_law_bag", "_law_bag", defArgs (topS 60), defBody (topS 60), defScope (topS 60), [], []⟩
def d__law_pull : He.DefD := ⟨("_law_pull", none), "_law_pull", "_law_pull", defArgs (topS 61), defBody (topS 61), defScope (topS 61), [], []⟩
def d__law_one : He.DefD := ⟨("_law_one", none), "_law_one", "_law_one", defArgs (topS 62), defBody (topS 62), defScope (topS 62), [], []⟩
def d__law_same : He.DefD := ⟨("_law_same", none), "_law_same", "_law_same", defArgs (topS 63), defBody (topS 63), defScope (topS 63), [], []⟩
def d__law_barred : He.DefD := ⟨("_law_barred", none), "_law_barred", "_law_barred", defArgs (topS 64), defBody (topS 64), defScope (topS 64), [], []⟩
def d__law_word : He.DefD := ⟨("_law_word", none), "_law_word", "_law_word", defArgs (topS 65), defBody (topS 65), defScope (topS 65), [], []⟩
def d__law_names : He.DefD := ⟨("_law_names", none), "_law_names", "_law_names", defArgs (topS 66), defBody (topS 66), defScope (topS 66), [], []⟩
def d__law_number : He.DefD := ⟨("_law_number", none), "_law_number", "_law_number", defArgs (topS 67), defBody (topS 67), defScope (topS 67), [], []⟩
def d__law_value : He.DefD := ⟨("_law_value", none), "_law_value", "_law_value", defArgs (topS 68), defBody (topS 68), defScope (topS 68), [], []⟩
def d__law_value_text : He.DefD := ⟨("_law_value_text", none), "_law_value_text", "_law_value_text", defArgs (topS 69), defBody (topS 69), defScope (topS 69), [], []⟩
def d__law_close : He.DefD := ⟨("_law_close", none), "_law_close", "_law_close", defArgs (topS 70), defBody (topS 70), defScope (topS 70), [], []⟩
def d__law_within : He.DefD := ⟨("_law_within", none), "_law_within", "_law_within", defArgs (topS 71), defBody (topS 71), defScope (topS 71), [], []⟩
def d__law_sum_text : He.DefD := ⟨("_law_sum_text", none), "_law_sum_text", "_law_sum_text", defArgs (topS 72), defBody (topS 72), defScope (topS 72), [], []⟩
def d__law_term_text : He.DefD := ⟨("_law_term_text", none), "_law_term_text", "_law_term_text", defArgs (topS 73), defBody (topS 73), defScope (topS 73), [], []⟩
def d__law_part_text : He.DefD := ⟨("_law_part_text", none), "_law_part_text", "_law_part_text", defArgs (topS 74), defBody (topS 74), defScope (topS 74), [], []⟩
def d__law_arg_text : He.DefD := ⟨("_law_arg_text", none), "_law_arg_text", "_law_arg_text", defArgs (topS 75), defBody (topS 75), defScope (topS 75), [], []⟩
def d__law_listed : He.DefD := ⟨("_law_listed", none), "_law_listed", "_law_listed", defArgs (topS 76), defBody (topS 76), defScope (topS 76), [], []⟩
def d__law_rule_text : He.DefD := ⟨("_law_rule_text", none), "_law_rule_text", "_law_rule_text", defArgs (topS 77), defBody (topS 77), defScope (topS 77), [], []⟩
def d__law_asking : He.DefD := ⟨("_law_asking", none), "_law_asking", "_law_asking", defArgs (topS 78), defBody (topS 78), defScope (topS 78), [], []⟩
def d__law_terms : He.DefD := ⟨("_law_terms", none), "_law_terms", "_law_terms", defArgs (topS 79), defBody (topS 79), defScope (topS 79), [], []⟩
def d__law_atom : He.DefD := ⟨("_law_atom", none), "_law_atom", "_law_atom", defArgs (topS 80), defBody (topS 80), defScope (topS 80), [], []⟩
def d__law_leaf : He.DefD := ⟨("_law_leaf", none), "_law_leaf", "_law_leaf", defArgs (topS 81), defBody (topS 81), defScope (topS 81), [], []⟩
def d__law_sum : He.DefD := ⟨("_law_sum", none), "_law_sum", "_law_sum", defArgs (topS 82), defBody (topS 82), defScope (topS 82), [], []⟩
def d__law_test : He.DefD := ⟨("_law_test", none), "_law_test", "_law_test", defArgs (topS 83), defBody (topS 83), defScope (topS 83), [], []⟩
def d__law_not : He.DefD := ⟨("_law_not", none), "_law_not", "_law_not", defArgs (topS 84), defBody (topS 84), defScope (topS 84), [], []⟩
def d__law_body : He.DefD := ⟨("_law_body", none), "_law_body", "_law_body", defArgs (topS 85), defBody (topS 85), defScope (topS 85), [], []⟩
def d__law_fold_arg : He.DefD := ⟨("_law_fold_arg", none), "_law_fold_arg", "_law_fold_arg", defArgs (topS 86), defBody (topS 86), defScope (topS 86), [], []⟩
def d__law_spread : He.DefD := ⟨("_law_spread", none), "_law_spread", "_law_spread", defArgs (topS 87), defBody (topS 87), defScope (topS 87), [], []⟩
def d__law_any_rule : He.DefD := ⟨("_law_any_rule", none), "_law_any_rule", "_law_any_rule", defArgs (topS 88), defBody (topS 88), defScope (topS 88), [], []⟩
def d__law_full_parts : He.DefD := ⟨("_law_full_parts", none), "_law_full_parts", "_law_full_parts", defArgs (topS 89), defBody (topS 89), defScope (topS 89), [], []⟩
def d_law : He.DefD := ⟨("law", none), "law", "law", defArgs (topS 90), defBody (topS 90), defScope (topS 90), [], []⟩
def fnAll : List He.DefD := [d_LoreError_ini, d_BadText_ini, d_Row_ini, d_Row_sort_here, d_Row_thing, d_Row_is_sign, d_Row_is_kept, d_Row_wrong, d_Row_step, d_Row_need_sign, d_Row_need_name, d_Row_need_end, d_is_word, d_is_name, d_is_number, d_value_text, d_run_end, d_is_full, d_run_thing, d_word_thing, d_begins_number, d_next_thing, d_things_of, d_read_leaf, d_read_product, d_read_sum, d_read_test, d_read_term, d_read_atom, d_read_part, d_read_parts, d_read_arg, d_read_args, d_read_rule, d_read_question, d_read_tests, d_read_paper, d_tightness, d_wrapped, d_sum_text, d_term_text, d_atom_text, d_part_text, d_arg_text, d_args_text, d_parts_text, d_rule_text, d_question_text, d__law_bag, d__law_pull, d__law_one, d__law_same, d__law_barred, d__law_word, d__law_names, d__law_number, d__law_value, d__law_value_text, d__law_close, d__law_within, d__law_sum_text, d__law_term_text, d__law_part_text, d__law_arg_text, d__law_listed, d__law_rule_text, d__law_asking, d__law_terms, d__law_atom, d__law_leaf, d__law_sum, d__law_test, d__law_not, d__law_body, d__law_fold_arg, d__law_spread, d__law_any_rule, d__law_full_parts, d_law]
def faAll : List He.Fa := [.glo "is_word", .glo "is_name", .glo "is_number", .glo "value_text", .glo "run_end", .glo "is_full", .glo "run_thing", .glo "word_thing", .glo "begins_number", .glo "next_thing", .glo "things_of", .glo "read_leaf", .glo "read_product", .glo "read_sum", .glo "read_test", .glo "read_term", .glo "read_atom", .glo "read_part", .glo "read_parts", .glo "read_arg", .glo "read_args", .glo "read_rule", .glo "read_question", .glo "read_tests", .glo "read_paper", .glo "tightness", .glo "wrapped", .glo "sum_text", .glo "term_text", .glo "atom_text", .glo "part_text", .glo "arg_text", .glo "args_text", .glo "parts_text", .glo "rule_text", .glo "question_text", .glo "_law_bag", .glo "_law_pull", .glo "_law_one", .glo "_law_same", .glo "_law_barred", .glo "_law_word", .glo "_law_names", .glo "_law_number", .glo "_law_value", .glo "_law_value_text", .glo "_law_close", .glo "_law_within", .glo "_law_sum_text", .glo "_law_term_text", .glo "_law_part_text", .glo "_law_arg_text", .glo "_law_listed", .glo "_law_rule_text", .glo "_law_asking", .glo "_law_terms", .glo "_law_atom", .glo "_law_leaf", .glo "_law_sum", .glo "_law_test", .glo "_law_not", .glo "_law_body", .glo "_law_fold_arg", .glo "_law_spread", .glo "_law_any_rule", .glo "_law_full_parts", .glo "law", .free "len", .free "list", .free "range", .free "sorted", .free "isinstance", .free "tuple", .free "repr", .free "zip", .free "all", .free "any", .free "min", .free "bool", .free "int", .free "str", .free "ValueError", .glo "LoreError", .glo "TextError", .glo "BadText", .glo "TIGHT", .str "LETTERS" "abcdefghijklmnopqrstuvwxyz", .str "FIGURES" "0123456789", .str "RUN" "abcdefghijklmnopqrstuvwxyz0123456789.", .str "SIGNS" "(),_+-*=<>", .int "MOST_SIGNS" 12, .int "MOST_FIGURES" 30, .int "MOST_DEEP" 12, .int "MOST_TERMS" 4, .int "MOST_PARTS" 6, .int "MOST_ASKED" 8, .glo "Row", .cls "Row", .mkr "Row", .noat "Row" "things", .noat "Row" "spot", .noat "Row" "mine", .noat "Row" "plain", .meth "Row" "sort_here", .meth "Row" "thing", .meth "Row" "is_sign", .meth "Row" "is_kept", .meth "Row" "wrong", .meth "Row" "step", .meth "Row" "need_sign", .meth "Row" "need_name", .meth "Row" "need_end"]
def looseAll : List PySem.Str := (["LoreError", "TextError", "BadText", "is_word", "is_name", "is_number", "value_text", "run_end", "is_full", "run_thing", "word_thing", "begins_number", "next_thing", "things_of", "Row", "read_leaf", "read_product", "read_sum", "read_test", "read_term"] : List PySem.Str) ++ (["read_atom", "read_part", "read_parts", "read_arg", "read_args", "read_rule", "read_question", "read_tests", "read_paper", "tightness", "wrapped", "sum_text", "term_text", "atom_text", "part_text", "arg_text", "args_text", "parts_text", "rule_text", "question_text"] : List PySem.Str) ++ (["_law_bag", "_law_pull", "_law_one", "_law_same", "_law_barred", "_law_word", "_law_names", "_law_number", "_law_value", "_law_value_text", "_law_close", "_law_within", "_law_sum_text", "_law_term_text", "_law_part_text", "_law_arg_text", "_law_listed", "_law_rule_text", "_law_asking", "_law_terms"] : List PySem.Str) ++ (["_law_atom", "_law_leaf", "_law_sum", "_law_test", "_law_not", "_law_body", "_law_fold_arg", "_law_spread", "_law_any_rule", "_law_full_parts", "LETTERS", "FIGURES", "KEPT", "MOST_SIGNS", "MOST_FIGURES", "SIGNS", "RUN", "MOST_TERMS", "MOST_PARTS", "MOST_ASKED"] : List PySem.Str) ++ (["MOST_DEEP", "TESTS", "FOLDS", "TIGHT"] : List PySem.Str)
def dv_TIGHT : List (PySem.Str × Option He.Dv) := [("+", some (.int 1)), ("-", some (.int 1)), ("*", some (.int 2)), ("value", none), ("var", none)]
def tsAll : List He.Tab := [(fun K => He.ga K "TIGHT", ["+", "-", "*"])]
def exL (K : PySem.W.Frag) : List Bool := [SL.ecB K (He.ga K "LoreError"),
 SL.eciB K (He.ga K "LoreError") (He.fAd K ("LoreError", some "__init__")),
 SL.ecB K (He.ga K "TextError"),
 SL.eciB K (He.ga K "TextError") (He.fAd K ("LoreError", some "__init__")),
 SL.ecB K (He.ga K "BadText"),
 SL.eciB K (He.ga K "BadText") (He.fAd K ("BadText", some "__init__")),
 decide (PySem.W.findIn K (.ref (He.ga K "BadText")) "word" = some none),
 decide (PySem.W.findIn K (.ref (He.ga K "BadText")) "at" = some none),
 decide (PySem.W.nsIn K mainGlobals "KEPT" = some (some (.ref (He.ga K "KEPT")))) && He.tupB K "KEPT" ((["if", "not", "is", "count", "sum", "least", "most", "yes", "no", "me"] : List Str).map He.Dv.str),
 decide (PySem.W.nsIn K mainGlobals "TESTS" = some (some (.ref (He.ga K "TESTS")))) && He.tupB K "TESTS" ((["=", "!=", "<", "<=", ">", ">="] : List Str).map He.Dv.str),
 decide (PySem.W.nsIn K mainGlobals "FOLDS" = some (some (.ref (He.ga K "FOLDS")))) && He.tupB K "FOLDS" ((["sum", "least", "most"] : List Str).map He.Dv.str),
 SL.wdB K (He.ga K "TIGHT") dv_TIGHT]
def exAll (K : PySem.W.Frag) : Bool := (exL K).all id
theorem exL_at {K : PySem.W.Frag} {b : Bool} (h : exAll K = true) (i : Nat) (e : (exL K)[i]? = some b) : b = true := List.all_eq_true.mp h b (List.mem_of_getElem? e)
abbrev RR : PySem.W.OpenRow := PySem.W.OpenLaw.row PySem.Challenge.rw_sightlore_k04_whole_rules_there_and_back
abbrev hk : PySem.W.Hook := SL.hookY 4 faAll fnAll tsAll exAll
def obAll (s : PySem.W.SharedT) : He.AlX := SL.obsY 4 faAll fnAll tsAll exAll (HandSHeadRun.getT s)
theorem ob_eq (s : PySem.W.SharedT) : obAll s = hk.obs s.abs := SL.obsY_eq (HandSHeadRun.getT_eq s)
theorem run1 (w : World) : HandSHeadRun.RunEq RR (PySem.W.view RR.prog [90]) hk obAll 8000 looseAll (w.withFollow "special-get-raises" false) := fun os => by kernel_rfl
theorem run2 (w : World) : HandSHeadRun.RunEq RR (PySem.W.view RR.prog [90]) hk obAll 8000 looseAll (w.withFollow "special-get-raises" true) := fun os => by kernel_rfl
theorem run (w : World) : HandSHeadRun.RunEq RR (PySem.W.view RR.prog [90]) hk obAll 8000 looseAll w := PySem.W.byRow2 "special-get-raises" (P := fun w => HandSHeadRun.RunEq RR (PySem.W.view RR.prog [90]) hk obAll 8000 looseAll w) run1 run2 w
local macro_rules | `(tactic| walk_at "q") => `(tactic| repeat walk_at "st")
local macro_rules | `(tactic| walk_at "st") => `(tactic| first
 | with_reducible refine g_seq ?_
 | ((with_reducible show tVar _ _ _ _); refine g_var rfl ?_)
 | with_reducible refine g_c ?_
 | with_reducible refine g_op ?_
 | with_reducible refine g_asg ?_
 | with_reducible refine g_name ?_
 | with_reducible refine g_if ?_
 | with_reducible refine g_test ?_
 | with_reducible refine g_k ?_
 | with_reducible refine g_ret ?_
 | with_reducible refine g_next ?_
 | with_reducible refine g_cons ?_
 | with_reducible refine g_nil ?_
 | with_reducible refine g_call ?_
 | with_reducible refine g_cb ?_
 | with_reducible refine g_ckw ?_
 | with_reducible refine g_fld ?_
 | with_reducible refine g_met ?_
 | with_reducible refine g_sfld ?_
 | with_reducible refine g_fldaug ?_
 | with_reducible refine g_addI ?_
 | with_reducible refine g_subI ?_
 | with_reducible refine g_ltI ?_
 | with_reducible refine g_leI ?_
 | with_reducible refine g_gtI ?_
 | with_reducible refine g_geI ?_
 | with_reducible refine g_eqI ?_
 | with_reducible refine g_eqS ?_
 | with_reducible refine g_eqB ?_
 | with_reducible refine g_neI ?_
 | with_reducible refine g_neS ?_
 | with_reducible refine g_neB ?_
 | ((with_reducible refine g_mulI ?h0 ?_); (case h0 => first | exact mulR (by decide) (by decide) | exact mulL (by decide) (by decide) | exact mulR (by omega) (by omega) | exact mulL (by omega) (by omega)))
 | ((with_reducible refine g_modI ?h0 ?_); (case h0 => first | decide | omega))
 | ((with_reducible refine g_divI ?h0 ?_); (case h0 => first | exact divS (by decide) (by decide) | exact divS (by omega) (by omega)))
 | ((with_reducible refine g_powI ?h0 ?_); (case h0 => exact ⟨by decide +kernel, by decide +kernel, by decide +kernel⟩))
 | ((with_reducible show rIx _ (V.ref _) (V.int _) _ _); refine g_ixL (by first | assumption | exact SqL.of (by assumption)) (by exact rfl) ?_)
 | ((with_reducible show rIx _ (V.ref _) (V.int _) _ _); refine g_ixT (by first | assumption | exact SqT.of (by assumption)) (by exact rfl) ?_)
 | ((with_reducible show uLen _ [V.ref _] _ _); first | refine g_len (.inl (SqL.of (by assumption))) ?_ | refine g_len (.inl (by assumption)) ?_ | refine g_len (.inr (by assumption)) ?_ | refine g_len (.inr (SqT.of (by assumption))) ?_)
 | with_reducible refine g_dget ?_
 | with_reducible refine g_dput ?_
 | with_reducible refine g_bm ?_
 | with_reducible refine g_bm0 ?_
 | with_reducible refine g_tyS ?_
 | ((with_reducible show tyV _ "list" (V.ref _) _ ∧ _); refine g_tyL (by first | assumption | exact SqL.of (by assumption)) ?_)
 | with_reducible refine g_pairs ?_
 | with_reducible refine g_pairs0 ?_
 | with_reducible refine g_for ?_
 | with_reducible refine g_iR1 ?_
 | with_reducible refine g_iR2 ?_
 | with_reducible refine g_iL ?_
 | with_reducible refine g_iT ?_
 | with_reducible refine g_lc ?_
 | with_reducible refine g_lc2 ?_
 | with_reducible refine g_dc ?_
 | with_reducible refine g_din ?_
 | with_reducible refine g_listRg ?_
 | with_reducible refine g_rg1 ?_
 | with_reducible refine g_izA ?_
 | with_reducible refine g_iz ?_
 | ((with_reducible show gTup _ _ _ (V.ref _) _ _ _); first | refine g_gtup (SqT.of upd_same) rfl ?_ | refine g_gtup (by first | assumption | exact SqT.of (by assumption)) rfl ?_)
 | with_reducible refine g_gcons ?_
 | with_reducible refine g_gnil ?_
 | with_reducible refine g_yes ?_
 | with_reducible refine g_andT ?_
 | with_reducible refine g_orT ?_
 | with_reducible refine g_notT ?_
 | with_reducible refine g_truB ?_
 | with_reducible refine g_and ?_
 | with_reducible refine g_or ?_
 | with_reducible refine g_not ?_
 | with_reducible refine g_ifE ?_
 | with_reducible refine g_B ?_
 | with_reducible refine g_un ?_
 | with_reducible refine g_sub ?_
 | with_reducible refine g_drop ?_
 | with_reducible refine g_sl ?_
 | with_reducible refine g_noPart ?_
 | with_reducible refine g_part ?_
 | with_reducible refine g_ki ?_
 | with_reducible refine g_fs ?_
 | with_reducible refine g_js0 ?_
 | with_reducible refine g_js ?_
 | with_reducible refine g_fmt ?_
 | with_reducible refine g_is ?_
 | with_reducible refine g_isNot ?_
 | with_reducible refine g_chain ?_
 | with_reducible refine g_istr ?_
 | with_reducible refine g_rU ?_
 | with_reducible refine g_leS ?_
 | with_reducible refine g_vei ?_
 | with_reducible refine g_dc2 ?_
 | with_reducible refine g_ienT ?_
 | with_reducible refine g_ost ?_
 | with_reducible refine g_xat ?_
 | with_reducible refine g_xs ?_
 | with_reducible refine g_mkE ?_
 | with_reducible refine g_rs ?_
 | with_reducible refine g_mkX ?_
 | with_reducible refine g_try ?_
 | with_reducible refine g_callS ?_
 | (with_reducible refine g_tup ?_)
 | (with_reducible refine g_lst ?_)
 | ((with_reducible refine g_tt ?h0 ?_); (case h0 => decide +kernel))
 | ((with_reducible refine g_ff ?h0 ?_); (case h0 => decide +kernel)))
local macro_rules | `(tactic| walk_at "sz") => `(tactic| (refine le_of ?_; (try simp only [app_len, lit_q, lit_lp, lit_rp, lit_sp, lit_cs, lit_not, lit_is, lit_if, lit_e, lit_dot]); omega))
local macro_rules | `(tactic| walk_at "fs") => `(tactic| first
 | walk_at "st"
 | (refine g_fmtS ?hz ?_; (case hz => walk_at "sz"))
 | (refine g_jsS ?hz ?_; (case hz => walk_at "sz"))
 | (refine g_addS ?hz ?_; (case hz => walk_at "sz")))
local macro_rules | `(tactic| walk_at "if") => `(tactic| ((fail_if_success (with_reducible refine g_seqIf _ _ _ _ _ _ _ ?_)); walk_at "st"))
inductive SumE where
 | val (v : V) | var (x : Str) | op (s : Str) (a b : SumE)
def SumAt (K : PySem.W.Frag) (H : Hp) : SumE → V → Prop
 | .val u, v => ∃ p, v = .ref p ∧ SqT K H p [.str "value", u]
 | .var x, v => ∃ p, v = .ref p ∧ SqT K H p [.str "var", .str x]
 | .op s a b, v => ∃ p y z, v = .ref p ∧ SqT K H p [.str s, y, z] ∧ SumAt K H a y ∧ SumAt K H b z
theorem SumAt.fr {K : PySem.W.Frag} {H H' : Hp} {M : List Addr} (e : Fr M H H') : ∀ {t : SumE} {v : V}, SumAt K H t v → SumAt K H' t v
 | .val _, _, ⟨p, h1, h2⟩ => ⟨p, h1, e.tup h2⟩
 | .var _, _, ⟨p, h1, h2⟩ => ⟨p, h1, e.tup h2⟩
 | .op _ _ _, _, ⟨p, y, z, h1, h2, h3, h4⟩ => ⟨p, y, z, h1, e.tup h2, SumAt.fr e h3, SumAt.fr e h4⟩
def SumE.deep : SumE → Nat
 | .op _ a b => max a.deep b.deep + 1
 | _ => 0
def isSg (s : Str) : Prop := s = "+" ∨ s = "-" ∨ s = "*"
theorem sg_ne {s : Str} (h : isSg s) : s ≠ "value" ∧ s ≠ "var" := by
 rcases h with rfl | rfl | rfl <;> exact ⟨by decide +kernel, by decide +kernel⟩
inductive TermE where
 | any | s (e : SumE)
inductive PartE where
 | atom (no : Bool) (x : Str) (ts : List TermE) | lt (x : Str) (e : SumE) | test (s : Str) (a b : SumE)
inductive ArgE where
 | s (e : SumE) | fold (w : Str) (x : Option Str)
def SumE.d : SumE → PyData
 | .val u => .tuple [.str "value", scD u]
 | .var x => .tuple [.str "var", .str x]
 | .op s a b => .tuple [.str s, a.d, b.d]
def TermE.d : TermE → PyData
 | .any => .tuple [.str "any"]
 | .s e => e.d
def PartE.d : PartE → PyData
 | .atom no x ts => .tuple [.str (if no then "not" else "atom"), .str x, .tuple (ts.map TermE.d)]
 | .lt x e => .tuple [.str "let", .str x, e.d]
 | .test s a b => .tuple [.str "test", .str s, a.d, b.d]
def ArgE.d : ArgE → PyData
 | .s e => e.d
 | .fold w none => .tuple [.str "fold", .str w, .none]
 | .fold w (some x) => .tuple [.str "fold", .str w, .str x]
structure Tx (n : Nat) (t : Str) : Prop where
 len : t.length ≤ n
 ok : ∀ c ∈ t.cps.toList, c < 0x110000
theorem Tx.mono {m n : Nat} {t : Str} (h : Tx m t) (l : m ≤ n) : Tx n t := ⟨Nat.le_trans h.len l, h.ok⟩
theorem tl_app (a b : Str) : (a ++ b).cps.toList = a.cps.toList ++ b.cps.toList := Array.toList_append
theorem Tx.app {m n : Nat} {a b : Str} (h : Tx m a) (k : Tx n b) : Tx (m + n) (a ++ b) := ⟨by rw [app_len]; exact Nat.add_le_add h.len k.len, fun c hc => by
 rw [tl_app, List.mem_append] at hc
 exact hc.elim (h.ok c) (k.ok c)⟩
theorem empty_app (a : Str) : Str.empty ++ a = a := by
 show (⟨#[] ++ a.cps⟩ : Str) = a
 rw [Array.empty_append]
def txB (n : Nat) (t : Str) : Bool := decide (t.length ≤ n) && t.cps.toList.all (fun c => decide (c < 0x110000))
theorem Tx.lit {n : Nat} {t : Str} (h : txB n t = true) : Tx n t := by
 unfold txB at h
 simp only [Bool.and_eq_true, decide_eq_true_eq, List.all_eq_true] at h
 exact ⟨h.1, h.2⟩
theorem Tx.short {n : Nat} {t : Str} (h : Tx n t) (l : n ≤ 9000) : (reprText t).length ≤ sizeLine :=
 le_of (Nat.le_trans (StrLaws.reprText_len t fun c hc => Nat.lt_of_lt_of_le (h.ok c hc) (by decide)) (by have := h.len; omega))
theorem join_cons (y a b : Str) (r : List Str) : Txt.join y (a :: b :: r) = a ++ y ++ Txt.join y (b :: r) := by
 rw [TL.join_eq, TL.join_eq]
 rfl
theorem Tx.join {k m : Nat} {y : Str} (hy : Tx k y) : ∀ {ts : List Str}, (∀ t ∈ ts, Tx m t) → Tx (ts.length * (m + k)) (Txt.join y ts)
 | [], _ => by
  rw [TL.join_eq]
  exact ⟨Nat.zero_le _, fun c hc => nomatch hc⟩
 | [a], h => by
  rw [TL.join_eq]
  exact (h a List.mem_cons_self).mono (by simp)
 | a :: b :: r, h => by
  rw [join_cons]
  refine (((h a List.mem_cons_self).app hy).app (Tx.join hy fun t ht => h t (List.mem_cons_of_mem _ ht))).mono ?_
  simp only [List.length_cons, Nat.succ_mul]
  omega
def valT : V → Str
 | .bl b => if b then "yes" else "no"
 | .int i => toString i
 | .str x => "'" ++ x ++ "'"
 | _ => ""
def tightE : SumE → Nat
 | .op s _ _ => if s = "*" then 2 else 1
 | _ => 3
def wrapS (k : Nat) (e : SumE) (t : Str) : Str := if tightE e < k then "(" ++ t ++ ")" else t
def sumT : SumE → Str
 | .val u => valT u
 | .var x => x
 | .op s a b => wrapS (if s = "*" then 2 else 1) a (sumT a) ++ " " ++ s ++ " " ++ wrapS ((if s = "*" then 2 else 1) + 1) b (sumT b)
def termT : TermE → Str
 | .any => "_"
 | .s e => sumT e
def listT (ts : List Str) : Str := Txt.join ", " ts
def atomT (x : Str) (ts : List TermE) : Str := x ++ "(" ++ listT (ts.map termT) ++ ")"
def partT : PartE → Str
 | .atom no x ts => if no then "not " ++ atomT x ts else atomT x ts
 | .lt x e => x ++ " is " ++ sumT e
 | .test s a b => sumT a ++ " " ++ s ++ " " ++ sumT b
def argT : ArgE → Str
 | .s e => sumT e
 | .fold w none => w
 | .fold w (some x) => w ++ " " ++ x
def argsT (as : List ArgE) : Str := listT (as.map argT)
def partsT (ps : List PartE) : Str := listT (ps.map partT)
def ruleT (h : Str) (as : List ArgE) (ps : List PartE) : Str := if ps = [] then h ++ "(" ++ argsT as ++ ")" else h ++ "(" ++ argsT as ++ ")" ++ " if " ++ partsT ps
def questT (as : List ArgE) (ps : List PartE) : Str := argsT as ++ " if " ++ partsT ps
def ValG (u : V) : Prop := (∃ i : Int, u = .int i ∧ i.natAbs < 10 ^ 30) ∨ (∃ b, u = .bl b) ∨ ∃ x, u = .str x ∧ Tx 12 x
inductive SumG : Nat → SumE → Prop
 | val {n : Nat} {u : V} : ValG u → SumG n (.val u)
 | var {n : Nat} {x : Str} : Tx 12 x → SumG n (.var x)
 | op {n : Nat} {s : Str} {a b : SumE} : isSg s → SumG n a → SumG n b → SumG (n + 1) (.op s a b)
theorem SumG.up {m n : Nat} {e : SumE} (h : SumG m e) (l : m ≤ n) : SumG n e := by
 induction h generalizing n with
 | val h => exact .val h
 | var h => exact .var h
 | op hs _ _ iha ihb =>
  obtain ⟨k, rfl⟩ : ∃ k, n = k + 1 := ⟨n - 1, by omega⟩
  exact .op hs (iha (by omega)) (ihb (by omega))
inductive TermG : TermE → Prop
 | any : TermG .any
 | s {e : SumE} : SumG 0 e → TermG (.s e)
inductive PartG : PartE → Prop
 | atom {no : Bool} {x : Str} {ts : List TermE} : Tx 44 x → ts.length ≤ 4 → (∀ t ∈ ts, TermG t) → PartG (.atom no x ts)
 | lt {x : Str} {e : SumE} : Tx 12 x → SumG 1 e → PartG (.lt x e)
 | test {s : Str} {a b : SumE} : Tx 2 s → SumG 1 a → SumG 1 b → PartG (.test s a b)
inductive ArgG : ArgE → Prop
 | s {e : SumE} : SumG 0 e → ArgG (.s e)
 | fold0 {w : Str} : Tx 5 w → ArgG (.fold w none)
 | fold {w x : Str} : Tx 5 w → Tx 12 x → ArgG (.fold w (some x))
theorem tx_int {i : Int} (h : i.natAbs < 10 ^ 30) : Tx 31 (toString i : Str) := by
 refine ⟨?_, fun c hc => ?_⟩
 ·have e := int_text_length_le10 (k := 30) (by decide) h
  show (Str.ofString (toString i)).length ≤ 31
  rw [PySem.ofString_length]
  exact e
 ·have hc2 : c ∈ (Str.ofString (toString i)).cps.toList := hc
  rw [PyProof.Rows.signs_ofString, List.mem_map] at hc2
  obtain ⟨ch, _, rfl⟩ := hc2
  rcases ch.valid with h | h
  ·exact Nat.lt_trans h (by decide)
  ·exact h.2
theorem ValG.tx {u : V} (h : ValG u) : Tx 31 (valT u) := by
 rcases h with ⟨i, rfl, h⟩ | ⟨b, rfl⟩ | ⟨x, rfl, h⟩
 ·exact tx_int h
 ·cases b
  ·exact Tx.lit (by decide +kernel)
  ·exact Tx.lit (by decide +kernel)
 ·exact (((Tx.lit (n := 1) (by decide +kernel)).app h).app (Tx.lit (n := 1) (by decide +kernel))).mono (by decide)
theorem Tx.wrap {n k : Nat} {e : SumE} {t : Str} (h : Tx n t) : Tx (n + 2) (wrapS k e t) := by
 unfold wrapS
 split
 ·exact (((Tx.lit (n := 1) (by decide +kernel)).app h).app (Tx.lit (n := 1) (by decide +kernel))).mono (by omega)
 ·exact h.mono (by omega)
theorem isSg.tx {s : Str} (h : isSg s) : Tx 1 s := by
 rcases h with rfl | rfl | rfl <;> exact Tx.lit (by decide +kernel)
theorem SumG.tx {m : Nat} {e : SumE} (h : SumG m e) : Tx (48 * 2 ^ m - 7) (sumT e) := by
 induction h with
 | @val n u h => exact h.tx.mono (by have := Nat.one_le_two_pow (n := n); omega)
 | @var n x h => exact h.mono (by have := Nat.one_le_two_pow (n := n); omega)
 | @op n s a b hs _ _ iha ihb =>
  have l1 : Tx 1 (" " : Str) := Tx.lit (by decide +kernel)
  have p := Nat.one_le_two_pow (n := n)
  refine (((((iha.wrap).app l1).app hs.tx).app l1).app ihb.wrap).mono ?_
  rw [Nat.pow_succ]
  omega
theorem SumG.tx4 {m : Nat} {e : SumE} (h : SumG m e) (l : m ≤ 4) : Tx 761 (sumT e) := (h.up l).tx.mono (by decide)
theorem TermG.tx {t : TermE} (h : TermG t) : Tx 41 (termT t) := by
 cases h with
 | any => exact Tx.lit (by decide +kernel)
 | s h => exact h.tx.mono (by decide)
theorem txs_map {α : Type} {f : α → Str} {xs : List α} {n : Nat} (h : ∀ x ∈ xs, Tx n (f x)) : ∀ t ∈ xs.map f, Tx n t := fun t ht => by
 obtain ⟨x, hx, rfl⟩ := List.mem_map.mp ht
 exact h x hx
theorem Tx.list {α : Type} {f : α → Str} {xs : List α} {n k : Nat} (h : ∀ x ∈ xs, Tx n (f x)) (l : xs.length ≤ k) : Tx (k * (n + 2)) (listT (xs.map f)) := by
 refine (Tx.join (k := 2) (y := ", ") (Tx.lit (by decide +kernel)) (txs_map h)).mono ?_
 rw [List.length_map]
 exact Nat.mul_le_mul_right _ l
theorem join_len {α : Type} {f : α → Str} {xs : List α} {n k : Nat} (h : ∀ x ∈ xs, Tx n (f x)) (l : xs.length ≤ k) : (Txt.join ", " (xs.map f)).length ≤ k * (n + 2) := (Tx.list h l).len
theorem join_fits {α : Type} {f : α → Str} {xs : List α} {n k : Nat} (h : ∀ x ∈ xs, Tx n (f x)) (l : xs.length ≤ k) (hk : k * (n + 2) ≤ 16777216) : ((xs.map f).map (·.length)).sum + (xs.map f).length * (", " : Str).length ≤ 16777216 := by
 have z := sum_len (ts := xs.map f) (n := n) fun t ht => (txs_map h t ht).len
 have e : (", " : Str).length = 2 := by decide +kernel
 rw [List.length_map] at z ⊢
 rw [e]
 have z2 : xs.length * n + xs.length * 2 ≤ k * (n + 2) := by rw [← Nat.mul_add]; exact Nat.mul_le_mul_right _ l
 omega
theorem Tx.atom {x : Str} {ts : List TermE} (hx : Tx 44 x) (hl : ts.length ≤ 4) (h : ∀ t ∈ ts, TermG t) : Tx 218 (atomT x ts) :=
 (((hx.app (Tx.lit (n := 1) (by decide +kernel))).app (Tx.list (fun t ht => (h t ht).tx) hl)).app (Tx.lit (n := 1) (by decide +kernel))).mono (by decide)
theorem PartG.tx {p : PartE} (h : PartG p) : Tx 240 (partT p) := by
 cases h with
 | @atom no x ts hx hl h =>
  cases no
  ·exact (Tx.atom hx hl h).mono (by decide)
  ·exact ((Tx.lit (n := 4) (t := "not ") (by decide +kernel)).app (Tx.atom hx hl h)).mono (by decide)
 | lt hx he => exact ((hx.app (Tx.lit (n := 4) (by decide +kernel))).app he.tx).mono (by decide)
 | test hs ha hb => exact ((((ha.tx.app (Tx.lit (n := 1) (by decide +kernel))).app hs).app (Tx.lit (n := 1) (by decide +kernel))).app hb.tx).mono (by decide)
theorem ArgG.tx {a : ArgE} (h : ArgG a) : Tx 41 (argT a) := by
 cases h with
 | s h => exact h.tx.mono (by decide)
 | fold0 h => exact h.mono (by decide)
 | fold h hx => exact ((h.app (Tx.lit (n := 1) (by decide +kernel))).app hx).mono (by decide)
def headE : SumE → Str
 | .val _ => "value"
 | .var _ => "var"
 | .op s _ _ => s
def atomD (a : Bool × Str × List TermE) : PyData := (PartE.atom a.1 a.2.1 a.2.2).d
def atomG (a : Bool × Str × List TermE) : Prop := PartG (.atom a.1 a.2.1 a.2.2)
def argsD (as : List ArgE) : PyData := .tuple (as.map ArgE.d)
def partsD (ps : List PartE) : PyData := .tuple (ps.map PartE.d)
def argsG (as : List ArgE) : Prop := as.length ≤ 8 ∧ ∀ a ∈ as, ArgG a
def partsG (ps : List PartE) : Prop := ps.length ≤ 8 ∧ ∀ p ∈ ps, PartG p
theorem argsG.tx {as : List ArgE} (h : argsG as) : Tx 344 (argsT as) := Tx.list (fun a ha => (h.2 a ha).tx) h.1
theorem partsG.tx {ps : List PartE} (h : partsG ps) : Tx 1936 (partsT ps) := Tx.list (fun a ha => (h.2 a ha).tx) h.1
def ruleD (r : Str × List ArgE × List PartE) : PyData := .tuple [.str r.1, argsD r.2.1, partsD r.2.2]
def ruleG (r : Str × List ArgE × List PartE) : Prop := Tx 12 r.1 ∧ argsG r.2.1 ∧ partsG r.2.2
def questD (r : List ArgE × List PartE) : PyData := .tuple [argsD r.1, partsD r.2]
def questG (r : List ArgE × List PartE) : Prop := argsG r.1 ∧ partsG r.2
theorem td_head {K : PySem.W.Frag} {H : Hp} {e : SumE} {v : V} (h : Td K H v e.d) : ∃ p xs, v = .ref p ∧ SqT K H p (.str (headE e) :: xs) := by
 cases e with
 | val u =>
  obtain ⟨p, x, y, rfl, hp, hx, hy⟩ := Td.t2 (show Td K H v (.tuple [.str "value", scD u]) from h)
  cases hx.str_inv
  exact ⟨p, _, rfl, hp⟩
 | var u =>
  obtain ⟨p, x, y, rfl, hp, hx, hy⟩ := Td.t2 (show Td K H v (.tuple [.str "var", .str u]) from h)
  cases hx.str_inv
  exact ⟨p, _, rfl, hp⟩
 | op s a b =>
  obtain ⟨p, x, y, z, rfl, hp, hx, hy, hz⟩ := Td.t3 (show Td K H v (.tuple [.str s, a.d, b.d]) from h)
  cases hx.str_inv
  exact ⟨p, _, rfl, hp⟩
theorem td_val {K : PySem.W.Frag} {H : Hp} {u v : V} (hu : ValG u) (h : Td K H v (.tuple [.str "value", scD u])) : ∃ p, v = .ref p ∧ SqT K H p [.str "value", u] := by
 obtain ⟨p, x, y, rfl, hp, hx, hy⟩ := h.t2
 cases hx.str_inv
 rcases hu with ⟨i, rfl, _⟩ | ⟨b, rfl⟩ | ⟨x, rfl, _⟩
 ·cases hy.int_inv; exact ⟨p, rfl, hp⟩
 ·cases hy.bl_inv; exact ⟨p, rfl, hp⟩
 ·cases hy.str_inv; exact ⟨p, rfl, hp⟩
theorem sum_deep {m : Nat} {e : SumE} (h : SumG m e) : e.deep ≤ m := by
 induction h with
 | val => exact Nat.zero_le _
 | var => exact Nat.zero_le _
 | op _ _ _ h1 h2 => exact Nat.succ_le_succ (Nat.max_le.mpr ⟨h1, h2⟩)
structure BiT (mg : Str → Option Value) : Prop where
 b_isinstance : mg "isinstance" = none
 b_bool : mg "bool" = none
 b_int : mg "int" = none
 b_str : mg "str" = none
structure Bi (mg : Str → Option Value) : Prop where
 b_len : mg "len" = none
 b_list : mg "list" = none
 b_range : mg "range" = none
def bagO (cs : Addr) (i r k : Int) : HO := .lst [.ref cs, .int i, .int r, .int k]
structure BagAt (H : Hp) (b cs : Addr) : Prop where
 ex : ∃ (cells : List Int) (i r k : Int), H b = some (bagO cs i r k) ∧ H cs = some (.lst (cells.map V.int)) ∧ 0 ≤ i
theorem BagAt.ne {H : Hp} {b cs : Addr} (h : BagAt H b cs) : cs ≠ b := by
 obtain ⟨cells, i, r, k, h1, h2, _⟩ := h.ex
 intro e
 rw [e, h1] at h2
 have h3 : [V.ref cs, .int i, .int r, .int k] = cells.map V.int := HO.lst.inj (Option.some.inj h2)
 cases cells with
 | nil => cases h3
 | cons c r => cases (List.cons.inj h3).1
theorem BagAt.fr {H H' : Hp} {b cs : Addr} {M : List Addr} (h : BagAt H b cs) (e : Fr M H H') (n1 : b ∉ M) (n2 : cs ∉ M) : BagAt H' b cs := by
 obtain ⟨cells, i, r, k, h1, h2, h3⟩ := h.ex
 exact ⟨cells, i, r, k, e.at h1 n1, e.at h2 n2, h3⟩
theorem BagAt.fr0 {H H' : Hp} {b cs : Addr} (h : BagAt H b cs) (e : Fr [] H H') : BagAt H' b cs := h.fr e (fun z => nomatch z) (fun z => nomatch z)
theorem BagAt.put {H : Hp} {b cs : Addr} (h : BagAt H b cs) {i r k : Int} (hi : 0 ≤ i) : BagAt (upd H b (bagO cs i r k)) b cs := by
 obtain ⟨cells, _, _, _, h1, h2, h3⟩ := h.ex
 exact ⟨cells, i, r, k, upd_same, by rw [upd_ne h.ne]; exact h2, hi⟩
theorem BagAt.frp {H : Hp} {b cs : Addr} (h : BagAt H b cs) {o : HO} : Fr [b] H (upd H b o) := by
 obtain ⟨cells, i, r, k, h1, h2, h3⟩ := h.ex
 exact Fr.mut (List.mem_singleton.mpr rfl) h1 nofix_lst
theorem BagAt.some {H : Hp} {b cs : Addr} (h : BagAt H b cs) {p : Addr} (hp : H p = none) : p ≠ b ∧ p ≠ cs := by
 obtain ⟨cells, i, r, k, h1, h2, h3⟩ := h.ex
 exact ⟨fun e => (by rw [e, h1] at hp; cases hp), fun e => (by rw [e, h2] at hp; cases hp)⟩
def spBag (K : PySem.W.Frag) : Sp := fun vs H Q _ => ∃ (a : Addr) (ns : List Int), vs = [.ref a] ∧ SqL K H a (ns.map V.int) ∧ ns.length ≤ 63 ∧
 ∀ b cs H', Fr [] H H' → H b = none → BagAt H' b cs → Q (.ref b) H'
def spPull : Sp := fun vs H Q _ => ∃ (b cs : Addr) (u : Int), vs = [.ref b, .int u] ∧ BagAt H b cs ∧ 0 < u ∧ u < 2 ^ 200 ∧
 ∀ d H', 0 ≤ d → d < u → BagAt H' b cs → Fr [b] H H' → Q (.int d) H'
abbrev s__law_bag : Stmt := topS 60
theorem sc__law_bag : FnScope ["_law_script", "_law_cells", "_law_knot", "_law_cell"] ["_law_script"] (defScope s__law_bag) := ⟨rfl, rfl, rfl, by decide +kernel, rfl, by decide +kernel, by decide +kernel⟩
abbrev s__law_pull : Stmt := topS 61
theorem sc__law_pull : FnScope ["_law_bag_here", "_law_upto", "_law_seed", "_law_fold", "_law_twist", "_law_drawn"] ["_law_bag_here", "_law_upto"] (defScope s__law_pull) := ⟨rfl, rfl, rfl, by decide +kernel, rfl, by decide +kernel, by decide +kernel⟩
section
variable {P : Program} {w : World} {K : PySem.W.Frag} {mg : Str → Option Value} {base : Heap}
theorem ok__law_bag {f : Addr} {fd : FuncData} (F : FnP K "_law_bag" s__law_bag f fd) (B : Bi mg) : FnG P w K mg base CX0 10 f fd ["_law_script"] (spBag K) := by
 refine okG F sc__law_bag (fun vs H Q E h => ?_) (fun cdv A outer s H vs Q E hr h => ?_)
 ·obtain ⟨a, ns, rfl, _⟩ := h
  rfl
 obtain ⟨a, ns, rfl, hS, hl, q⟩ := h
 refine ⟨_, PSs.nox (pss_cons (ps_set (i := 1) sc__law_bag.nd rfl (.inl rfl) (pe_callTy (kCall (K := K) (r := uList) rfl callu_list) (by rfl) B.b_list (by decide +kernel) (pa_cons (pe_slice (kSl (K := K) (r := rSlL) rfl sl_list) (pv 0) po_none (po_some pe_int)) pa_nil)))
 (pss_cons (ps_set (i := 2) sc__law_bag.nd rfl (.inl rfl) (pe_op (kOp (K := K) (r := uAdd) rfl opu_add) pe_int (pe_callB (kCall (K := K) (r := uLen) rfl callu_len) (by rfl) B.b_len (by decide +kernel) (pa_cons (pv 1) pa_nil))))
 (pss_cons (ps_for PassesOwn.never rfl (pi_listK (K := K) rfl (pv 1)) (pg_name (i := 3) sc__law_bag.nd rfl (by first | exact Or.inl rfl | exact Or.inr rfl)) (pss_one (ps_set (i := 2) sc__law_bag.nd rfl (.inl rfl) (pe_op opu_mod (pe_op (kOp (K := K) (r := uAdd) rfl opu_add) (pe_op opu_mul (pv 2) pe_int) (pv 3)) pe_int))))
 (pss_one (ps_ret (pe_lst (pa_cons (pv 1) (pa_cons pe_int (pa_cons pe_int (pa_cons (pv 2) pa_nil)))))))))), rd_start (σ0 := [some (.ref a), none, none, none]) rfl ?_⟩
 walk_at "q"
 refine g_slL hS fun p1 hp1 => ?_
 walk_at "q"
 refine g_list (.inl (SqL.of upd_same)) fun p2 hp2 => ?_
 have ec : cutV (ns.map V.int) none (some 63) = ns.map V.int := by
  have z := cut0 (ns.map V.int) 63
  rw [List.take_of_length_le (by rw [List.length_map]; omega)] at z
  exact z
 rw [ec] at hp2 ⊢
 have e2 : Fr [] H (upd (upd H p1 (.lst (ns.map V.int))) p2 (.lst (ns.map V.int))) := (Fr.new hp1).trans (Fr.new hp2)
 have h2 : (upd (upd H p1 (.lst (ns.map V.int))) p2 (.lst (ns.map V.int))) p2 = some (.lst (ns.map V.int)) := upd_same
 generalize upd (upd H p1 (.lst (ns.map V.int))) p2 (.lst (ns.map V.int)) = H2 at *
 walk_at "q"
 refine ⟨_, rfl, ⟨_, SqL.of h2⟩, for_list (K := K) (a := p2) (xs := ns.map V.int) (fun i σ H' => ∃ (k : Int) (c : Option V), σ = [some (.ref a), some (.ref p2), some (.int k), c] ∧ H' = H2) ⟨_, _, rfl, rfl⟩ (fun i σ H' _ h => ?_) (fun i x σ H' hi h => ?_) (fun σ H' h => ?_)⟩
 ·obtain ⟨k, c, rfl, rfl⟩ := h
  exact SqL.of h2
 ·obtain ⟨k, c, rfl, rfl⟩ := h
  obtain ⟨n, _, rfl⟩ := List.mem_map.mp (List.mem_of_getElem? hi)
  walk_at "q"
  exact ⟨_, _, rfl, rfl⟩
 ·obtain ⟨k, c, rfl, rfl⟩ := h
  walk_at "q"
  refine ⟨le_of (by simp), fun p3 hp3 => ?_⟩
  refine q p3 p2 _ (e2.trans (Fr.new hp3)) (e2.back (fun z => nomatch z) hp3) ⟨ns, 0, 0, k, upd_same, by rw [upd_ne (ne_of_none h2 hp3)]; exact h2, Int.le_refl 0⟩
theorem ok__law_pull {f : Addr} {fd : FuncData} (F : FnP K "_law_pull" s__law_pull f fd) (B : Bi mg) : FnG P w K mg base CX0 10 f fd ["_law_bag_here", "_law_upto"] spPull := by
 refine okG F sc__law_pull (fun vs H Q E h => ?_) (fun cdv A outer s H vs Q E hr h => ?_)
 ·obtain ⟨b, cs, u, rfl, _⟩ := h
  rfl
 obtain ⟨b, cs, u, rfl, hB, hu0, hu1, q⟩ := h
 obtain ⟨cells, i, r, k, hb, hc, hi⟩ := id hB.ex
 refine ⟨_, PSs.nox (pss_cons (ps_if (pt_cmpR (kOp (K := K) (r := uLt) rfl opu_lt) (pe_ix (kIx (K := K) (r := rIx) rfl ix_seq) (pv 0) pe_int (fun _ _ => rfl)) pe_int (nomark _)) (pss_cons (ps_asg (pe_op (kOp (K := K) (r := uAdd) rfl opu_add) (pe_ix (kIx (K := K) (r := rIx) rfl ix_seq) (pv 0) pe_int (fun _ _ => rfl)) pe_int) (pg_sub (pv 0) pe_int set_list))
 (pss_cons (ps_set (i := 2) sc__law_pull.nd rfl (.inl rfl) (pe_op (kOp (K := K) (r := uAdd) rfl opu_add) (pe_ix (kIx (K := K) (r := rIx) rfl ix_seq) (pv 0) pe_int (fun _ _ => rfl)) (pe_op opu_mul (pe_ix (kIx (K := K) (r := rIx) rfl ix_seq) (pv 0) pe_int (fun _ _ => rfl)) pe_int)))
 (pss_cons (ps_if (pt_cmpR opu_le (pe_ix (kIx (K := K) (r := rIx) rfl ix_seq) (pv 0) pe_int (fun _ _ => rfl)) (pe_callB (kCall (K := K) (r := uLen) rfl callu_len) (by rfl) B.b_len (by decide +kernel) (pa_cons (pe_ix (kIx (K := K) (r := rIx) rfl ix_seq) (pv 0) pe_int (fun _ _ => rfl)) pa_nil)) (nomark _)) (pss_one (ps_set (i := 2) sc__law_pull.nd rfl (.inl rfl) (pe_ix (kIx (K := K) (r := rIx) rfl ix_seq) (pe_ix (kIx (K := K) (r := rIx) rfl ix_seq) (pv 0) pe_int (fun _ _ => rfl)) (pe_op opu_sub (pe_ix (kIx (K := K) (r := rIx) rfl ix_seq) (pv 0) pe_int (fun _ _ => rfl)) pe_int) (fun _ _ => rfl)))) pss_nil)
 (pss_cons (ps_if (PW.pt (pw_or (pt_cmpR opu_gt (pe_ix (kIx (K := K) (r := rIx) rfl ix_seq) (pv 0) pe_int (fun _ _ => rfl)) (pe_callB (kCall (K := K) (r := uLen) rfl callu_len) (by rfl) B.b_len (by decide +kernel) (pa_cons (pe_ix (kIx (K := K) (r := rIx) rfl ix_seq) (pv 0) pe_int (fun _ _ => rfl)) pa_nil)) (nomark _)) (pw_or1 (pt_cmpR (kOp (K := K) (r := uLt) rfl opu_lt) (pv 2) (pe_op opu_pow pe_int pe_int) (nomark _))))) (pss_cons (ps_set (i := 3) sc__law_pull.nd rfl (.inl rfl) (pe_op opu_mod (pe_op (kOp (K := K) (r := uAdd) rfl opu_add) (pe_op (kOp (K := K) (r := uAdd) rfl opu_add) (pe_op opu_mul (pv 2) pe_int) (pe_op opu_mul (pe_ix (kIx (K := K) (r := rIx) rfl ix_seq) (pv 0) pe_int (fun _ _ => rfl)) pe_int)) (pe_ix (kIx (K := K) (r := rIx) rfl ix_seq) (pv 0) pe_int (fun _ _ => rfl))) pe_int))
 (pss_cons (ps_set (i := 4) sc__law_pull.nd rfl (.inl rfl) (pe_op opu_mod (pe_op (kOp (K := K) (r := uAdd) rfl opu_add) (pe_op opu_mul (pv 3) (pv 3)) (pe_ix (kIx (K := K) (r := rIx) rfl ix_seq) (pv 0) pe_int (fun _ _ => rfl))) pe_int))
 (pss_one (ps_ret (pe_op opu_mod (pe_op opu_div (pe_op opu_mod (pe_op (kOp (K := K) (r := uAdd) rfl opu_add) (pe_op opu_mul (pv 4) pe_int) (pv 3)) pe_int) pe_int) (pv 1)))))) pss_nil)
 (pss_one (ps_asg (pv 2) (pg_sub (pv 0) pe_int set_list))))))) pss_nil)
 (pss_cons (ps_set (i := 5) sc__law_pull.nd rfl (.inl rfl) (pe_op opu_mod (pe_ix (kIx (K := K) (r := rIx) rfl ix_seq) (pv 0) pe_int (fun _ _ => rfl)) (pv 1)))
 (pss_cons (ps_asg (pe_op opu_div (pe_ix (kIx (K := K) (r := rIx) rfl ix_seq) (pv 0) pe_int (fun _ _ => rfl)) (pv 1)) (pg_sub (pv 0) pe_int set_list))
 (pss_one (ps_ret (pv 5)))))), rd_start (σ0 := [some (.ref b), some (.int u), none, none, none, none]) rfl ?_⟩
 unfold bagO at hb
 have hcb := hB.ne
 walk_at "q"
 refine g_by (fun c1 => ?_) (fun c1 => ?_)
 ·walk_at "q"
  refine g_setL (j := 1) hb rfl ?_
  have hb1 : (upd H b (.lst ([V.ref cs, .int i, .int r, .int k].set 1 (.int (i + 1))))) b = some (.lst [V.ref cs, .int (i + 1), .int r, .int k]) := upd_same
  have hc1 : (upd H b (.lst ([V.ref cs, .int i, .int r, .int k].set 1 (.int (i + 1))))) cs = some (.lst (cells.map V.int)) := by rw [upd_ne hcb]; exact hc
  have hf1 : Fr [b] H (upd H b (.lst ([V.ref cs, .int i, .int r, .int k].set 1 (.int (i + 1))))) := hB.frp
  generalize upd H b (.lst ([V.ref cs, .int i, .int r, .int k].set 1 (.int (i + 1)))) = H1 at *
  walk_at "q"
  refine g_by (fun c2 => ?_) (fun c2 => ?_)
  ·walk_at "q"
   have hl : i + 1 ≤ (cells.length : Int) := by rw [List.length_map] at c2; exact c2
   obtain ⟨j, rfl⟩ : ∃ j : Nat, i = (j : Int) := ⟨i.toNat, by omega⟩
   have hj : j < cells.length := by omega
   have hat : atI (cells.map V.int) ((j : Int) + 1 - 1) = some (.int cells[j]) := by
    rw [show (j : Int) + 1 - 1 = (j : Int) by omega]
    exact atI_nat (by rw [List.getElem?_map, List.getElem?_eq_getElem hj]; rfl)
   refine g_ixL (SqL.of hc1) hat ?_
   generalize cells[j] = seed
   walk_at "q"
   have hB1 : BagAt H1 b cs := ⟨cells, _, r, k, hb1, hc1, by omega⟩
   refine g_by (fun c3 => ?_) (fun c3 => ?_)
   ·have key : ∀ z : Int, Q (.int (z % u)) H1 := fun z => q _ _ (Int.emod_nonneg _ (by omega)) (Int.emod_lt_of_pos _ hu0) hB1 hf1
    walk_at "q"
    exact key _
   ·walk_at "q"
    refine g_by (fun c4 => ?_) (fun c4 => ?_)
    ·have key : ∀ z : Int, Q (.int (z % u)) H1 := fun z => q _ _ (Int.emod_nonneg _ (by omega)) (Int.emod_lt_of_pos _ hu0) hB1 hf1
     walk_at "q"
     exact key _
    ·walk_at "q"
     refine g_setL (j := 2) hb1 rfl ?_
     have hb2 : (upd H1 b (.lst ([V.ref cs, .int ((j : Int) + 1), .int r, .int k].set 2 (.int seed)))) b = some (.lst [V.ref cs, .int ((j : Int) + 1), .int seed, .int k]) := upd_same
     have hB2 : BagAt (upd H1 b (.lst ([V.ref cs, .int ((j : Int) + 1), .int r, .int k].set 2 (.int seed)))) b cs := hB1.put (by omega)
     have hf2 : Fr [b] H (upd H1 b (.lst ([V.ref cs, .int ((j : Int) + 1), .int r, .int k].set 2 (.int seed)))) := hf1.trans hB1.frp
     generalize upd H1 b (.lst ([V.ref cs, .int ((j : Int) + 1), .int r, .int k].set 2 (.int seed))) = H2 at *
     walk_at "q"
     refine g_setL (j := 2) hb2 rfl ?_
     walk_at "q"
     exact q _ _ (Int.emod_nonneg _ (by omega)) (Int.emod_lt_of_pos _ hu0) (hB2.put (by omega)) (hf2.trans hB2.frp)
  ·walk_at "q"
   generalize k + (i + 1) * 7919 = seed
   walk_at "q"
   have hB1 : BagAt H1 b cs := ⟨cells, _, r, k, hb1, hc1, by omega⟩
   refine g_by (fun c3 => ?_) (fun c3 => ?_)
   ·have key : ∀ z : Int, Q (.int (z % u)) H1 := fun z => q _ _ (Int.emod_nonneg _ (by omega)) (Int.emod_lt_of_pos _ hu0) hB1 hf1
    walk_at "q"
    exact key _
   ·walk_at "q"
    refine g_by (fun c4 => ?_) (fun c4 => ?_)
    ·have key : ∀ z : Int, Q (.int (z % u)) H1 := fun z => q _ _ (Int.emod_nonneg _ (by omega)) (Int.emod_lt_of_pos _ hu0) hB1 hf1
     walk_at "q"
     exact key _
    ·walk_at "q"
     refine g_setL (j := 2) hb1 rfl ?_
     have hb2 : (upd H1 b (.lst ([V.ref cs, .int (i + 1), .int r, .int k].set 2 (.int seed)))) b = some (.lst [V.ref cs, .int (i + 1), .int seed, .int k]) := upd_same
     have hB2 : BagAt (upd H1 b (.lst ([V.ref cs, .int (i + 1), .int r, .int k].set 2 (.int seed)))) b cs := hB1.put (by omega)
     have hf2 : Fr [b] H (upd H1 b (.lst ([V.ref cs, .int (i + 1), .int r, .int k].set 2 (.int seed)))) := hf1.trans hB1.frp
     generalize upd H1 b (.lst ([V.ref cs, .int (i + 1), .int r, .int k].set 2 (.int seed))) = H2 at *
     walk_at "q"
     refine g_setL (j := 2) hb2 rfl ?_
     walk_at "q"
     exact q _ _ (Int.emod_nonneg _ (by omega)) (Int.emod_lt_of_pos _ hu0) (hB2.put (by omega)) (hf2.trans hB2.frp)
 ·walk_at "q"
  refine g_setL (j := 2) hb rfl ?_
  walk_at "q"
  exact q _ _ (Int.emod_nonneg _ (by omega)) (Int.emod_lt_of_pos _ hu0) (hB.put hi) hB.frp
end
theorem atI_in {α : Type} {xs : List α} {d : Int} (h0 : 0 ≤ d) (h1 : d < (xs.length : Int)) : ∃ v, v ∈ xs ∧ atI xs d = some v := by
 obtain ⟨j, rfl⟩ : ∃ j : Nat, d = (j : Int) := ⟨d.toNat, by omega⟩
 have hj : j < xs.length := by omega
 exact ⟨xs[j], List.getElem_mem hj, atI_nat (List.getElem?_eq_getElem hj)⟩
def spOne (K : PySem.W.Frag) : Sp := fun vs H Q _ => ∃ (b cs r : Addr) (xs : List V), vs = [.ref b, .ref r] ∧ BagAt H b cs ∧ ((SqL K H r xs ∧ r ≠ b) ∨ SqT K H r xs) ∧ 0 < xs.length ∧ xs.length ≤ 1000 ∧
 ∀ v H', v ∈ xs → BagAt H' b cs → Fr [b] H H' → Q v H'
abbrev s__law_one : Stmt := topS 62
theorem sc__law_one : FnScope ["_law_bag_here", "_law_row"] ["_law_bag_here", "_law_row"] (defScope s__law_one) := ⟨rfl, rfl, rfl, by decide +kernel, rfl, by decide +kernel, by decide +kernel⟩
section
variable {P : Program} {w : World} {K : PySem.W.Frag} {mg : Str → Option Value} {base : Heap}
theorem ok__law_one {f : Addr} {fd : FuncData} (F : FnP K "_law_one" s__law_one f fd) (B : Bi mg) (C__law_pull : CalG P w K mg base 10 "_law_pull" spPull) : FnG P w K mg base CX0 20 f fd ["_law_bag_here", "_law_row"] (spOne K) := by
 refine okG F sc__law_one (fun vs H Q E h => ?_) (fun cdv A outer s H vs Q E hr h => ?_)
 ·obtain ⟨b, cs, r, xs, rfl, _⟩ := h
  rfl
 obtain ⟨b, cs, r, xs, rfl, hB, hx, h0, h1, q⟩ := h
 refine ⟨_, PSs.nox (pss_one (ps_ret (pe_ix (kIx (K := K) (r := rIx) rfl ix_seq) (pv 1) (pe_calG C__law_pull hr rfl (pa_cons (pv 0) (pa_cons (pe_callB (kCall (K := K) (r := uLen) rfl callu_len) (by rfl) B.b_len (by decide +kernel) (pa_cons (pv 1) pa_nil)) pa_nil))) (fun _ _ => rfl)))), rd_start (σ0 := [some (.ref b), some (.ref r)]) rfl ?_⟩
 walk_at "q"
 refine g_len (hx.imp (fun z => z.1) id) ?_
 walk_at "q"
 refine ⟨b, cs, _, rfl, hB, by omega, Int.lt_of_le_of_lt (b := 1000) (by omega) (by decide), fun d H' d0 d1 hB' hF => ?_⟩
 obtain ⟨v, hv, ha⟩ := atI_in d0 d1
 rcases hx with ⟨hx, hn⟩ | hx
 ·exact g_ixL (hF.seq (fun z => hn (List.mem_singleton.mp z)) hx) ha (q v H' hv hB' hF)
 ·exact g_ixT (hF.tup hx) ha (q v H' hv hB' hF)
end
def isLet (c : Nat) : Bool := decide (97 ≤ c ∧ c ≤ 122)
def isFig (c : Nat) : Bool := decide (48 ≤ c ∧ c ≤ 57)
def WordP (x : Str) : Prop := ∃ c r, x.cps.toList = c :: r ∧ isLet c = true ∧ (∀ d ∈ r, (isLet d || isFig d) = true) ∧ r.length ≤ 11
def signs36 : Str := "abcdefghijklmnopqrstuvwxyz0123456789"
theorem signs36_list : signs36.cps.toList = [97, 98, 99, 100, 101, 102, 103, 104, 105, 106, 107, 108, 109, 110, 111, 112, 113, 114, 115, 116, 117, 118, 119, 120, 121, 122, 48, 49, 50, 51, 52, 53, 54, 55, 56, 57] := by decide +kernel
theorem signs36_at {d : Int} (h0 : 0 ≤ d) (h1 : d < 36) : ∃ c, atI signs36.cps.toList d = some c ∧ (isLet c || isFig c) = true := by
 obtain ⟨c, hc, ha⟩ := atI_in (xs := signs36.cps.toList) h0 (by rw [signs36_list]; exact h1)
 refine ⟨c, ha, ?_⟩
 rw [signs36_list] at hc
 have z : ∀ x ∈ ([97, 98, 99, 100, 101, 102, 103, 104, 105, 106, 107, 108, 109, 110, 111, 112, 113, 114, 115, 116, 117, 118, 119, 120, 121, 122, 48, 49, 50, 51, 52, 53, 54, 55, 56, 57] : List Nat), (isLet x || isFig x) = true := by decide
 exact z c hc
theorem signs26_at {d : Int} (h0 : 0 ≤ d) (h1 : d < 26) : ∃ c, atI signs36.cps.toList d = some c ∧ isLet c = true := by
 obtain ⟨j, rfl⟩ : ∃ j : Nat, d = (j : Int) := ⟨d.toNat, by omega⟩
 have hj : j < 26 := by omega
 have z : ∀ j : Nat, j < 26 → ∃ c, signs36.cps.toList[j]? = some c ∧ isLet c = true := by
  rw [signs36_list]
  intro j hj
  have y : ∀ i : Fin 26, isLet (([97, 98, 99, 100, 101, 102, 103, 104, 105, 106, 107, 108, 109, 110, 111, 112, 113, 114, 115, 116, 117, 118, 119, 120, 121, 122, 48, 49, 50, 51, 52, 53, 54, 55, 56, 57] : List Nat).getD i.val 0) = true := by decide
  have y2 := y ⟨j, hj⟩
  have hl : j < ([97, 98, 99, 100, 101, 102, 103, 104, 105, 106, 107, 108, 109, 110, 111, 112, 113, 114, 115, 116, 117, 118, 119, 120, 121, 122, 48, 49, 50, 51, 52, 53, 54, 55, 56, 57] : List Nat).length := by
   show j < 36
   omega
  refine ⟨_, List.getElem?_eq_getElem hl, ?_⟩
  rw [List.getD_eq_getElem?_getD, List.getElem?_eq_getElem hl] at y2
  exact y2
 obtain ⟨c, h1, h2⟩ := z j hj
 exact ⟨c, atI_nat h1, h2⟩
theorem len_le12 {x : Str} (h : WordP x) : x.length ≤ 12 := by
 obtain ⟨c, r, e, _, _, l⟩ := h
 rw [TL.len_tl]
 show x.cps.toList.length ≤ 12
 rw [e, List.length_cons]
 omega
def spWord : Sp := fun vs H Q _ => ∃ (b cs : Addr), vs = [.ref b] ∧ BagAt H b cs ∧ ∀ x H', WordP x → BagAt H' b cs → Fr [b] H H' → Q (.str x) H'
abbrev s__law_word : Stmt := topS 65
theorem sc__law_word : FnScope ["_law_bag_here", "_law_signs", "_law_word_here", "_law_k"] ["_law_bag_here"] (defScope s__law_word) := ⟨rfl, rfl, rfl, by decide +kernel, rfl, by decide +kernel, by decide +kernel⟩
section
variable {P : Program} {w : World} {K : PySem.W.Frag} {mg : Str → Option Value} {base : Heap}
theorem ok__law_word {f : Addr} {fd : FuncData} (F : FnP K "_law_word" s__law_word f fd) (B : Bi mg) (C__law_pull : CalG P w K mg base 10 "_law_pull" spPull) (C__law_one : CalG P w K mg base 20 "_law_one" (spOne K)) : FnG P w K mg base CX0 30 f fd ["_law_bag_here"] spWord := by
 refine okG F sc__law_word (fun vs H Q E h => ?_) (fun cdv A outer s H vs Q E hr h => ?_)
 ·obtain ⟨b, cs, rfl, _⟩ := h
  rfl
 obtain ⟨b, cs, rfl, hB, q⟩ := h
 refine ⟨_, PSs.nox (pss_cons (ps_set (i := 1) sc__law_word.nd rfl (.inl rfl) pe_str)
 (pss_cons (ps_set (i := 2) sc__law_word.nd rfl (.inl rfl) (pe_ix (kIx (K := K) (r := rIx) rfl ix_seq) (pv 1) (pe_calG C__law_pull hr rfl (pa_cons (pv 0) (pa_cons pe_int pa_nil))) (fun _ _ => rfl)))
 (pss_cons (ps_for PassesOwn.never rfl (pi_range1 rfl B.b_range (pa_cons (pe_calG C__law_pull hr rfl (pa_cons (pv 0) (pa_cons (pe_calG C__law_one hr rfl (pa_cons (pv 0) (pa_cons (pe_lst (pa_cons pe_int (pa_cons pe_int pa_nil))) pa_nil))) pa_nil))) pa_nil)) (pg_name (i := 3) sc__law_word.nd rfl (by first | exact Or.inl rfl | exact Or.inr rfl)) (pss_one (ps_set (i := 2) sc__law_word.nd rfl (.inl rfl) (pe_op (kOp (K := K) (r := uAdd) rfl opu_add) (pv 2) (pe_ix (kIx (K := K) (r := rIx) rfl ix_seq) (pv 1) (pe_calG C__law_pull hr rfl (pa_cons (pv 0) (pa_cons pe_int pa_nil))) (fun _ _ => rfl))))))
 (pss_one (ps_ret (pv 2)))))), rd_start (σ0 := [some (.ref b), none, none, none]) rfl ?_⟩
 walk_at "q"
 refine ⟨b, cs, _, rfl, hB, by decide, by decide, fun d H1 d0 d1 hB1 hF1 => ?_⟩
 obtain ⟨c0, ha, hc0⟩ := signs26_at d0 d1
 refine g_ixS (le_of (by decide)) ha ?_
 walk_at "q"
 refine ⟨le_of (by decide), fun p hp => ?_⟩
 have hF2 : Fr [b] H1 (upd H1 p (.lst [V.int 3, .int 12])) := Fr.new hp
 have hB2 := hB1.fr0 (Fr.new (M := []) (o := .lst [V.int 3, .int 12]) hp)
 have hpl : (upd H1 p (.lst [V.int 3, .int 12])) p = some (.lst [V.int 3, .int 12]) := upd_same
 generalize upd H1 p (.lst [V.int 3, .int 12]) = H2 at *
 walk_at "q"
 refine ⟨b, cs, p, [V.int 3, .int 12], rfl, hB2, .inl ⟨SqL.of hpl, (hB1.some hp).1⟩, by decide, by decide, fun v H3 hv hB3 hF3 => ?_⟩
 obtain ⟨n, rfl, n0, n1⟩ : ∃ n : Int, v = .int n ∧ 0 < n ∧ n ≤ 12 := by
  rcases List.mem_cons.mp hv with e | hv
  ·exact ⟨3, e, by decide, by decide⟩
  ·exact ⟨12, List.mem_singleton.mp hv, by decide, by decide⟩
 walk_at "q"
 refine ⟨b, cs, n, rfl, hB3, n0, Int.lt_of_le_of_lt n1 (by decide), fun m H4 m0 m1 hB4 hF4 => ?_⟩
 walk_at "q"
 refine ⟨m, rfl, by omega, by omega, for_range (lo := 0) (n := m.toNat) (fun i σ H' => ∃ (x : Str) (z : Option V), σ = [some (.ref b), some (.str signs36), some (.str x), z] ∧ Fr [b] H H' ∧ BagAt H' b cs ∧
  ∃ r, x.cps.toList = c0 :: r ∧ (∀ d ∈ r, (isLet d || isFig d) = true) ∧ r.length = i) ⟨_, _, rfl, ((hF1.trans hF2).trans hF3).trans hF4, hB4, [], rfl, (fun _ z => nomatch z), rfl⟩ (fun i σ H' hi h => ?_) (fun σ H' h => ?_)⟩
 ·obtain ⟨x, z, rfl, hF, hB', r, hx, hr1, hr2⟩ := h
  walk_at "q"
  refine ⟨b, cs, _, rfl, hB', by decide, by decide, fun d H5 d0 d1 hB5 hF5 => ?_⟩
  obtain ⟨c1, ha1, hc1⟩ := signs36_at d0 d1
  refine g_ixS (le_of (by decide)) ha1 ?_
  have hxl : x.length = r.length + 1 := by rw [TL.len_tl]; show x.cps.toList.length = _; rw [hx]; rfl
  refine g_addS (le_of (by rw [hxl]; show r.length + 1 + 1 ≤ _; omega)) ?_
  walk_at "q"
  refine ⟨_, _, rfl, hF.trans hF5, hB5, r ++ [c1], ?_, ?_, by rw [List.length_append, hr2]; rfl⟩
  ·show TL.tl (x ++ ⟨#[c1]⟩) = _
   rw [TL.tl_append]
   show x.cps.toList ++ [c1] = _
   rw [hx]
   rfl
  ·intro d hd
   rcases List.mem_append.mp hd with hd | hd
   ·exact hr1 d hd
   ·rw [List.mem_singleton.mp hd]; exact hc1
 ·obtain ⟨x, z, rfl, hF, hB', r, hx, hr1, hr2⟩ := h
  walk_at "q"
  exact q x H' ⟨c0, r, hx, hc0, hr1, by omega⟩ hB' hF
end
def spNumber : Sp := fun vs H Q _ => ∃ (b cs : Addr), vs = [.ref b] ∧ BagAt H b cs ∧ ∀ n H', -(10 ^ 30) < n → n < 10 ^ 30 → BagAt H' b cs → Fr [b] H H' → Q (.int n) H'
abbrev s__law_number : Stmt := topS 67
theorem sc__law_number : FnScope ["_law_bag_here"] ["_law_bag_here"] (defScope s__law_number) := ⟨rfl, rfl, rfl, by decide +kernel, rfl, by decide +kernel, by decide +kernel⟩
section
variable {P : Program} {w : World} {K : PySem.W.Frag} {mg : Str → Option Value} {base : Heap}
theorem ok__law_number {f : Addr} {fd : FuncData} (F : FnP K "_law_number" s__law_number f fd) (C__law_pull : CalG P w K mg base 10 "_law_pull" spPull) : FnG P w K mg base CX0 30 f fd ["_law_bag_here"] spNumber := by
 refine okG F sc__law_number (fun vs H Q E h => ?_) (fun cdv A outer s H vs Q E hr h => ?_)
 ·obtain ⟨b, cs, rfl, _⟩ := h
  rfl
 obtain ⟨b, cs, rfl, hB, q⟩ := h
 refine ⟨_, PSs.nox (pss_cons (ps_if (pt_cmpR (kOp (K := K) (r := uEq) rfl (opu_eq hr.units)) (pe_calG C__law_pull hr rfl (pa_cons (pv 0) (pa_cons pe_int pa_nil))) pe_int (nomark _)) (pss_one (ps_ret (pe_op opu_mul (pe_ix (kIx (K := K) (r := rIx) rfl ix_seq) (pe_lst (pa_cons pe_int (pa_cons (pe_op opu_sub pe_int pe_int) pa_nil))) (pe_calG C__law_pull hr rfl (pa_cons (pv 0) (pa_cons pe_int pa_nil))) (fun _ _ => rfl)) (pe_calG C__law_pull hr rfl (pa_cons (pv 0) (pa_cons (pe_op opu_pow pe_int pe_int) pa_nil)))))) pss_nil)
 (pss_one (ps_ret (pe_op opu_sub (pe_calG C__law_pull hr rfl (pa_cons (pv 0) (pa_cons pe_int pa_nil))) pe_int)))), rd_start (σ0 := [some (.ref b)]) rfl ?_⟩
 walk_at "q"
 refine ⟨b, cs, _, rfl, hB, by decide, by decide, fun d H1 d0 d1 hB1 hF1 => ?_⟩
 walk_at "q"
 refine g_by (fun c => ?_) (fun c => ?_)
 ·walk_at "q"
  refine ⟨le_of (by decide), fun p hp => ?_⟩
  have hF2 : Fr [b] H1 (upd H1 p (.lst [V.int 1, .int (0 - 1)])) := Fr.new hp
  have hB2 := hB1.fr0 (Fr.new (M := []) (o := .lst [V.int 1, .int (0 - 1)]) hp)
  have hpl : (upd H1 p (.lst [V.int 1, .int (0 - 1)])) p = some (.lst [V.int 1, .int (0 - 1)]) := upd_same
  generalize upd H1 p (.lst [V.int 1, .int (0 - 1)]) = H2 at *
  walk_at "q"
  refine ⟨b, cs, _, rfl, hB2, by decide, by decide, fun d2 H3 d20 d21 hB3 hF3 => ?_⟩
  obtain ⟨v, hv, ha⟩ := atI_in (xs := [V.int 1, .int (0 - 1)]) d20 d21
  refine g_ixL (hF3.seq (fun z => (hB1.some hp).1 (List.mem_singleton.mp z)) (SqL.of hpl)) ha ?_
  walk_at "q"
  refine ⟨b, cs, _, rfl, hB3, by decide +kernel, by decide +kernel, fun d4 H5 d40 d41 hB5 hF5 => ?_⟩
  have d41' : d4 < 10 ^ 30 := d41
  have fin : ∀ n : Int, -(10 ^ 30) < n → n < 10 ^ 30 → Q (.int n) H5 := fun n h1 h2 => q n H5 h1 h2 hB5 (((hF1.trans hF2).trans hF3).trans hF5)
  rcases List.mem_cons.mp hv with e | hv
  ·subst e
   walk_at "q"
   exact fin _ (by omega) (by omega)
  ·obtain rfl : v = .int (0 - 1) := List.mem_singleton.mp hv
   walk_at "q"
   exact fin _ (by omega) (by omega)
 ·walk_at "q"
  refine ⟨b, cs, _, rfl, hB1, by decide, by decide, fun d2 H2 d20 d21 hB2 hF2 => ?_⟩
  walk_at "q"
  exact q _ _ (by omega) (by omega) hB2 (hF1.trans hF2)
end
def ValOf (k : Str) (v : V) : Prop := (k = "number" ∧ ∃ n, v = .int n ∧ -(10 ^ 30) < n ∧ n < 10 ^ 30) ∨ (k = "flag" ∧ ∃ c, v = .bl c) ∨ (k = "word" ∧ ∃ x, v = .str x ∧ WordP x)
def spValue : Sp := fun vs H Q _ => ∃ (b cs : Addr) (k : Str), vs = [.ref b, .str k] ∧ (k = "number" ∨ k = "flag" ∨ k = "word") ∧ BagAt H b cs ∧ ∀ v H', ValOf k v → BagAt H' b cs → Fr [b] H H' → Q v H'
abbrev s__law_value : Stmt := topS 68
theorem sc__law_value : FnScope ["_law_bag_here", "_law_kind"] ["_law_bag_here", "_law_kind"] (defScope s__law_value) := ⟨rfl, rfl, rfl, by decide +kernel, rfl, by decide +kernel, by decide +kernel⟩
def wordB (x : Str) : Bool := match x.cps.toList with
 | [] => false
 | c :: r => isLet c && r.all (fun d => isLet d || isFig d) && decide (r.length ≤ 11)
theorem wordB_ok {x : Str} (h : wordB x = true) : WordP x := by
 unfold wordB at h
 cases e : x.cps.toList with
 | nil => rw [e] at h; cases h
 | cons c r =>
  rw [e] at h
  simp only [Bool.and_eq_true, decide_eq_true_eq, List.all_eq_true] at h
  exact ⟨c, r, e, h.1.1, h.1.2, h.2⟩
theorem WordP.b {x : Str} (h : WordP x) : wordB x = true := by
 obtain ⟨c, r, e, h1, h2, h3⟩ := h
 unfold wordB
 rw [e]
 simp only [Bool.and_eq_true, decide_eq_true_eq, List.all_eq_true]
 exact ⟨⟨h1, h2⟩, h3⟩
section
variable {P : Program} {w : World} {K : PySem.W.Frag} {mg : Str → Option Value} {base : Heap}
theorem ok__law_value {f : Addr} {fd : FuncData} (F : FnP K "_law_value" s__law_value f fd) (C__law_pull : CalG P w K mg base 10 "_law_pull" spPull) (C__law_one : CalG P w K mg base 20 "_law_one" (spOne K))
  (C__law_word : CalG P w K mg base 30 "_law_word" spWord) (C__law_number : CalG P w K mg base 30 "_law_number" spNumber) : FnG P w K mg base CX0 40 f fd ["_law_bag_here", "_law_kind"] spValue := by
 refine okG F sc__law_value (fun vs H Q E h => ?_) (fun cdv A outer s H vs Q E hr h => ?_)
 ·obtain ⟨b, cs, k, rfl, _⟩ := h
  rfl
 obtain ⟨b, cs, k, rfl, hk, hB, q⟩ := h
 refine ⟨_, PSs.nox (pss_cons (ps_if (pt_cmpR (kOp (K := K) (r := uEq) rfl (opu_eq hr.units)) (pv 1) pe_str (nomark _)) (pss_one (ps_ret (pe_calG C__law_number hr rfl (pa_cons (pv 0) pa_nil)))) pss_nil)
 (pss_cons (ps_if (pt_cmpR (kOp (K := K) (r := uEq) rfl (opu_eq hr.units)) (pv 1) pe_str (nomark _)) (pss_one (ps_ret (pe_cmpR (kOp (K := K) (r := uEq) rfl (opu_eq hr.units)) (pe_calG C__law_pull hr rfl (pa_cons (pv 0) (pa_cons pe_int pa_nil))) pe_int (nomark _)))) pss_nil)
 (pss_cons (ps_if (pt_cmpR (kOp (K := K) (r := uEq) rfl (opu_eq hr.units)) (pe_calG C__law_pull hr rfl (pa_cons (pv 0) (pa_cons pe_int pa_nil))) pe_int (nomark _)) (pss_one (ps_ret (pe_calG C__law_word hr rfl (pa_cons (pv 0) pa_nil)))) pss_nil)
 (pss_one (ps_ret (pe_calG C__law_one hr rfl (pa_cons (pv 0) (pa_cons (pe_lst (pa_cons pe_str (pa_cons pe_str (pa_cons pe_str (pa_cons pe_str (pa_cons pe_str pa_nil)))))) pa_nil)))))))), rd_start (σ0 := [some (.ref b), some (.str k)]) rfl ?_⟩
 rcases hk with rfl | rfl | rfl
 ·walk_at "q"
  exact ⟨b, cs, rfl, hB, fun n H' h1 h2 hB' hF => q _ _ (.inl ⟨rfl, n, rfl, h1, h2⟩) hB' hF⟩
 ·walk_at "q"
  refine ⟨b, cs, _, rfl, hB, by decide, by decide, fun d H1 d0 d1 hB1 hF1 => ?_⟩
  walk_at "q"
  exact q _ _ (.inr (.inl ⟨rfl, _, rfl⟩)) hB1 hF1
 ·walk_at "q"
  refine ⟨b, cs, _, rfl, hB, by decide, by decide, fun d H1 d0 d1 hB1 hF1 => ?_⟩
  walk_at "q"
  refine g_by (fun c => ?_) (fun c => ?_)
  ·walk_at "q"
   exact ⟨b, cs, rfl, hB1, fun x H' hx hB' hF => q _ _ (.inr (.inr ⟨rfl, x, rfl, hx⟩)) hB' (hF1.trans hF)⟩
  ·walk_at "q"
   refine ⟨le_of (by decide), fun p hp => ?_⟩
   have hF2 : Fr [b] H1 (upd H1 p (.lst [V.str "ann", .str "b", .str "z9", .str "if", .str "me"])) := Fr.new hp
   have hB2 := hB1.fr0 (Fr.new (M := []) (o := .lst [V.str "ann", .str "b", .str "z9", .str "if", .str "me"]) hp)
   have hpl : (upd H1 p (.lst [V.str "ann", .str "b", .str "z9", .str "if", .str "me"])) p = some (.lst [V.str "ann", .str "b", .str "z9", .str "if", .str "me"]) := upd_same
   generalize upd H1 p (.lst [V.str "ann", .str "b", .str "z9", .str "if", .str "me"]) = H2 at *
   walk_at "q"
   refine ⟨b, cs, p, _, rfl, hB2, .inl ⟨SqL.of hpl, (hB1.some hp).1⟩, by decide, by decide, fun v H3 hv hB3 hF3 => ?_⟩
   refine q _ _ (.inr (.inr ⟨rfl, ?_⟩)) hB3 ((hF1.trans hF2).trans hF3)
   simp only [List.mem_cons, List.not_mem_nil, or_false] at hv
   rcases hv with rfl | rfl | rfl | rfl | rfl
   all_goals exact ⟨_, rfl, wordB_ok (by decide +kernel)⟩
end
def kvOf (vd : List (Str × Str)) : List (Key × V) := vd.map fun p => ((Sum.inr p.1 : Key), V.str p.2)
theorem kvOf_val (vd : List (Str × Str)) (x : Str) : valV (kvOf vd) (Sum.inr x : Key) = (vd.lookup x).map V.str := by
 induction vd with
 | nil => rfl
 | cons p r ih =>
  obtain ⟨y, k⟩ := p
  by_cases h : y = x
  ·subst h
   show valV (((Sum.inr y : Key), V.str k) :: kvOf r) (Sum.inr y) = _
   rw [valV_pos rfl, List.lookup_cons_self]
   rfl
  ·show valV (((Sum.inr y : Key), V.str k) :: kvOf r) (Sum.inr x) = _
   have h2 : (x == y) = false := beq_eq_false_iff_ne.mpr (Ne.symm h)
   rw [valV_neg (fun z => h (Sum.inr.inj z)), List.lookup_cons, h2]
   exact ih
theorem kvOf_keys (vd : List (Str × Str)) : ((kvOf vd).map fun kv => kV kv.1) = (vd.map (·.1)).map V.str := by
 unfold kvOf
 rw [List.map_map, List.map_map]
 rfl
theorem lookup_mem {vd : List (Str × Str)} {x : Str} (h : x ∈ vd.map (·.1)) : ∃ k, vd.lookup x = some k := by
 cases e : vd.lookup x with
 | some k => exact ⟨k, rfl⟩
 | none =>
  rw [List.lookup_eq_none_iff] at e
  obtain ⟨p, hp, rfl⟩ := List.mem_map.mp h
  have := e p hp
  simp at this
def strsD (ws : List Str) : PyData := .list (ws.map .str)
theorem dp_strs {K : PySem.W.Frag} {H : Hp} {p : Addr} {ws : List Str} (h : SqL K H p (ws.map V.str)) : Dp K H (.ref p) (strsD ws) := by
 refine .lst h ?_
 induction ws with
 | nil => exact .nil
 | cons x r ih => exact .cons (.str x) (dpa_strs r)
where
 dpa_strs {K : PySem.W.Frag} {H : Hp} : ∀ ws : List Str, DpAll K H (ws.map V.str) (ws.map .str)
 | [] => .nil
 | x :: r => .cons (.str x) (dpa_strs r)
theorem shaped_strs {ws : List Str} (h : ∀ x ∈ ws, PyData.strOk x = true) : SeqAt.shaped (strsD ws) = true := by
 have h1 : ∀ ws : List Str, (∀ x ∈ ws, PyData.strOk x = true) → PyData.canLayAll0 (ws.map .str) = true := by
  intro ws h
  induction ws with
  | nil => simp only [List.map_nil, PyData.canLayAll0]
  | cons x r ih => simp only [List.map_cons, PyData.canLayAll0, PyData.canLay0, h x List.mem_cons_self, ih fun y hy => h y (List.mem_cons_of_mem _ hy), Bool.and_self]
 have h2 : ∀ ws : List Str, PyData.depthAll (ws.map .str) = 0 := by
  intro ws
  induction ws with
  | nil => simp only [List.map_nil, PyData.depthAll]
  | cons x r ih => simp only [List.map_cons, PyData.depthAll, PyData.depth, ih, Nat.max_self]
 unfold SeqAt.shaped strsD
 simp only [PyData.canLay0, h1 ws h, PyData.depth, h2 ws, Bool.true_and]
 decide
theorem shaped_nil : SeqAt.shaped (.list []) = true := by decide +kernel
theorem eqv_strs_nil (ws : List Str) : PyData.eqv (strsD ws) (.list []) = decide (ws = []) := by
 unfold strsD
 cases ws with
 | nil => simp only [List.map_nil, PyData.eqv, PyData.eqvAll, decide_true]
 | cons x r => simp only [List.map_cons, PyData.eqv, PyData.eqvAll, reduceCtorEq, decide_false]
structure BiL (mg : Str → Option Value) : Prop where
 b_list : mg "list" = none
 b_sorted : mg "sorted" = none
def LeafAt (K : PySem.W.Frag) (H : Hp) (vd : List (Str × Str)) (k : Str) (p : Addr) : Prop := (∃ u, SqT K H p [.str "value", u] ∧ ValOf k u) ∨ ∃ x, SqT K H p [.str "var", .str x] ∧ vd.lookup x = some k
structure VarsAt (H : Hp) (d : Addr) (vd : List (Str × Str)) : Prop where
 at_ : H d = some (.dK (kvOf vd))
 len : vd.length < 60
 ok : ∀ p ∈ vd, PyData.strOk p.1 = true
theorem VarsAt.fr {H H' : Hp} {M : List Addr} {d : Addr} {vd : List (Str × Str)} (h : VarsAt H d vd) (e : Fr M H H') (n : d ∉ M) : VarsAt H' d vd := ⟨e.at h.at_ n, h.len, h.ok⟩
theorem VarsAt.ne {H : Hp} {d b cs : Addr} {vd : List (Str × Str)} (h : VarsAt H d vd) (hB : BagAt H b cs) : d ≠ b ∧ d ≠ cs := by
 obtain ⟨cells, i, r, k, h1, h2, h3⟩ := hB.ex
 exact ⟨fun e => (by have z := h.at_; rw [e, h1] at z; cases z), fun e => (by have z := h.at_; rw [e, h2] at z; cases z)⟩
def KindW (k : Str) : Prop := k = "number" ∨ k = "flag" ∨ k = "word"
def spLeaf (K : PySem.W.Frag) : Sp := fun vs H Q _ => ∃ (b cs d : Addr) (k : Str) (vd : List (Str × Str)), vs = [.ref b, .str k, .ref d] ∧ KindW k ∧ BagAt H b cs ∧ VarsAt H d vd ∧
 ∀ p H', LeafAt K H' vd k p → BagAt H' b cs → Fr [b] H H' → Q (.ref p) H'
abbrev s__law_leaf : Stmt := topS 81
theorem sc__law_leaf : FnScope ["_law_bag_here", "_law_kind", "_law_vars_of", "_law_alike", "_law_name"] ["_law_bag_here", "_law_kind", "_law_vars_of"] (defScope s__law_leaf) := ⟨rfl, rfl, rfl, by decide +kernel, rfl, by decide +kernel, by decide +kernel⟩
section
variable {P : Program} {w : World} {K : PySem.W.Frag} {mg : Str → Option Value} {base : Heap}
theorem ok__law_leaf {f : Addr} {fd : FuncData} (F : FnP K "_law_leaf" s__law_leaf f fd) (B : BiL mg) (C__law_pull : CalG P w K mg base 10 "_law_pull" spPull) (C__law_one : CalG P w K mg base 20 "_law_one" (spOne K))
  (C__law_value : CalG P w K mg base 40 "_law_value" spValue) : FnG P w K mg base CX0 50 f fd ["_law_bag_here", "_law_kind", "_law_vars_of"] (spLeaf K) := by
 refine okG F sc__law_leaf (fun vs H Q E h => ?_) (fun cdv A outer s H vs Q E hr h => ?_)
 ·obtain ⟨b, cs, d, k, vd, rfl, _⟩ := h
  rfl
 obtain ⟨b, cs, d, k, vd, rfl, hk, hB, hV, q⟩ := h
 have hu := hu_of hr.rm
 refine ⟨_, PSs.nox (pss_cons (ps_setLc (i := 3) (own := [("_law_name", 4)]) (g := gName 4) rfl sc__law_leaf.nd rfl rfl (sw_true rfl rfl rfl (by decide +kernel)) (pi_listK (K := K) rfl (pe_callB (kCall (K := K) (r := rSortedS) rfl cr_sortedS) (by rfl) B.b_sorted (by decide +kernel) (pa_cons (pe_callTy (kCall (K := K) (r := uList) rfl callu_list) (by rfl) B.b_list (by decide +kernel) (pa_cons (pv 2) pa_nil)) pa_nil))) (blkOk_by (own := [("_law_name", 4)]) (N := ["_law_bag_here", "_law_kind", "_law_vars_of", "_law_alike", "_law_name"]) (sc := defScope s__law_leaf) (by decide +kernel)) (fun _ _ _ _ _ => (by exact (pg_name (i := 4) sc__law_leaf.nd rfl (by first | exact Or.inl rfl | exact Or.inr rfl)))) (fun _ _ _ _ _ => (by exact pts_one (pt_cmpR (kOp (K := K) (r := uEq) rfl (opu_eq hr.units)) (pe_dget hu (pv 2) (pv 4) (fun _ _ => rfl)) (pv 1) (nomark _)))) (fun _ _ _ _ _ => (by exact (pv 4))))
 (pss_cons (ps_if (PW.pt (pw_or (pt_cmpR (kOp (K := K) (r := uEq) rfl (opu_eq hr.units)) (pv 3) (pe_lst pa_nil) (nomark _)) (pw_or1 (pt_cmpR (kOp (K := K) (r := uEq) rfl (opu_eq hr.units)) (pe_calG C__law_pull hr rfl (pa_cons (pv 0) (pa_cons pe_int pa_nil))) pe_int (nomark _))))) (pss_one (ps_ret (pe_tup (pa_cons pe_str (pa_cons (pe_calG C__law_value hr rfl (pa_cons (pv 0) (pa_cons (pv 1) pa_nil))) pa_nil))))) pss_nil)
 (pss_one (ps_ret (pe_tup (pa_cons pe_str (pa_cons (pe_calG C__law_one hr rfl (pa_cons (pv 0) (pa_cons (pv 3) pa_nil))) pa_nil))))))), rd_start (σ0 := [some (.ref b), some (.str k), some (.ref d), none, none]) rfl ?_⟩
 walk_at "q"
 refine g_listD hV.at_ fun l hl => ?_
 rw [kvOf_keys]
 have f1 : Fr [] H (upd H l (.lst ((vd.map (·.1)).map V.str))) := Fr.new hl
 have hl1 : (upd H l (.lst ((vd.map (·.1)).map V.str))) l = some (.lst ((vd.map (·.1)).map V.str)) := upd_same
 generalize upd H l (.lst ((vd.map (·.1)).map V.str)) = H1 at *
 walk_at "q"
 refine ⟨l, vd.map (·.1), rfl, SqL.of hl1, by rw [List.length_map]; have := hV.len; omega, fun ys p2 hperm _ hp2 => ?_⟩
 have f2 : Fr [] H (upd H1 p2 (.lst (ys.map V.str))) := f1.trans (Fr.new hp2)
 have hp21 : (upd H1 p2 (.lst (ys.map V.str))) p2 = some (.lst (ys.map V.str)) := upd_same
 generalize upd H1 p2 (.lst (ys.map V.str)) = H2 at *
 have hyl : ys.length < 60 := by rw [hperm.length_eq, List.length_map]; exact hV.len
 refine ⟨p2, rfl, ⟨_, SqL.of hp21⟩, fun D hD => lc_it (walk_list (xs := ys.map V.str)) (fun i H' => Fr [] H2 H' ∧ ∃ ws : List Str, H' D = some (.lst (ws.map V.str)) ∧ ws.length ≤ i ∧ ∀ x ∈ ws, vd.lookup x = some k)
  ⟨Fr.new hD, [], upd_same, Nat.le_refl _, (fun _ z => nomatch z)⟩ (fun i H' _ h => h.1.seq (fun z => nomatch z) (SqL.of hp21)) (fun i x H' H'' hi h y => ?_) (fun H' h => ?_)⟩
 ·obtain ⟨rfl, hx⟩ := y
  obtain ⟨h1, ws, h2, h3, h4⟩ := h
  obtain ⟨z, hz, rfl⟩ := List.mem_map.mp (List.mem_of_getElem? hx)
  obtain ⟨k2, hk2⟩ := lookup_mem (hperm.mem_iff.mp hz)
  walk_at "q"
  refine ⟨rfl, ?_⟩
  walk_at "q"
  have hV' := (hV.fr f2 (fun z => nomatch z)).fr h1 (fun z => nomatch z)
  refine g_dgetS hV'.at_ (v := V.str k2) (by rw [kvOf_val, hk2]; rfl) ?_
  walk_at "q"
  refine g_by (fun c => ?_) (fun c => ?_)
  ·walk_at "q"
   refine ⟨_, h2, lt_of (by rw [List.length_map]; rw [List.length_map] at hi; omega), h1.over hD, ws ++ [z], ?_, ?_, ?_⟩
   ·rw [upd_same, List.map_append]; rfl
   ·rw [List.length_append]; exact Nat.succ_le_succ h3
   ·intro x hx
    rcases List.mem_append.mp hx with hx | hx
    ·exact h4 x hx
    ·rw [List.mem_singleton.mp hx, hk2, c]
  ·exact ⟨h1, ws, h2, Nat.le_succ_of_le h3, h4⟩
 ·obtain ⟨h1, ws, h2, h3, h4⟩ := h
  have f3 : Fr [] H H' := f2.trans h1
  walk_at "q"
  refine ⟨le_of (by decide), fun p4 hp4 => ?_⟩
  have f4 : Fr [] H' (upd H' p4 (.lst [])) := Fr.new hp4
  have hn4 : (upd H' p4 (.lst [])) p4 = some (.lst []) := upd_same
  have hD4 := f4.at h2 (fun z => nomatch z)
  have hB4 := (hB.fr0 f3).fr0 f4
  have hV4 := (hV.fr f3 (fun z => nomatch z)).fr f4 (fun z => nomatch z)
  have f5 := f3.trans f4
  generalize upd H' p4 (.lst []) = H4 at *
  refine g_eqD (dp_strs (SqL.of hD4)) (.lst (SqL.of hn4) .nil) (shaped_strs fun x hx => ?_) shaped_nil ?_
  ·have hm : x ∈ vd.map (·.1) := by
    have h5 := h4 x hx
    rw [List.lookup_eq_some_iff] at h5
    obtain ⟨l1, l2, e, _⟩ := h5
    rw [e]
    simp
   obtain ⟨pp, hpp, rfl⟩ := List.mem_map.mp hm
   exact hV.ok pp hpp
  rw [eqv_strs_nil]
  walk_at "q"
  have hDb : D ≠ b := fun e => by
   have z := hB4.ne
   obtain ⟨cells, i, r, kk, h6, _⟩ := hB.ex
   have h7 := f2.at h6 (fun z => nomatch z)
   rw [← e, hD] at h7
   cases h7
  have value : ∀ H5, BagAt H5 b cs → Fr [b] H H5 → ∀ (tm : TE), True := fun _ _ _ _ => trivial
  refine g_by (fun c => ?_) (fun c => ?_)
  ·walk_at "q"
   refine ⟨b, cs, k, rfl, hk, hB4, fun u H5 hu5 hB5 hF5 => ?_⟩
   walk_at "q"
   refine ⟨le_of (by simp), fun p6 hp6 => ?_⟩
   exact q p6 _ (.inl ⟨u, SqT.of upd_same, hu5⟩) (hB5.fr0 (Fr.new hp6)) ((f5.nil.trans hF5).trans (Fr.new hp6))
  ·walk_at "q"
   refine ⟨b, cs, _, rfl, hB4, by decide, by decide, fun dd H5 d0 d1 hB5 hF5 => ?_⟩
   walk_at "q"
   refine g_by (fun c2 => ?_) (fun c2 => ?_)
   ·walk_at "q"
    refine ⟨b, cs, k, rfl, hk, hB5, fun u H6 hu6 hB6 hF6 => ?_⟩
    walk_at "q"
    refine ⟨le_of (by simp), fun p6 hp6 => ?_⟩
    exact q p6 _ (.inl ⟨u, SqT.of upd_same, hu6⟩) (hB6.fr0 (Fr.new hp6)) (((f5.nil.trans hF5).trans hF6).trans (Fr.new hp6))
   ·walk_at "q"
    have hw0 : 0 < ws.length := by
     cases ws with
     | nil => exact absurd rfl c
     | cons x r => exact Nat.succ_pos _
    rw [List.length_map] at h3
    refine ⟨b, cs, D, ws.map V.str, rfl, hB5, .inl ⟨hF5.seq (fun z => hDb (List.mem_singleton.mp z)) (SqL.of hD4), hDb⟩, by rw [List.length_map]; exact hw0, by rw [List.length_map]; omega, fun v H6 hv hB6 hF6 => ?_⟩
    obtain ⟨x, hx, rfl⟩ := List.mem_map.mp hv
    walk_at "q"
    refine ⟨le_of (by simp), fun p6 hp6 => ?_⟩
    exact q p6 _ (.inr ⟨x, SqT.of upd_same, h4 x hx⟩) (hB6.fr0 (Fr.new hp6)) (((f5.nil.trans hF5).trans hF6).trans (Fr.new hp6))
end
structure BiS (mg : Str → Option Value) : Prop where
 b_isinstance : mg "isinstance" = none
 b_list : mg "list" = none
 b_tuple : mg "tuple" = none
 b_repr : mg "repr" = none
 b_zip : mg "zip" = none
 b_all : mg "all" = none
 b_len : mg "len" = none
def spSame (K : PySem.W.Frag) (n : Nat) : Sp := fun vs H Q _ => ∃ (x y : V) (d : PyData), vs = [x, y] ∧ Dp K H x d ∧ Dp K H y d ∧ Sm n d ∧ ∀ H', Fr [] H H' → Q (.bl true) H'
theorem sm_zero {d : PyData} (h : Sm 0 d) : False := by
 cases d <;> simp only [Sm] at h
abbrev s__law_same : Stmt := topS 63
theorem sc__law_same : FnScope ["_law_found", "_law_due", "_law_same_here", "_law_one_here", "_law_other"] ["_law_found", "_law_due"] (defScope s__law_same) := ⟨rfl, rfl, rfl, by decide +kernel, rfl, by decide +kernel, by decide +kernel⟩
section
variable {P : Program} {w : World} {K : PySem.W.Frag} {mg : Str → Option Value} {base : Heap}
theorem same_leaf {H : Hp} {x y : V} {d : PyData} {n : Nat} (hx : Dp K H x d) (hy : Dp K H y d) (hs : Sm (n + 1) d) (h : ∀ ds, d ≠ .list ds ∧ d ≠ .tuple ds) : x = y ∧ shortV x ∧ ∃ T, TyX K H x (.type T) ∧ kitB T "list" = some false ∧ kitB T "tuple" = some false := by
 cases hx with
 | non => cases hy; exact ⟨rfl, trivial, "NoneType", .base .non, by decide +kernel, by decide +kernel⟩
 | bl b => cases hy; exact ⟨rfl, trivial, "bool", .base (.bl b), by decide +kernel, by decide +kernel⟩
 | int b => cases hy; exact ⟨rfl, hs, "int", .base (.int b), by decide +kernel, by decide +kernel⟩
 | str b => cases hy; exact ⟨rfl, hs, "str", .base (.str b), by decide +kernel, by decide +kernel⟩
 | lst h1 h2 => exact absurd rfl (h _).1
 | tup h1 h2 => exact absurd rfl (h _).2
theorem ok__law_same {n : Nat} {f : Addr} {fd : FuncData} (F : FnP K "_law_same" s__law_same f fd) (B : BiS mg) (C__law_same : CalG P w K mg base n "_law_same" (spSame K n)) : FnG P w K mg base CX0 (n + 1) f fd ["_law_found", "_law_due"] (spSame K (n + 1)) := by
 refine okG F sc__law_same (fun vs H Q E h => ?_) (fun cdv A outer s H vs Q E hr h => ?_)
 ·obtain ⟨x, y, d, rfl, _⟩ := h
  rfl
 obtain ⟨x, y, d, rfl, hx, hy, hs, q⟩ := h
 refine ⟨_, PSs.nox (pss_cons (ps_if (pt_not (pt_val (pe_callB (kCall (K := K) (r := uIsi) rfl callu_isi) (by rfl) B.b_isinstance (by decide +kernel) (pa_cons (pv 1) (pa_cons (pe_tup (pa_cons (pe_bltn (v := .ty "list") (by rfl) B.b_list (by decide +kernel) rfl) (pa_cons (pe_bltn (v := .ty "tuple") (by rfl) B.b_tuple (by decide +kernel) rfl) pa_nil))) pa_nil))))) (pss_one (ps_ret (pe_cmpR (kOp (K := K) (r := uEq) rfl (opu_eq hr.units)) (pe_callB (kCall (K := K) (r := uReprG) rfl (callu_reprG hr)) (by rfl) B.b_repr (by decide +kernel) (pa_cons (pv 0) pa_nil)) (pe_callB (kCall (K := K) (r := uReprG) rfl (callu_reprG hr)) (by rfl) B.b_repr (by decide +kernel) (pa_cons (pv 1) pa_nil)) (nomark _)))) pss_nil)
 (pss_cons (ps_if (PW.pt (pw_or (pt_cmpR (kOp (K := K) (r := uNe) rfl (opu_ne hr.units)) (pe_callB (kCall (K := K) (r := uIsi) rfl callu_isi) (by rfl) B.b_isinstance (by decide +kernel) (pa_cons (pv 1) (pa_cons (pe_bltn (v := .ty "list") (by rfl) B.b_list (by decide +kernel) rfl) pa_nil))) (pe_callB (kCall (K := K) (r := uIsi) rfl callu_isi) (by rfl) B.b_isinstance (by decide +kernel) (pa_cons (pv 0) (pa_cons (pe_bltn (v := .ty "list") (by rfl) B.b_list (by decide +kernel) rfl) pa_nil))) (nomark _)) (pw_or1 (pt_cmpR (kOp (K := K) (r := uNe) rfl (opu_ne hr.units)) (pe_callB (kCall (K := K) (r := uIsi) rfl callu_isi) (by rfl) B.b_isinstance (by decide +kernel) (pa_cons (pv 1) (pa_cons (pe_bltn (v := .ty "tuple") (by rfl) B.b_tuple (by decide +kernel) rfl) pa_nil))) (pe_callB (kCall (K := K) (r := uIsi) rfl callu_isi) (by rfl) B.b_isinstance (by decide +kernel) (pa_cons (pv 0) (pa_cons (pe_bltn (v := .ty "tuple") (by rfl) B.b_tuple (by decide +kernel) rfl) pa_nil))) (nomark _))))) (pss_one (ps_ret pe_bl)) pss_nil)
 (pss_cons (ps_setLc (i := 2) (own := [("_law_one_here", 3), ("_law_other", 4)]) (g := gTup K 2 (gCons (gName 3) (gCons (gName 4) gNil))) (tt := tYes) rfl sc__law_same.nd rfl rfl (sw_true rfl rfl rfl (by decide +kernel)) (RZ.pi_zipA (by rfl) B.b_zip (pa_cons (pv 0) (pa_cons (pv 1) pa_nil))) (blkOk_by (own := [("_law_one_here", 3), ("_law_other", 4)]) (N := ["_law_found", "_law_due", "_law_same_here", "_law_one_here", "_law_other"]) (sc := defScope s__law_same) (by decide +kernel)) (fun _ _ _ _ _ => (by exact (pg_tupK (K := K) rfl rfl (pgs_cons (pg_name (i := 3) sc__law_same.nd rfl (by first | exact Or.inl rfl | exact Or.inr rfl)) (pgs_cons (pg_name (i := 4) sc__law_same.nd rfl (by first | exact Or.inl rfl | exact Or.inr rfl)) pgs_nil))))) (fun _ _ _ _ _ => pts_nil) (fun _ _ _ _ _ => (by exact (pe_calG C__law_same hr rfl (pa_cons (pv 3) (pa_cons (pv 4) pa_nil))))))
 (pss_one (ps_ret (pe_andTK (K := K) rfl (pe_cmpR (kOp (K := K) (r := uEq) rfl (opu_eq hr.units)) (pe_callB (kCall (K := K) (r := uLen) rfl callu_len) (by rfl) B.b_len (by decide +kernel) (pa_cons (pv 0) pa_nil)) (pe_callB (kCall (K := K) (r := uLen) rfl callu_len) (by rfl) B.b_len (by decide +kernel) (pa_cons (pv 1) pa_nil)) (nomark _)) (pe_one (pe_callB (kCall (K := K) (r := rAll) rfl (cr_all rfl)) (by rfl) B.b_all (by decide +kernel) (pa_cons (pv 2) pa_nil))))))))), rd_start (σ0 := [some x, some y, none, none, none]) rfl ?_⟩
 walk_at "q"
 refine ⟨le_of (by decide), fun p hp => ?_⟩
 have e1 : Fr [] H (upd H p (.tup [.ty "list", .ty "tuple"])) := Fr.new hp
 have hpt : (upd H p (.tup [.ty "list", .ty "tuple"])) p = some (.tup [.ty "list", .ty "tuple"]) := upd_same
 generalize upd H p (.tup [.ty "list", .ty "tuple"]) = H1 at *
 replace hx := dp_same e1.same hx
 replace hy := dp_same e1.same hy
 walk_at "q"
 by_cases hd : ∀ ds, d ≠ .list ds ∧ d ≠ .tuple ds
 ·obtain ⟨rfl, hsh, T, ty, k1, k2⟩ := same_leaf hx hy hs hd
  refine g_isi2 hpt ty k1 k2 ?_
  walk_at "q"
  refine g_reprS hsh ?_
  walk_at "q"
  refine g_reprS hsh ?_
  walk_at "q"
  rw [decide_eq_true rfl]
  exact q _ e1
 ·have hcase : (∃ ds, d = .list ds) ∨ (∃ ds, d = .tuple ds) := by
   cases d with
   | list ds => exact .inl ⟨ds, rfl⟩
   | tuple ds => exact .inr ⟨ds, rfl⟩
   | _ => exact absurd (fun ds => ⟨(fun z => nomatch z), (fun z => nomatch z)⟩) hd
  rcases hcase with ⟨ds, rfl⟩ | ⟨ds, rfl⟩
  ·obtain ⟨hs1, hs2⟩ := hs
   cases hx with
   | @lst a xs _ ha hxs =>
   cases hy with
   | @lst b ys _ hb hys =>
   refine g_isi2 hpt (tyx_l hb) (b1 := true) (b2 := false) (by decide +kernel) (by decide +kernel) ?_
   walk_at "q"
   refine g_isi (tyx_l hb) (b := true) (by decide +kernel) ?_
   walk_at "q"
   refine g_isi (tyx_l ha) (b := true) (by decide +kernel) ?_
   walk_at "q"
   refine g_isi (tyx_l hb) (b := false) (by decide +kernel) ?_
   walk_at "q"
   refine g_isi (tyx_l ha) (b := false) (by decide +kernel) ?_
   walk_at "q"
   have hl1 := dpa_len hxs
   have hl2 := dpa_len hys
   refine ⟨a, b, xs, ys, rfl, .inl ⟨ha, hb, fun D hD => lc_it (walk_zip (xs := xs) (ys := ys) (n := ds.length) (by omega)) (fun i H' => Fr [] H1 H' ∧ H' D = some (.lst (List.replicate i (.bl true)))) ⟨Fr.new hD, upd_same⟩ (fun i H' _ h => ⟨h.1.seq (fun z => nomatch z) ha, h.1.seq (fun z => nomatch z) hb⟩) (fun i z H' H'' hi h y => ?_) (fun H' h => ?_)⟩⟩
   ·obtain ⟨T, u, v, rfl, hT, rfl, hu, hv⟩ := y
    obtain ⟨h1, h2⟩ := h
    walk_at "q"
    refine ⟨rfl, ?_⟩
    walk_at "q"
    have eT : Fr [] H' (upd H' T (.tup [u, v])) := Fr.new hT
    obtain ⟨d1, hd1, q1⟩ := dpa_get hxs hu
    obtain ⟨d2, hd2, q2⟩ := dpa_get hys hv
    have ed : d1 = d2 := Option.some.inj (hd1.symm.trans hd2)
    subst ed
    refine ⟨u, v, d1, rfl, dp_same ((h1.trans eT).same) q1, dp_same ((h1.trans eT).same) q2, hs2 d1 (List.mem_of_getElem? hd1), fun H3 e3 => ?_⟩
    refine ⟨_, e3.at (eT.at h2 (fun z => nomatch z)) (fun z => nomatch z), lt_of (by rw [List.length_replicate]; omega), ((h1.trans eT).trans e3).over hD, ?_⟩
    rw [upd_same, List.replicate_succ']
   ·obtain ⟨h1, h2⟩ := h
    walk_at "q"
    refine g_len (.inl (h1.seq (fun z => nomatch z) ha)) ?_
    walk_at "q"
    refine g_len (.inl (h1.seq (fun z => nomatch z) hb)) ?_
    walk_at "q"
    rw [decide_eq_true (show (xs.length : Int) = ys.length by omega)]
    walk_at "q"
    refine ⟨D, List.replicate ds.length true, rfl, SqL.of (by rw [h2, List.map_replicate]), ?_⟩
    rw [show (List.replicate ds.length true).all id = true by simp]
    exact q _ (e1.trans h1)
  ·obtain ⟨hs1, hs2⟩ := hs
   cases hx with
   | @tup a xs _ ha hxs =>
   cases hy with
   | @tup b ys _ hb hys =>
   refine g_isi2 hpt (tyx_t hb) (b1 := false) (b2 := true) (by decide +kernel) (by decide +kernel) ?_
   walk_at "q"
   refine g_isi (tyx_t hb) (b := false) (by decide +kernel) ?_
   walk_at "q"
   refine g_isi (tyx_t ha) (b := false) (by decide +kernel) ?_
   walk_at "q"
   refine g_isi (tyx_t hb) (b := true) (by decide +kernel) ?_
   walk_at "q"
   refine g_isi (tyx_t ha) (b := true) (by decide +kernel) ?_
   walk_at "q"
   have hl1 := dpa_len hxs
   have hl2 := dpa_len hys
   refine ⟨a, b, xs, ys, rfl, .inr ⟨ha, hb, fun D hD => lc_it (walk_zipT (xs := xs) (ys := ys) (n := ds.length) (by omega)) (fun i H' => Fr [] H1 H' ∧ H' D = some (.lst (List.replicate i (.bl true)))) ⟨Fr.new hD, upd_same⟩ (fun i H' _ h => ⟨h.1.tup ha, h.1.tup hb⟩) (fun i z H' H'' hi h y => ?_) (fun H' h => ?_)⟩⟩
   ·obtain ⟨T, u, v, rfl, hT, rfl, hu, hv⟩ := y
    obtain ⟨h1, h2⟩ := h
    walk_at "q"
    refine ⟨rfl, ?_⟩
    walk_at "q"
    have eT : Fr [] H' (upd H' T (.tup [u, v])) := Fr.new hT
    obtain ⟨d1, hd1, q1⟩ := dpa_get hxs hu
    obtain ⟨d2, hd2, q2⟩ := dpa_get hys hv
    have ed : d1 = d2 := Option.some.inj (hd1.symm.trans hd2)
    subst ed
    refine ⟨u, v, d1, rfl, dp_same ((h1.trans eT).same) q1, dp_same ((h1.trans eT).same) q2, hs2 d1 (List.mem_of_getElem? hd1), fun H3 e3 => ?_⟩
    refine ⟨_, e3.at (eT.at h2 (fun z => nomatch z)) (fun z => nomatch z), lt_of (by rw [List.length_replicate]; omega), ((h1.trans eT).trans e3).over hD, ?_⟩
    rw [upd_same, List.replicate_succ']
   ·obtain ⟨h1, h2⟩ := h
    walk_at "q"
    refine g_len (.inr (h1.tup ha)) ?_
    walk_at "q"
    refine g_len (.inr (h1.tup hb)) ?_
    walk_at "q"
    rw [decide_eq_true (show (xs.length : Int) = ys.length by omega)]
    walk_at "q"
    refine ⟨D, List.replicate ds.length true, rfl, SqL.of (by rw [h2, List.map_replicate]), ?_⟩
    rw [show (List.replicate ds.length true).all id = true by simp]
    exact q _ (e1.trans h1)
end
inductive SumND (vd : List (Str × Str)) : Nat → SumE → Prop
 | num {m : Nat} {k : Str} {u : V} : ValOf k u → k = "number" → SumND vd m (.val u)
 | var {m : Nat} {x : Str} : vd.lookup x = some "number" → SumND vd m (.var x)
 | op {m : Nat} {s : Str} {a b : SumE} : isSg s → SumND vd m a → SumND vd m b → SumND vd (m + 1) (.op s a b)
theorem SumND.deep {vd : List (Str × Str)} {m : Nat} {e : SumE} (h : SumND vd m e) : e.deep ≤ m := by
 induction h with
 | num _ _ => exact Nat.zero_le _
 | var _ => exact Nat.zero_le _
 | op _ _ _ h1 h2 => exact Nat.succ_le_succ (Nat.max_le.mpr ⟨h1, h2⟩)
def spSum (K : PySem.W.Frag) (n : Nat) : Sp := fun vs H Q _ => ∃ (b cs d : Addr) (m : Nat) (vd : List (Str × Str)), vs = [.ref b, .ref d, .int (m : Int)] ∧ m < n ∧ BagAt H b cs ∧ VarsAt H d vd ∧
 ∀ e v H', SumND vd m e → SumAt K H' e v → BagAt H' b cs → Fr [b] H H' → Q v H'
abbrev s__law_sum : Stmt := topS 82
theorem sc__law_sum : FnScope ["_law_bag_here", "_law_vars_of", "_law_deep", "_law_sign"] ["_law_bag_here", "_law_vars_of", "_law_deep"] (defScope s__law_sum) := ⟨rfl, rfl, rfl, by decide +kernel, rfl, by decide +kernel, by decide +kernel⟩
theorem leaf_sum {K : PySem.W.Frag} {H : Hp} {vd : List (Str × Str)} {p : Addr} (m : Nat) (h : LeafAt K H vd "number" p) : ∃ e, SumND vd m e ∧ SumAt K H e (.ref p) := by
 rcases h with ⟨u, h1, h2⟩ | ⟨x, h1, h2⟩
 ·exact ⟨.val u, .num h2 rfl, p, rfl, h1⟩
 ·exact ⟨.var x, .var h2, p, rfl, h1⟩
section
variable {P : Program} {w : World} {K : PySem.W.Frag} {mg : Str → Option Value} {base : Heap}
theorem ok__law_sum {n : Nat} {f : Addr} {fd : FuncData} (F : FnP K "_law_sum" s__law_sum f fd) (C__law_pull : CalG P w K mg base 10 "_law_pull" spPull) (C__law_one : CalG P w K mg base 20 "_law_one" (spOne K))
  (C__law_leaf : CalG P w K mg base 50 "_law_leaf" (spLeaf K)) (C__law_sum : CalG P w K mg base (50 + n) "_law_sum" (spSum K n)) : FnG P w K mg base CX0 (50 + n + 1) f fd ["_law_bag_here", "_law_vars_of", "_law_deep"] (spSum K (n + 1)) := by
 refine okG F sc__law_sum (fun vs H Q E h => ?_) (fun cdv A outer s H vs Q E hr h => ?_)
 ·obtain ⟨b, cs, d, m, vd, rfl, _⟩ := h
  rfl
 obtain ⟨b, cs, d, m, vd, rfl, hm, hB, hV, q⟩ := h
 refine ⟨_, PSs.nox (pss_cons (ps_if (PW.pt (pw_or (pt_cmpR (kOp (K := K) (r := uEq) rfl (opu_eq hr.units)) (pv 2) pe_int (nomark _)) (pw_or1 (pt_cmpR (kOp (K := K) (r := uEq) rfl (opu_eq hr.units)) (pe_calG C__law_pull hr rfl (pa_cons (pv 0) (pa_cons pe_int pa_nil))) pe_int (nomark _))))) (pss_one (ps_ret (pe_calG C__law_leaf hr rfl (pa_cons (pv 0) (pa_cons pe_str (pa_cons (pv 1) pa_nil)))))) pss_nil)
 (pss_cons (ps_set (i := 3) sc__law_sum.nd rfl (.inl rfl) (pe_calG C__law_one hr rfl (pa_cons (pv 0) (pa_cons (pe_lst (pa_cons pe_str (pa_cons pe_str (pa_cons pe_str pa_nil)))) pa_nil))))
 (pss_one (ps_ret (pe_tup (pa_cons (pv 3) (pa_cons (pe_calG C__law_sum hr rfl (pa_cons (pv 0) (pa_cons (pv 1) (pa_cons (pe_op opu_sub (pv 2) pe_int) pa_nil)))) (pa_cons (pe_calG C__law_sum hr rfl (pa_cons (pv 0) (pa_cons (pv 1) (pa_cons (pe_op opu_sub (pv 2) pe_int) pa_nil)))) pa_nil)))))))), rd_start (σ0 := [some (.ref b), some (.ref d), some (.int (m : Int)), none]) rfl ?_⟩
 have hdb := hV.ne hB
 have hn : ∀ {x : Addr}, x ≠ b → x ∉ [b] := fun h z => h (List.mem_singleton.mp z)
 walk_at "q"
 refine g_by (fun c => ?_) (fun c => ?_)
 ·walk_at "q"
  refine ⟨b, cs, d, "number", vd, rfl, .inl rfl, hB, hV, fun p H1 hp hB1 hF1 => ?_⟩
  obtain ⟨e, he, hs⟩ := leaf_sum m hp
  exact q e _ H1 he hs hB1 hF1
 ·walk_at "q"
  refine ⟨b, cs, _, rfl, hB, by decide, by decide, fun dd H1 d0 d1 hB1 hF1 => ?_⟩
  have hV1 := hV.fr hF1 (hn hdb.1)
  walk_at "q"
  refine g_by (fun c2 => ?_) (fun c2 => ?_)
  ·walk_at "q"
   refine ⟨b, cs, d, "number", vd, rfl, .inl rfl, hB1, hV1, fun p H2 hp hB2 hF2 => ?_⟩
   obtain ⟨e, he, hs⟩ := leaf_sum m hp
   exact q e _ H2 he hs hB2 (hF1.trans hF2)
  ·walk_at "q"
   refine ⟨le_of (by simp), fun p hp => ?_⟩
   have hF2 : Fr [b] H1 (upd H1 p (.lst [.str "+", .str "-", .str "*"])) := Fr.new hp
   have hB2 := hB1.fr0 (Fr.new (M := []) (o := .lst [.str "+", .str "-", .str "*"]) hp)
   have hV2 := hV1.fr hF2 (hn hdb.1)
   have hpl : (upd H1 p (.lst [V.str "+", .str "-", .str "*"])) p = some (.lst [V.str "+", .str "-", .str "*"]) := upd_same
   generalize upd H1 p (.lst [V.str "+", .str "-", .str "*"]) = H2 at *
   walk_at "q"
   refine ⟨b, cs, p, _, rfl, hB2, .inl ⟨SqL.of hpl, (hB1.some hp).1⟩, by decide, by decide, fun sv H3 hsv hB3 hF3 => ?_⟩
   have hV3 := hV2.fr hF3 (hn hdb.1)
   obtain ⟨sg, hsg, rfl⟩ : ∃ sg, isSg sg ∧ sv = .str sg := by
    simp only [List.mem_cons, List.not_mem_nil, or_false] at hsv
    rcases hsv with rfl | rfl | rfl
    ·exact ⟨_, .inl rfl, rfl⟩
    ·exact ⟨_, .inr (.inl rfl), rfl⟩
    ·exact ⟨_, .inr (.inr rfl), rfl⟩
   obtain ⟨m', rfl⟩ : ∃ m', m = m' + 1 := ⟨m - 1, by omega⟩
   have em : ((m' + 1 : Nat) : Int) - 1 = (m' : Int) := by omega
   walk_at "q"
   rw [em]
   refine ⟨b, cs, d, m', vd, rfl, by omega, hB3, hV3, fun e1 v1 H4 he1 hs1 hB4 hF4 => ?_⟩
   have hV4 := hV3.fr hF4 (hn hdb.1)
   walk_at "q"
   rw [em]
   refine ⟨b, cs, d, m', vd, rfl, by omega, hB4, hV4, fun e2 v2 H5 he2 hs2 hB5 hF5 => ?_⟩
   walk_at "q"
   refine ⟨le_of (by simp), fun p6 hp6 => ?_⟩
   have f6 : Fr [b] H5 (upd H5 p6 (.tup [.str sg, v1, v2])) := Fr.new hp6
   refine q (.op sg e1 e2) _ _ (.op hsg he1 he2) ⟨p6, v1, v2, rfl, SqT.of upd_same, (hs1.fr hF5).fr f6, hs2.fr f6⟩ (hB5.fr0 (Fr.new hp6)) (((((hF1.trans hF2).trans hF3).trans hF4).trans hF5).trans f6)
end
def barredL : List Str := ["if", "not", "is", "count", "sum", "least", "most", "yes", "no", "me"]
def VarN (x : Str) : Prop := WordP x ∧ x ∉ barredL
def varB (x : Str) : Bool := wordB x && !(barredL.any fun y => decide (x = y))
theorem varB_ok {x : Str} (h : varB x = true) : VarN x := by
 unfold varB at h
 simp only [Bool.and_eq_true, Bool.not_eq_true', List.any_eq_false, decide_eq_true_eq] at h
 exact ⟨wordB_ok h.1, fun z => h.2 x z rfl⟩
theorem WordP.tx {x : Str} (h : WordP x) : Tx 12 x := by
 refine ⟨len_le12 h, fun c hc => ?_⟩
 obtain ⟨d, r, e, h1, h2, _⟩ := h
 have lt : ∀ d, (isLet d || isFig d) = true → d < 0x110000 := by
  intro d hd
  unfold isLet isFig at hd
  simp only [Bool.or_eq_true, decide_eq_true_eq] at hd
  omega
 rw [e] at hc
 rcases List.mem_cons.mp hc with rfl | hc
 ·exact lt _ (by rw [h1]; rfl)
 ·exact lt _ (h2 c hc)
def sgn22 : Str := "0123456789abcdefghijkl"
def low22 : Str := "abcdefghijklmnopqrstuv"
theorem sgn22_list : sgn22.cps.toList = [48, 49, 50, 51, 52, 53, 54, 55, 56, 57, 97, 98, 99, 100, 101, 102, 103, 104, 105, 106, 107, 108] := by decide +kernel
theorem low22_list : low22.cps.toList = [97, 98, 99, 100, 101, 102, 103, 104, 105, 106, 107, 108, 109, 110, 111, 112, 113, 114, 115, 116, 117, 118] := by decide +kernel
theorem sgn22_at {d : Int} (h0 : 0 ≤ d) (h1 : d < 22) : ∃ c, atI sgn22.cps.toList d = some c ∧ (isLet c || isFig c) = true := by
 obtain ⟨c, hc, ha⟩ := atI_in (xs := sgn22.cps.toList) h0 (by rw [sgn22_list]; exact h1)
 refine ⟨c, ha, ?_⟩
 rw [sgn22_list] at hc
 have z : ∀ x ∈ ([48, 49, 50, 51, 52, 53, 54, 55, 56, 57, 97, 98, 99, 100, 101, 102, 103, 104, 105, 106, 107, 108] : List Nat), (isLet x || isFig x) = true := by decide
 exact z c hc
theorem low22_at {d : Int} (h0 : 0 ≤ d) (h1 : d < 22) : ∃ c, atI low22.cps.toList d = some c ∧ isLet c = true := by
 obtain ⟨c, hc, ha⟩ := atI_in (xs := low22.cps.toList) h0 (by rw [low22_list]; exact h1)
 refine ⟨c, ha, ?_⟩
 rw [low22_list] at hc
 have z : ∀ x ∈ ([97, 98, 99, 100, 101, 102, 103, 104, 105, 106, 107, 108, 109, 110, 111, 112, 113, 114, 115, 116, 117, 118] : List Nat), isLet x = true := by decide
 exact z c hc
theorem cut_noneD {z : Str} {n : Nat} : (cutS z none (some (n : Int))).cps.toList = z.cps.toList.take n := by
 have e : z.length = z.cps.toList.length := rfl
 unfold cutS
 show ((z.cps.toList.drop (HT.sIx z.length 0 none)).take (HT.sIx z.length z.length (some (n : Int)) - HT.sIx z.length 0 none)) = _
 rw [HT.sIx_none, HT.sIx_nat, List.drop_zero, Nat.sub_zero, e]
 by_cases h : n ≤ z.cps.toList.length
 ·rw [Nat.min_eq_left h]
 ·rw [Nat.min_eq_right (by omega), List.take_length, List.take_of_length_le (by omega)]
theorem cut_some {z : Str} {n : Nat} : (cutS z (some (n : Int)) none).cps.toList = z.cps.toList.drop n := by
 have e : z.length = z.cps.toList.length := rfl
 unfold cutS
 show ((z.cps.toList.drop (HT.sIx z.length 0 (some (n : Int)))).take (HT.sIx z.length z.length none - HT.sIx z.length 0 (some (n : Int)))) = _
 rw [HT.sIx_none, HT.sIx_nat, e]
 by_cases h : n ≤ z.cps.toList.length
 ·rw [Nat.min_eq_left h, ← List.length_drop, List.take_length]
 ·rw [Nat.min_eq_right (by omega), Nat.sub_self, List.take_zero, List.drop_eq_nil_of_le (by omega)]
theorem word_put {x : Str} (h : WordP x) {c : Nat} (hc : (isLet c || isFig c) = true) {n s : Nat} (hn : 1 ≤ n) (hn2 : n ≤ 10) (hs : 1 ≤ s) : WordP (cutS (cutS x none (some (n : Int))) none (some (s : Int)) ++ ⟨#[c]⟩ ++ cutS (cutS x none (some (n : Int))) (some (s : Int)) none) := by
 obtain ⟨d, r, e, h1, h2, h3⟩ := h
 obtain ⟨n', rfl⟩ : ∃ k, n = k + 1 := ⟨n - 1, by omega⟩
 obtain ⟨s', rfl⟩ : ∃ k, s = k + 1 := ⟨s - 1, by omega⟩
 refine ⟨d, (r.take n').take s' ++ [c] ++ (r.take n').drop s', ?_, h1, fun y hy => ?_, ?_⟩
 ·rw [tl_app, tl_app, cut_noneD, cut_noneD, cut_some, cut_noneD, e]
  rfl
 ·have sub : ∀ y ∈ r.take n', (isLet y || isFig y) = true := fun y hy => h2 y (List.mem_of_mem_take hy)
  rcases List.mem_append.mp hy with hy | hy
  ·rcases List.mem_append.mp hy with hy | hy
   ·exact sub y (List.mem_of_mem_take hy)
   ·rw [List.mem_singleton.mp hy]; exact hc
  ·exact sub y (List.mem_of_mem_drop hy)
 ·simp only [List.length_append, List.length_take, List.length_drop, List.length_singleton]
  omega
theorem rep11 (c : Nat) : ((List.replicate (11 : Int).toNat (#[c] : Array Nat)).foldl (· ++ ·) #[]) = #[c, c, c, c, c, c, c, c, c, c, c] := by
 show ((((((((((((#[] : Array Nat) ++ #[c]) ++ #[c]) ++ #[c]) ++ #[c]) ++ #[c]) ++ #[c]) ++ #[c]) ++ #[c]) ++ #[c]) ++ #[c]) ++ #[c]) = _
 rfl
theorem word_z {c : Nat} (h : isLet c = true) : VarN (("z" : Str) ++ ⟨(List.replicate (11 : Int).toNat (#[c] : Array Nat)).foldl (· ++ ·) #[]⟩) := by
 rw [rep11]
 have e : ((("z" : Str) ++ ⟨#[c, c, c, c, c, c, c, c, c, c, c]⟩ : Str)).cps.toList = [122, c, c, c, c, c, c, c, c, c, c, c] := by
  rw [tl_app]
  rfl
 refine ⟨⟨122, [c, c, c, c, c, c, c, c, c, c, c], e, by decide, fun d hd => ?_, (show 11 ≤ 11 by decide)⟩, fun hm => ?_⟩
 ·simp only [List.mem_cons, List.not_mem_nil, or_false, or_self] at hd
  rw [hd, h]; rfl
 ·have hl : ∀ y ∈ barredL, y.cps.toList.length ≤ 5 := by decide +kernel
  have := hl _ hm
  rw [e] at this
  exact absurd this (by simp)
def spBarred : Sp := fun vs H Q _ => ∃ z, vs = [.str z] ∧ ∀ H', Fr [] H H' → Q (.bl (decide (z ∈ barredL))) H'
def spNames : Sp := fun vs H Q _ => ∃ (b cs : Addr) (m : Nat), vs = [.ref b, .int m] ∧ m ≤ 22 ∧ BagAt H b cs ∧
 ∀ (p : Addr) (ws : List Str) H', H p = none → H' p = some (.lst (ws.map V.str)) → ws.length = m → (∀ x ∈ ws, VarN x) → BagAt H' b cs → Fr [b] H H' → Q (.ref p) H'
abbrev s__law_barred : Stmt := topS 64
theorem sc__law_barred : FnScope ["_law_word_here"] ["_law_word_here"] (defScope s__law_barred) := ⟨rfl, rfl, rfl, by decide +kernel, rfl, by decide +kernel, by decide +kernel⟩
abbrev s__law_names : Stmt := topS 66
theorem sc__law_names : FnScope ["_law_bag_here", "_law_many", "_law_found", "_law_k", "_law_word_here", "_law_spot", "_law_sign"] ["_law_bag_here", "_law_many"] (defScope s__law_names) := ⟨rfl, rfl, rfl, by decide +kernel, rfl, by decide +kernel, by decide +kernel⟩
section
variable {P : Program} {w : World} {K : PySem.W.Frag} {mg : Str → Option Value} {base : Heap}
theorem ok__law_barred {f : Addr} {fd : FuncData} (F : FnP K "_law_barred" s__law_barred f fd) : FnG P w K mg base CX0 1 f fd ["_law_word_here"] spBarred := by
 refine okG F sc__law_barred (fun vs H Q E h => ?_) (fun cdv A outer s H vs Q E hr h => ?_)
 ·obtain ⟨z, rfl, _⟩ := h
  rfl
 obtain ⟨z, rfl, q⟩ := h
 refine ⟨_, PSs.nox (pss_one (ps_ret (pe_cmpR (kOp (K := K) (r := uIn) rfl opu_in) (pv 0) (pe_tup (pa_cons pe_str (pa_cons pe_str (pa_cons pe_str (pa_cons pe_str (pa_cons pe_str (pa_cons pe_str (pa_cons pe_str (pa_cons pe_str (pa_cons pe_str (pa_cons pe_str pa_nil))))))))))) (by rfl)))), rd_start (σ0 := [some (.str z)]) rfl ?_⟩
 walk_at "q"
 refine ⟨le_of (by simp), fun p hp => ?_⟩
 refine g_inT (xs := barredL.map V.str) (.inr (SqT.of upd_same)) (flat_strs _) ?_
 rw [inV_str]
 exact q _ (Fr.new hp)
theorem ok__law_names {f : Addr} {fd : FuncData} (F : FnP K "_law_names" s__law_names f fd) (B : Bi mg) (C__law_word : CalG P w K mg base 30 "_law_word" spWord) (C__law_pull : CalG P w K mg base 10 "_law_pull" spPull) (C__law_barred : CalG P w K mg base 1 "_law_barred" spBarred) :
  FnG P w K mg base CX0 40 f fd ["_law_bag_here", "_law_many"] spNames := by
 refine okG F sc__law_names (fun vs H Q E h => ?_) (fun cdv A outer s H vs Q E hr h => ?_)
 ·obtain ⟨b, cs, m, rfl, _⟩ := h
  rfl
 obtain ⟨b, cs, m, rfl, hm, hB, q⟩ := h
 refine ⟨_, PSs.nox (pss_cons (ps_set (i := 2) sc__law_names.nd rfl (.inl rfl) (pe_lst pa_nil))
 (pss_cons (ps_for PassesOwn.never rfl (pi_range1 rfl B.b_range (pa_cons (pv 1) pa_nil)) (pg_name (i := 3) sc__law_names.nd rfl (by first | exact Or.inl rfl | exact Or.inr rfl)) (pss_cons (ps_set (i := 4) sc__law_names.nd rfl (.inl rfl) (pe_slice sl_str (pe_calG C__law_word hr rfl (pa_cons (pv 0) pa_nil)) po_none (po_some pe_int)))
 (pss_cons (ps_set (i := 5) sc__law_names.nd rfl (.inl rfl) (pe_op (kOp (K := K) (r := uAdd) rfl opu_add) pe_int (pe_calG C__law_pull hr rfl (pa_cons (pv 0) (pa_cons (pe_callB (kCall (K := K) (r := uLen) rfl callu_len) (by rfl) B.b_len (by decide +kernel) (pa_cons (pv 4) pa_nil)) pa_nil)))))
 (pss_cons (ps_set (i := 6) sc__law_names.nd rfl (.inl rfl) (pe_ix (kIx (K := K) (r := rIx) rfl ix_seq) pe_str (pv 3) (fun _ _ => rfl)))
 (pss_cons (ps_set (i := 4) sc__law_names.nd rfl (.inl rfl) (pe_op (kOp (K := K) (r := uAdd) rfl opu_add) (pe_op (kOp (K := K) (r := uAdd) rfl opu_add) (pe_slice sl_str (pv 4) po_none (po_some (pv 5))) (pv 6)) (pe_slice sl_str (pv 4) (po_some (pv 5)) po_none)))
 (pss_cons (ps_if (PW.pt (pw_or (pt_cmpR (kOp (K := K) (r := uIn) rfl opu_in) (pv 4) (pv 2) (by rfl)) (pw_or1 (pt_val (pe_calG C__law_barred hr rfl (pa_cons (pv 4) pa_nil)))))) (pss_one (ps_set (i := 4) sc__law_names.nd rfl (.inl rfl) (pe_op (kOp (K := K) (r := uAdd) rfl opu_add) pe_str (pe_op opu_mul (pe_ix (kIx (K := K) (r := rIx) rfl ix_seq) pe_str (pv 3) (fun _ _ => rfl)) pe_int)))) pss_nil)
 (pss_one (ps_expr (kBM (K := K) rfl (pe_bm PySem.F.plainAttrs_list PySem.F.slot_list_append PySem.F.type_list_append mt_append (pv 2) (pa_cons (pv 4) pa_nil)))))))))))
 (pss_one (ps_ret (pv 2))))), rd_start (σ0 := [some (.ref b), some (.int m), none, none, none, none, none]) rfl ?_⟩
 walk_at "q"
 refine ⟨le_of (by simp), fun D hD => ?_⟩
 have f0 : Fr [b] H (upd H D (.lst [])) := Fr.new hD
 have hD0 : (upd H D (.lst [])) D = some (.lst []) := upd_same
 have hB0 := hB.fr0 (Fr.new (M := []) (o := .lst []) hD)
 have hDb := hB.some hD
 generalize upd H D (.lst []) = H0 at *
 walk_at "q"
 refine ⟨m, rfl, by omega, by omega, for_range (lo := 0) (n := m) (fun i σ H' => (∃ z1 z2 z3 z4, σ = [some (.ref b), some (.int m), some (.ref D), z1, z2, z3, z4]) ∧ BagAt H' b cs ∧ Fr [b] H H' ∧ ∃ ws : List Str, H' D = some (.lst (ws.map V.str)) ∧ ws.length = i ∧ ∀ x ∈ ws, VarN x)
  ⟨⟨_, _, _, _, rfl⟩, hB0, f0, [], hD0, rfl, fun _ z => nomatch z⟩ (fun i σ H1 hi h => ?_) (fun σ H1 h => ?_)⟩
 ·obtain ⟨⟨z1, z2, z3, z4, rfl⟩, hB1, hF1, ws, hw, hwl, hwv⟩ := h
  have hi2 : (0 : Int) + (i : Int) < 22 := by omega
  obtain ⟨c1, hc1, hc1b⟩ := sgn22_at (d := 0 + (i : Int)) (by omega) hi2
  obtain ⟨c2, hc2, hc2b⟩ := low22_at (d := 0 + (i : Int)) (by omega) hi2
  walk_at "q"
  refine ⟨b, cs, rfl, hB1, fun x H2 hx hB2 hF2 => ?_⟩
  have hxl := len_le12 hx
  walk_at "q"
  refine g_slS (le_of (by omega)) ?_
  walk_at "q"
  have hyl : (cutS x none (some 10)).length ≤ x.length := cutS_length _ _ _
  have hy1 : 1 ≤ (cutS x none (some 10)).length := by
   obtain ⟨d, r, e, _⟩ := hx
   show 1 ≤ (cutS x none (some ((10 : Nat) : Int))).cps.toList.length
   rw [cut_noneD, e]
   simp
  refine g_lenS (le_of (by omega)) ?_
  walk_at "q"
  refine ⟨b, cs, _, rfl, hB2, by omega, Int.lt_of_le_of_lt (b := 1000) (by omega) (by decide), fun d H3 d0 d1 hB3 hF3 => ?_⟩
  walk_at "q"
  refine g_ixS (z := sgn22) (le_of (by decide +kernel)) hc1 ?_
  walk_at "q"
  obtain ⟨s, hs⟩ : ∃ s : Nat, 1 + d = (s : Int) := ⟨(1 + d).toNat, by omega⟩
  rw [hs]
  refine g_slS (le_of (by omega)) ?_
  walk_at "q"
  have hcl : ((cutS (cutS x none (some 10)) none (some (s : Int)))).length ≤ 12 := Nat.le_trans (cutS_length _ _ _) (by omega)
  refine g_addS (by show _ + 1 ≤ _; exact le_of (by omega)) ?_
  walk_at "q"
  refine g_slS (le_of (by omega)) ?_
  have hcl2 : ((cutS (cutS x none (some 10)) (some (s : Int)) none)).length ≤ 12 := Nat.le_trans (cutS_length _ _ _) (by omega)
  refine g_addS (by rw [app_len]; show _ + 1 + _ ≤ _; exact le_of (by omega)) ?_
  have hw2 := word_put hx hc1b (n := 10) (s := s) (by decide) (by decide) (by omega)
  have e10 : cutS (cutS x none (some ((10 : Nat) : Int))) none (some (s : Int)) ++ ⟨#[c1]⟩ ++ cutS (cutS x none (some ((10 : Nat) : Int))) (some (s : Int)) none = cutS (cutS x none (some 10)) none (some (s : Int)) ++ ⟨#[c1]⟩ ++ cutS (cutS x none (some 10)) (some (s : Int)) none := rfl
  rw [e10] at hw2
  generalize cutS (cutS x none (some 10)) none (some (s : Int)) ++ ⟨#[c1]⟩ ++ cutS (cutS x none (some 10)) (some (s : Int)) none = y at *
  have hDb' : D ∉ [b] := fun z => hDb.1 (List.mem_singleton.mp z)
  have hw3 := (hF2.trans hF3).at hw hDb'
  walk_at "q"
  refine g_inT (.inl (SqL.of hw3)) (flat_strs _) ?_
  rw [inV_str]
  walk_at "q"
  have hB4 := hB3
  have app : ∀ (y' : Str) (H4 : Hp), VarN y' → BagAt H4 b cs → Fr [b] H H4 → (∃ ws' : List Str, (upd H4 D (.lst (ws.map V.str ++ [.str y']))) D = some (.lst (ws'.map V.str)) ∧ ws'.length = i + 1 ∧ ∀ x ∈ ws', VarN x) ∧ BagAt (upd H4 D (.lst (ws.map V.str ++ [.str y']))) b cs ∧ Fr [b] H (upd H4 D (.lst (ws.map V.str ++ [.str y']))) := by
   intro y' H4 hy hB hF
   refine ⟨⟨ws ++ [y'], by rw [upd_same, List.map_append]; rfl, by rw [List.length_append, hwl]; rfl, fun x hx => ?_⟩, ?_, hF.over hD⟩
   ·rcases List.mem_append.mp hx with hx | hx
    ·exact hwv x hx
    ·rw [List.mem_singleton.mp hx]; exact hy
   ·obtain ⟨cells, i, r, k, h1, h2, h3⟩ := hB.ex
    exact ⟨cells, i, r, k, by rw [upd_ne hDb.1.symm]; exact h1, by rw [upd_ne hDb.2.symm]; exact h2, h3⟩
  have F3 : Fr [b] H H3 := (hF1.trans hF2).trans hF3
  refine g_by (fun c => ?_) (fun c => ?_)
  ·walk_at "q"
   refine g_ixS (z := low22) (le_of (by decide +kernel)) hc2 ?_
   walk_at "q"
   refine g_mulS (by decide) (by decide) (show 0 < 1 by decide) (show 1 ≤ 1000 by decide) ?_
   refine g_addS (by rw [rep11]; exact le_of (show 1 + 11 ≤ 100000 by decide)) ?_
   have hz := word_z hc2b
   walk_at "q"
   refine ⟨D, _, _, rfl, rfl, hw3, lt_of (by rw [List.length_map]; omega), ?_⟩
   obtain ⟨a1, a2, a3⟩ := app _ _ hz hB3 F3
   exact ⟨⟨_, _, _, _, rfl⟩, a2, a3, a1⟩
  ·walk_at "q"
   refine ⟨y, rfl, fun H4 e4 => ?_⟩
   have hw4 := e4.at hw3 (fun z => nomatch z)
   have hB4 := hB3.fr0 e4
   have F4 := F3.trans e4.nil
   walk_at "q"
   refine g_by (fun c2 => ?_) (fun c2 => ?_)
   ·walk_at "q"
    refine g_ixS (z := low22) (le_of (by decide +kernel)) hc2 ?_
    walk_at "q"
    refine g_mulS (by decide) (by decide) (show 0 < 1 by decide) (show 1 ≤ 1000 by decide) ?_
    refine g_addS (by rw [rep11]; exact le_of (show 1 + 11 ≤ 100000 by decide)) ?_
    have hz := word_z hc2b
    walk_at "q"
    refine ⟨D, _, _, rfl, rfl, hw4, lt_of (by rw [List.length_map]; omega), ?_⟩
    obtain ⟨a1, a2, a3⟩ := app _ _ hz hB4 F4
    exact ⟨⟨_, _, _, _, rfl⟩, a2, a3, a1⟩
   ·walk_at "q"
    refine ⟨D, _, _, rfl, rfl, hw4, lt_of (by rw [List.length_map]; omega), ?_⟩
    obtain ⟨a1, a2, a3⟩ := app _ _ ⟨hw2, c2⟩ hB4 F4
    exact ⟨⟨_, _, _, _, rfl⟩, a2, a3, a1⟩
 ·obtain ⟨⟨z1, z2, z3, z4, rfl⟩, hB1, hF1, ws, hw, hwl, hwv⟩ := h
  walk_at "q"
  exact q D ws H1 hD hw hwl hwv hB1 hF1
end
def putS (vd : List (Str × Str)) (x k : Str) : List (Str × Str) := if (vd.any fun p => decide (p.1 = x)) = true then vd.map (fun p => if p.1 = x then (p.1, k) else p) else vd ++ [(x, k)]
theorem kvOf_put (vd : List (Str × Str)) (x k : Str) : putK (kvOf vd) (Sum.inr x) (.str k) = kvOf (putS vd x k) := by
 have ea : ((kvOf vd).any fun kv => decide (kv.1 = (Sum.inr x : Key))) = vd.any fun p => decide (p.1 = x) := by
  unfold kvOf
  rw [List.any_map]
  congr 1
  funext p
  show decide ((Sum.inr p.1 : Key) = Sum.inr x) = decide (p.1 = x)
  by_cases h : p.1 = x
  ·rw [decide_eq_true h, decide_eq_true (by rw [h])]
  ·rw [decide_eq_false h, decide_eq_false fun e => h (Sum.inr.inj e)]
 unfold putK putS
 rw [ea]
 split
 ·unfold kvOf
  rw [List.map_map, List.map_map]
  congr 1
  funext p
  show (if (Sum.inr p.1 : Key) = Sum.inr x then _ else _) = _
  by_cases h : p.1 = x
  ·rw [if_pos (by rw [h])]
   show _ = ((Sum.inr (if p.1 = x then (p.1, k) else p).1 : Key), V.str (if p.1 = x then (p.1, k) else p).2)
   rw [if_pos h]
  ·rw [if_neg fun e => h (Sum.inr.inj e)]
   show _ = ((Sum.inr (if p.1 = x then (p.1, k) else p).1 : Key), V.str (if p.1 = x then (p.1, k) else p).2)
   rw [if_neg h]
 ·unfold kvOf
  rw [List.map_append]
  rfl
structure VdG (vd : List (Str × Str)) : Prop where
 len : vd.length ≤ 12
 ok : ∀ p ∈ vd, VarN p.1 ∧ KindW p.2
theorem putS_mem {vd : List (Str × Str)} {x k : Str} {p : Str × Str} (h : p ∈ putS vd x k) : p ∈ vd ∨ p = (x, k) := by
 unfold putS at h
 split at h
 ·obtain ⟨c, hc, rfl⟩ := List.mem_map.mp h
  split
  ·rename_i e
   exact .inr (by rw [e])
  ·exact .inl hc
 ·rcases List.mem_append.mp h with h | h
  ·exact .inl h
  ·exact .inr (List.mem_singleton.mp h)
theorem putS_len {vd : List (Str × Str)} {x k : Str} : (putS vd x k).length ≤ vd.length + 1 := by
 unfold putS
 split
 ·rw [List.length_map]; omega
 ·rw [List.length_append]; exact Nat.le_refl _
theorem VdG.put {vd : List (Str × Str)} {x k : Str} (h : VdG vd) (hl : vd.length ≤ 11) (hx : VarN x) (hk : KindW k) : VdG (putS vd x k) := by
 refine ⟨Nat.le_trans putS_len (by omega), fun p hp => ?_⟩
 rcases putS_mem hp with hp | rfl
 ·exact h.ok p hp
 ·exact ⟨hx, hk⟩
theorem VdG.lk {vd : List (Str × Str)} {x k : Str} (h : VdG vd) (e : vd.lookup x = some k) : VarN x ∧ KindW k := by
 rw [List.lookup_eq_some_iff] at e
 obtain ⟨l1, l2, e, _⟩ := e
 exact h.ok (x, k) (by rw [e]; simp)
theorem VarN.ok {x : Str} (h : VarN x) : PyData.strOk x = true := by
 unfold PyData.strOk
 rw [← Array.all_toList, List.all_eq_true]
 exact fun c hc => decide_eq_true (h.1.tx.ok c hc)
theorem VarsAt.put {H : Hp} {d : Addr} {vd : List (Str × Str)} {x k : Str} (h : VarsAt H d vd) (hx : VarN x) (hl : vd.length ≤ 50) : VarsAt (upd H d (.dK (kvOf (putS vd x k)))) d (putS vd x k) :=
 ⟨upd_same, Nat.lt_of_le_of_lt putS_len (by omega), fun p hp => by
  rcases putS_mem hp with hp | rfl
  ·exact h.ok p hp
  ·exact hx.ok⟩
def ValW (u : V) : Prop := (∃ i : Int, u = .int i ∧ i.natAbs < 10 ^ 30) ∨ (∃ b, u = .bl b) ∨ ∃ x, u = .str x ∧ WordP x
theorem ValOf.w {k : Str} {u : V} (h : ValOf k u) : ValW u := by
 rcases h with ⟨_, n, rfl, h1, h2⟩ | ⟨_, c, rfl⟩ | ⟨_, x, rfl, hx⟩
 ·exact .inl ⟨n, rfl, by omega⟩
 ·exact .inr (.inl ⟨c, rfl⟩)
 ·exact .inr (.inr ⟨x, rfl, hx⟩)
theorem ValW.g {u : V} (h : ValW u) : ValG u := by
 rcases h with ⟨i, rfl, h⟩ | ⟨b, rfl⟩ | ⟨x, rfl, h⟩
 ·exact .inl ⟨i, rfl, h⟩
 ·exact .inr (.inl ⟨b, rfl⟩)
 ·exact .inr (.inr ⟨x, rfl, h.tx⟩)
theorem ValW.td {K : PySem.W.Frag} {H : Hp} {u : V} (h : ValW u) : Td K H u (scD u) := by
 rcases h with ⟨i, rfl, h⟩ | ⟨b, rfl⟩ | ⟨x, rfl, h⟩
 ·exact .int i
 ·exact .bl b
 ·exact .str x
inductive SumW : Nat → SumE → Prop
 | val {n : Nat} {u : V} : ValW u → SumW n (.val u)
 | var {n : Nat} {x : Str} : VarN x → SumW n (.var x)
 | op {n : Nat} {s : Str} {a b : SumE} : isSg s → SumW n a → SumW n b → SumW (n + 1) (.op s a b)
theorem SumW.up {m n : Nat} {e : SumE} (h : SumW m e) (l : m ≤ n) : SumW n e := by
 induction h generalizing n with
 | val h => exact .val h
 | var h => exact .var h
 | op hs _ _ iha ihb =>
  obtain ⟨k, rfl⟩ : ∃ k, n = k + 1 := ⟨n - 1, by omega⟩
  exact .op hs (iha (by omega)) (ihb (by omega))
theorem SumW.g {n : Nat} {e : SumE} (h : SumW n e) : SumG n e := by
 induction h with
 | val h => exact .val h.g
 | var h => exact .var h.1.tx
 | op hs _ _ h1 h2 => exact .op hs h1 h2
inductive TermW : TermE → Prop
 | any : TermW .any
 | s {e : SumE} : SumW 0 e → TermW (.s e)
theorem TermW.g {t : TermE} (h : TermW t) : TermG t := by
 cases h with
 | any => exact .any
 | s h => exact .s h.g
inductive NameD : Str → Prop
 | one {a : Str} : VarN a → NameD a
 | two {a b : Str} : VarN a → VarN b → NameD (a ++ "." ++ b)
 | three {a b c : Str} : VarN a → VarN b → VarN c → NameD (a ++ "." ++ b ++ "." ++ c)
theorem NameD.tx {x : Str} (h : NameD x) : Tx 38 x := by
 have d : Tx 1 (".": Str) := Tx.lit (by decide +kernel)
 cases h with
 | one h => exact h.1.tx.mono (by decide)
 | two h k => exact ((h.1.tx.app d).app k.1.tx).mono (by decide)
 | three h k l => exact ((((h.1.tx.app d).app k.1.tx).app d).app l.1.tx).mono (by decide)
def testL : List Str := ["=", "!=", "<", "<=", ">", ">="]
inductive PartW : PartE → Prop
 | atom {no : Bool} {x : Str} {ts : List TermE} : Tx 40 x → NameD x → 1 ≤ ts.length → ts.length ≤ 4 → (∀ t ∈ ts, TermW t) → PartW (.atom no x ts)
 | lt {x : Str} {e : SumE} : VarN x → SumW 1 e → PartW (.lt x e)
 | test {s : Str} {a b : SumE} : s ∈ testL → SumW 1 a → SumW 1 b → PartW (.test s a b)
theorem testL_tx {s : Str} (h : s ∈ testL) : Tx 2 s := by
 have z : ∀ s ∈ testL, txB 2 s = true := by decide +kernel
 exact Tx.lit (z s h)
theorem PartW.g {p : PartE} (h : PartW p) : PartG p := by
 cases h with
 | atom hx _ _ hl h => exact .atom (hx.mono (by decide)) hl fun t ht => (h t ht).g
 | lt hx h => exact .lt hx.1.tx h.g
 | test hs h k => exact .test (testL_tx hs) h.g k.g
inductive ArgW : ArgE → Prop
 | s {e : SumE} : SumW 0 e → ArgW (.s e)
 | fold0 : ArgW (.fold "count" none)
 | fold {w x : Str} : w ∈ (["sum", "least", "most"] : List Str) → VarN x → ArgW (.fold w (some x))
theorem ArgW.g {a : ArgE} (h : ArgW a) : ArgG a := by
 cases h with
 | s h => exact .s h.g
 | fold0 => exact .fold0 (Tx.lit (by decide +kernel))
 | fold h k =>
  have z : ∀ s ∈ (["sum", "least", "most"] : List Str), txB 5 s = true := by decide +kernel
  exact .fold (Tx.lit (z _ h)) k.1.tx
theorem LeafAt.w {K : PySem.W.Frag} {H : Hp} {vd : List (Str × Str)} {k : Str} {p : Addr} (h : LeafAt K H vd k p) (hv : VdG vd) : ∃ e, SumW 0 e ∧ Td K H (.ref p) e.d := by
 rcases h with ⟨u, h1, h2⟩ | ⟨x, h1, h2⟩
 ·exact ⟨.val u, .val h2.w, .tup h1 (.cons (.str _) (.cons h2.w.td .nil))⟩
 ·exact ⟨.var x, .var (hv.lk h2).1, .tup h1 (.cons (.str _) (.cons (.str _) .nil))⟩
theorem SumND.w {vd : List (Str × Str)} {m : Nat} {e : SumE} (h : SumND vd m e) (hv : VdG vd) : SumW m e := by
 induction h with
 | num h _ => exact .val h.w
 | var h => exact .var (hv.lk h).1
 | op hs _ _ h1 h2 => exact .op hs h1 h2
theorem SumAt.td {K : PySem.W.Frag} {H : Hp} {m : Nat} : ∀ {e : SumE} {v : V}, SumW m e → SumAt K H e v → Td K H v e.d := by
 intro e v hw
 induction hw generalizing v with
 | val h => exact fun ⟨p, e, hp⟩ => by rw [e]; exact .tup hp (.cons (.str _) (.cons h.td .nil))
 | var h => exact fun ⟨p, e, hp⟩ => by rw [e]; exact .tup hp (.cons (.str _) (.cons (.str _) .nil))
 | op hs _ _ h1 h2 => exact fun ⟨p, y, z, e, hp, ha, hb⟩ => by rw [e]; exact .tup hp (.cons (.str _) (.cons (h1 ha) (.cons (h2 hb) .nil)))
def abc10 : Str := "xyuvwabcde"
theorem abc10_at {n : Nat} (h : n < 10) : ∃ c, atI abc10.cps.toList (n : Int) = some c ∧ VarN ⟨#[c]⟩ := by
 have e : abc10.cps.toList = [120, 121, 117, 118, 119, 97, 98, 99, 100, 101] := by decide +kernel
 obtain ⟨c, hc, ha⟩ := atI_in (xs := abc10.cps.toList) (d := (n : Int)) (by omega) (by rw [e]; exact Int.ofNat_lt.mpr h)
 refine ⟨c, ha, ?_⟩
 rw [e] at hc
 have z : ∀ c ∈ ([120, 121, 117, 118, 119, 97, 98, 99, 100, 101] : List Nat), varB ⟨#[c]⟩ = true := by decide +kernel
 exact varB_ok (z c hc)
def spTerms (K : PySem.W.Frag) : Sp := fun vs H Q _ => ∃ (b cs kl d : Addr) (ks : List Str) (vd : List (Str × Str)), vs = [.ref b, .ref kl, .ref d] ∧ BagAt H b cs ∧ H kl = some (.lst (ks.map V.str)) ∧ kl ≠ b ∧ ks.length ≤ 4 ∧ (∀ k ∈ ks, KindW k) ∧ VarsAt H d vd ∧ VdG vd ∧
 ∀ (p : Addr) (us : List V) (ts : List TermE) (vd' : List (Str × Str)) (H' : Hp), SqT K H' p us → TdAll K H' us (ts.map TermE.d) → ts.length = ks.length → (∀ t ∈ ts, TermW t) → VarsAt H' d vd' → VdG vd' → vd'.length ≤ max 8 vd.length → BagAt H' b cs → Fr [b, d] H H' → Q (.ref p) H'
abbrev s__law_terms : Stmt := topS 79
theorem sc__law_terms : FnScope ["_law_bag_here", "_law_kinds", "_law_vars_of", "_law_terms_here", "_law_kind", "_law_fork", "_law_alike", "_law_name"] ["_law_bag_here", "_law_kinds", "_law_vars_of"] (defScope s__law_terms) := ⟨rfl, rfl, rfl, by decide +kernel, rfl, by decide +kernel, by decide +kernel⟩
section
variable {P : Program} {w : World} {K : PySem.W.Frag} {mg : Str → Option Value} {base : Heap}
structure BiRD (mg : Str → Option Value) : Prop where
 b_len : mg "len" = none
 b_list : mg "list" = none
 b_sorted : mg "sorted" = none
 b_tuple : mg "tuple" = none
 b_range : mg "range" = none
theorem tda_snoc {K : PySem.W.Frag} {H : Hp} : ∀ {vs : List V} {ds : List PyData} {v : V} {d : PyData}, TdAll K H vs ds → Td K H v d → TdAll K H (vs ++ [v]) (ds ++ [d])
 | _, _, _, _, .nil, h => .cons h .nil
 | _, _, _, _, .cons a b, h => .cons a (tda_snoc b h)
theorem ok__law_terms {f : Addr} {fd : FuncData} (F : FnP K "_law_terms" s__law_terms f fd) (B : BiRD mg) (C__law_pull : CalG P w K mg base 10 "_law_pull" spPull) (C__law_one : CalG P w K mg base 20 "_law_one" (spOne K)) (C__law_value : CalG P w K mg base 40 "_law_value" spValue) :
  FnG P w K mg base CX0 60 f fd ["_law_bag_here", "_law_kinds", "_law_vars_of"] (spTerms K) := by
 refine okG F sc__law_terms (fun vs H Q E h => ?_) (fun cdv A outer s H vs Q E hr h => ?_)
 ·obtain ⟨b, cs, kl, d, ks, vd, rfl, _⟩ := h
  rfl
 obtain ⟨b, cs, kl, d, ks, vd, rfl, hB, hkl, hkb, hk4, hkk, hV, hG, q⟩ := h
 have hu := hu_of hr.rm
 have hdb := hV.ne hB
 have hkd : kl ≠ d := fun e => by have z := hV.at_; rw [← e, hkl] at z; cases z
 refine ⟨_, PSs.nox (pss_cons (ps_set (i := 3) sc__law_terms.nd rfl (.inl rfl) (pe_lst pa_nil))
 (pss_cons (ps_for PassesOwn.never rfl (pi_listK (K := K) rfl (pv 1)) (pg_name (i := 4) sc__law_terms.nd rfl (by first | exact Or.inl rfl | exact Or.inr rfl)) (pss_cons (ps_set (i := 5) sc__law_terms.nd rfl (.inl rfl) (pe_calG C__law_pull hr rfl (pa_cons (pv 0) (pa_cons pe_int pa_nil))))
 (pss_cons (ps_setLc (i := 6) (own := [("_law_name", 7)]) (g := gName 7) rfl sc__law_terms.nd rfl rfl (sw_true rfl rfl rfl (by decide +kernel)) (pi_listK (K := K) rfl (pe_callB (kCall (K := K) (r := rSortedS) rfl cr_sortedS) (by rfl) B.b_sorted (by decide +kernel) (pa_cons (pe_callTy (kCall (K := K) (r := uList) rfl callu_list) (by rfl) B.b_list (by decide +kernel) (pa_cons (pv 2) pa_nil)) pa_nil))) (blkOk_by (own := [("_law_name", 7)]) (N := ["_law_bag_here", "_law_kinds", "_law_vars_of", "_law_terms_here", "_law_kind", "_law_fork", "_law_alike", "_law_name"]) (sc := defScope s__law_terms) (by decide +kernel)) (fun _ _ _ _ _ => (by exact (pg_name (i := 7) sc__law_terms.nd rfl (by first | exact Or.inl rfl | exact Or.inr rfl)))) (fun _ _ _ _ _ => (by exact pts_one (pt_cmpR (kOp (K := K) (r := uEq) rfl (opu_eq hr.units)) (pe_dget hu (pv 2) (pv 7) (fun _ _ => rfl)) (pv 4) (nomark _)))) (fun _ _ _ _ _ => (by exact (pv 7))))
 (pss_one (ps_if (PW.pt (pw_and (pt_cmpR (kOp (K := K) (r := uLt) rfl opu_lt) (pv 5) pe_int (nomark _)) (pw_and1 (pt_cmpR (kOp (K := K) (r := uNe) rfl (opu_ne hr.units)) (pv 6) (pe_lst pa_nil) (nomark _))))) (pss_one (ps_expr (kBM (K := K) rfl (pe_bm PySem.F.plainAttrs_list PySem.F.slot_list_append PySem.F.type_list_append mt_append (pv 3) (pa_cons (pe_tup (pa_cons pe_str (pa_cons (pe_calG C__law_one hr rfl (pa_cons (pv 0) (pa_cons (pv 6) pa_nil))) pa_nil))) pa_nil))))) (pss_one (ps_if (PW.pt (pw_and (pt_cmpR (kOp (K := K) (r := uLt) rfl opu_lt) (pv 5) pe_int (nomark _)) (pw_and1 (pt_cmpR (kOp (K := K) (r := uLt) rfl opu_lt) (pe_callB (kCall (K := K) (r := uLen) rfl callu_len) (by rfl) B.b_len (by decide +kernel) (pa_cons (pv 2) pa_nil)) pe_int (nomark _))))) (pss_cons (ps_set (i := 7) sc__law_terms.nd rfl (.inl rfl) (pe_ix (kIx (K := K) (r := rIx) rfl ix_seq) pe_str (pe_callB (kCall (K := K) (r := uLen) rfl callu_len) (by rfl) B.b_len (by decide +kernel) (pa_cons (pv 2) pa_nil)) (fun _ _ => rfl)))
 (pss_cons (ps_dput hu (pv 2) (pv 7) (pv 4) rfl)
 (pss_one (ps_expr (kBM (K := K) rfl (pe_bm PySem.F.plainAttrs_list PySem.F.slot_list_append PySem.F.type_list_append mt_append (pv 3) (pa_cons (pe_tup (pa_cons pe_str (pa_cons (pv 7) pa_nil))) pa_nil))))))) (pss_one (ps_if (pt_cmpR (kOp (K := K) (r := uEq) rfl (opu_eq hr.units)) (pv 5) pe_int (nomark _)) (pss_one (ps_expr (kBM (K := K) rfl (pe_bm PySem.F.plainAttrs_list PySem.F.slot_list_append PySem.F.type_list_append mt_append (pv 3) (pa_cons (pe_tup (pa_cons pe_str (pa_cons (pe_calG C__law_value hr rfl (pa_cons (pv 0) (pa_cons (pv 4) pa_nil))) pa_nil))) pa_nil))))) (pss_one (ps_expr (kBM (K := K) rfl (pe_bm PySem.F.plainAttrs_list PySem.F.slot_list_append PySem.F.type_list_append mt_append (pv 3) (pa_cons (pe_tup (pa_cons pe_str pa_nil)) pa_nil))))))))))))))
 (pss_one (ps_ret (pe_callTy (kCall (K := K) (r := uTuple) rfl callu_tuple) (by rfl) B.b_tuple (by decide +kernel) (pa_cons (pv 3) pa_nil)))))), rd_start (σ0 := [some (.ref b), some (.ref kl), some (.ref d), none, none, none, none, none]) rfl ?_⟩
 walk_at "q"
 refine ⟨le_of (by simp), fun T hT => ?_⟩
 have f0 : Fr [] H (upd H T (.lst [])) := Fr.new hT
 have hT0 : (upd H T (.lst [])) T = some (.lst []) := upd_same
 have hTb := hB.some hT
 have hTd : T ≠ d := fun e => by have z := hV.at_; rw [← e, hT] at z; cases z
 have hTM : T ∉ [b, d] := fun z => by
  rcases List.mem_cons.mp z with z | z
  ·exact hTb.1 z
  ·exact hTd (List.mem_singleton.mp z)
 have hB0 := hB.fr0 f0
 have hV0 := hV.fr f0 (fun z => nomatch z)
 have hkM : kl ∉ [b, d] := fun z => by
  rcases List.mem_cons.mp z with z | z
  ·exact hkb z
  ·exact hkd (List.mem_singleton.mp z)
 generalize upd H T (.lst []) = H0 at *
 have bsub : ∀ {H H' : Hp}, Fr [b] H H' → Fr [b, d] H H' := fun e => e.mono fun a ha => by rw [List.mem_singleton.mp ha]; exact List.mem_cons_self
 walk_at "q"
 refine ⟨kl, rfl, ⟨_, SqL.of (f0.at hkl (fun z => nomatch z))⟩, for_list (xs := ks.map V.str) (fun i σ H' => (∃ z1 z2 z3 z4, σ = [some (.ref b), some (.ref kl), some (.ref d), some (.ref T), z1, z2, z3, z4]) ∧ BagAt H' b cs ∧ Fr [b, d] H H' ∧ ∃ (us : List V) (ts : List TermE) (vd' : List (Str × Str)), H' T = some (.lst us) ∧ TdAll K H' us (ts.map TermE.d) ∧ us.length = i ∧ ts.length = i ∧ (∀ t ∈ ts, TermW t) ∧ VarsAt H' d vd' ∧ VdG vd' ∧ vd'.length ≤ max 8 vd.length)
  ⟨⟨_, _, _, _, rfl⟩, hB0, f0.nil, [], [], vd, hT0, .nil, rfl, rfl, (fun _ z => nomatch z), hV0, hG, Nat.le_max_right _ _⟩ (fun i σ H' _ h => SqL.of (h.2.2.1.at hkl hkM)) (fun i x σ H1 hx h => ?_) (fun σ H1 h => ?_)⟩
 ·obtain ⟨⟨z1, z2, z3, z4, rfl⟩, hB1, hF1, us, ts, vd1, hT1, ht1, hu1, hl1, htw, hV1, hG1, hm1⟩ := h
  obtain ⟨k, hk, rfl⟩ := List.mem_map.mp (List.mem_of_getElem? hx)
  have hkw := hkk k hk
  have hik : i < ks.length := by
   have := (List.getElem?_eq_some_iff.mp hx).1
   rw [List.length_map] at this
   exact this
  walk_at "q"
  refine ⟨b, cs, _, rfl, hB1, by decide, by decide, fun fork H2 d0 d1 hB2 hF2 => ?_⟩
  have hbM : ∀ {a : Addr}, a ∉ [b, d] → a ∉ [b] := fun h z => h (by rw [List.mem_singleton.mp z]; exact List.mem_cons_self)
  have hdM : d ∉ [b] := fun z => hdb.1 (List.mem_singleton.mp z)
  have hT2 := hF2.at hT1 (hbM hTM)
  have hV2 := hV1.fr hF2 hdM
  have F2 := hF1.trans (bsub hF2)
  have ht2 := ht1.fr hF2
  walk_at "q"
  refine g_listD hV2.at_ fun l hl => ?_
  rw [kvOf_keys]
  have f1 : Fr [] H2 (upd H2 l (.lst ((vd1.map (·.1)).map V.str))) := Fr.new hl
  have hla : (upd H2 l (.lst ((vd1.map (·.1)).map V.str))) l = some (.lst ((vd1.map (·.1)).map V.str)) := upd_same
  generalize upd H2 l (.lst ((vd1.map (·.1)).map V.str)) = Ha at *
  walk_at "q"
  refine ⟨l, vd1.map (·.1), rfl, SqL.of hla, by rw [List.length_map]; have := hV2.len; omega, fun ys p2 hperm _ hp2 => ?_⟩
  have f2 : Fr [] H2 (upd Ha p2 (.lst (ys.map V.str))) := f1.trans (Fr.new hp2)
  have hp21 : (upd Ha p2 (.lst (ys.map V.str))) p2 = some (.lst (ys.map V.str)) := upd_same
  generalize upd Ha p2 (.lst (ys.map V.str)) = Hb at *
  have hyl : ys.length < 60 := by rw [hperm.length_eq, List.length_map]; exact hV2.len
  refine ⟨p2, rfl, ⟨_, SqL.of hp21⟩, fun D hD => lc_it (walk_list (xs := ys.map V.str)) (fun i H' => Fr [] Hb H' ∧ ∃ ws : List Str, H' D = some (.lst (ws.map V.str)) ∧ ws.length ≤ i ∧ ∀ x ∈ ws, vd1.lookup x = some k)
   ⟨Fr.new hD, [], upd_same, Nat.le_refl _, (fun _ z => nomatch z)⟩ (fun i H' _ h => h.1.seq (fun z => nomatch z) (SqL.of hp21)) (fun i x H' H'' hi h y => ?_) (fun Hc h => ?_)⟩
  ·obtain ⟨rfl, hx⟩ := y
   obtain ⟨h1, ws, h2, h3, h4⟩ := h
   obtain ⟨z, hz, rfl⟩ := List.mem_map.mp (List.mem_of_getElem? hx)
   obtain ⟨k2, hk2⟩ := lookup_mem (hperm.mem_iff.mp hz)
   walk_at "q"
   refine ⟨rfl, ?_⟩
   walk_at "q"
   have hV' := (hV2.fr f2 (fun z => nomatch z)).fr h1 (fun z => nomatch z)
   refine g_dgetS hV'.at_ (v := V.str k2) (by rw [kvOf_val, hk2]; rfl) ?_
   walk_at "q"
   refine g_by (fun c => ?_) (fun c => ?_)
   ·walk_at "q"
    refine ⟨_, h2, lt_of (by rw [List.length_map]; rw [List.length_map] at hi; omega), h1.over hD, ws ++ [z], ?_, ?_, ?_⟩
    ·rw [upd_same, List.map_append]; rfl
    ·rw [List.length_append]; exact Nat.succ_le_succ h3
    ·intro x hx
     rcases List.mem_append.mp hx with hx | hx
     ·exact h4 x hx
     ·rw [List.mem_singleton.mp hx, hk2, c]
   ·exact ⟨h1, ws, h2, Nat.le_succ_of_le h3, h4⟩
  ·obtain ⟨h1, ws, hws, h3, hwk⟩ := h
   have fc : Fr [] H2 Hc := f2.trans h1
   rw [List.length_map] at h3
   have hwl : ws.length < 60 := by omega
   have hDn : H2 D = none := f2.back (fun z => nomatch z) hD
   have hVc := hV2.fr fc (fun z => nomatch z)
   have hBc := hB2.fr0 fc
   have hTc := fc.at hT2 (fun z => nomatch z)
   have Fc := F2.trans fc.nil
   have htc := ht2.fr fc
   have hDb := hB2.some hDn
   have fin : ∀ (H5 : Hp) (p : Addr) (t : TermE) (vd2 : List (Str × Str)), TermW t → Td K H5 (.ref p) t.d → BagAt H5 b cs → Fr [b, d] H H5 → H5 T = some (.lst us) → VarsAt H5 d vd2 → VdG vd2 → TdAll K H5 us (ts.map TermE.d) → vd2.length ≤ max 8 vd.length →
     BagAt (upd H5 T (.lst (us ++ [.ref p]))) b cs ∧ Fr [b, d] H (upd H5 T (.lst (us ++ [.ref p]))) ∧ ∃ (us' : List V) (ts' : List TermE) (vd' : List (Str × Str)), (upd H5 T (.lst (us ++ [.ref p]))) T = some (.lst us') ∧ TdAll K (upd H5 T (.lst (us ++ [.ref p]))) us' (ts'.map TermE.d) ∧ us'.length = i + 1 ∧ ts'.length = i + 1 ∧ (∀ t ∈ ts', TermW t) ∧ VarsAt (upd H5 T (.lst (us ++ [.ref p]))) d vd' ∧ VdG vd' ∧ vd'.length ≤ max 8 vd.length := by
    intro H5 p t vd2 hw htd hB5 hF5 hT5 hV5 hG5 ht5 hm5
    have e : Fr [T] H5 (upd H5 T (.lst (us ++ [.ref p]))) := Fr.mut (List.mem_singleton.mpr rfl) hT5 nofix_lst
    refine ⟨hB5.fr e (fun z => hTb.1 (List.mem_singleton.mp z).symm) (fun z => hTb.2 (List.mem_singleton.mp z).symm), hF5.over hT, us ++ [.ref p], ts ++ [t], vd2, upd_same, ?_, ?_, ?_, ?_, hV5.fr e (fun z => hTd (List.mem_singleton.mp z).symm), hG5, hm5⟩
    ·rw [List.map_append]
     exact (tda_snoc ht5 htd).fr e
    ·rw [List.length_append, hu1]; rfl
    ·rw [List.length_append, hl1]; rfl
    ·intro x hx
     rcases List.mem_append.mp hx with hx | hx
     ·exact htw x hx
     ·rw [List.mem_singleton.mp hx]; exact hw
   have lus : us.length < sizeLine := lt_of (by omega)
   have put : ∀ (t : V), True := fun _ => trivial
   walk_at "q"
   refine g_by (fun c3 => ?_) (fun c3 => ?_)
   ·walk_at "q"
    refine ⟨le_of (by decide), fun p4 hp4 => ?_⟩
    have e4 : Fr [] Hc (upd Hc p4 (.lst [])) := Fr.new hp4
    have hn4 : (upd Hc p4 (.lst [])) p4 = some (.lst []) := upd_same
    have hw4 := e4.at hws (fun z => nomatch z)
    have hB9 := hBc.fr0 e4
    have hV9 := hVc.fr e4 (fun z => nomatch z)
    have hT9 := e4.at hTc (fun z => nomatch z)
    have ht9 := htc.fr e4
    have F9 := Fc.trans e4.nil
    generalize upd Hc p4 (.lst []) = H9 at *
    refine g_neEL (SqL.of hw4) (SqL.of hn4) ?_
    walk_at "q"
    refine g_byN (fun cw => ?_) (fun cw => ?_)
    ·have hw0 : 0 < ws.length := by
      cases ws with
      | nil => exact absurd rfl cw
      | cons x r => exact Nat.succ_pos _
     walk_at "q"
     refine ⟨b, cs, D, ws.map V.str, rfl, hB9, .inl ⟨SqL.of hw4, hDb.1⟩, by rw [List.length_map]; exact hw0, by rw [List.length_map]; omega, fun v H5 hv hB5 hF5 => ?_⟩
     obtain ⟨x, hx, rfl⟩ := List.mem_map.mp hv
     have hxv := (hG1.lk (hwk x hx)).1
     have hT5 := hF5.at hT9 (hbM hTM)
     have hV5 := hV9.fr hF5 hdM
     have ht5 := ht9.fr hF5
     have F5 := F9.trans (bsub hF5)
     walk_at "q"
     refine ⟨le_of (by simp), fun p hp => ?_⟩
     have e9 : Fr [] H5 (upd H5 p (.tup [.str "var", .str x])) := Fr.new hp
     have hT9' := e9.at hT5 (fun z => nomatch z)
     walk_at "q"
     refine ⟨T, us, .ref p, rfl, rfl, hT9', lus, ?_⟩
     obtain ⟨a1, a2, a3⟩ := fin _ p (.s (.var x)) vd1 (.s (.var hxv)) (.tup (SqT.of upd_same) (.cons (.str _) (.cons (.str _) .nil))) (hB5.fr0 e9) (F5.trans e9.nil) hT9' (hV5.fr e9 (fun z => nomatch z)) hG1 (ht5.fr e9) hm1
     exact ⟨⟨_, _, _, _, rfl⟩, a1, a2, a3⟩
    ·have hB9 := hB9
     walk_at "q"
     refine g_by (fun c6 => ?_) (fun c6 => ?_)
     ·walk_at "q"
      refine g_lenK hV9.at_ ?_
      walk_at "q"
      have elen : ((kvOf vd1).length : Int) = (vd1.length : Int) := by unfold kvOf; rw [List.length_map]
      rw [elen]
      refine g_by (fun c8 => ?_) (fun c8 => ?_)
      ·obtain ⟨c, hc, hcv⟩ := abc10_at (n := vd1.length) (by omega)
       walk_at "q"
       refine g_lenK hV9.at_ ?_
       rw [elen]
       refine g_ixS (z := abc10) (le_of (by decide +kernel)) hc ?_
       walk_at "q"
       refine g_dputS hV9.at_ (by omega) ?_
       rw [kvOf_put]
       have hV10 := hV9.put (k := k) hcv (by omega)
       have hG10 := hG1.put (k := k) (by omega) hcv hkw
       have e10 : Fr [d] H9 (upd H9 d (.dK (kvOf (putS vd1 ⟨#[c]⟩ k)))) := Fr.mut (List.mem_singleton.mpr rfl) hV9.at_ nofix_dK
       have hB10 := hB9.fr e10 (fun z => hdb.1 (List.mem_singleton.mp z).symm) (fun z => hdb.2 (List.mem_singleton.mp z).symm)
       have hT10 := e10.at hT9 (fun z => hTd (List.mem_singleton.mp z))
       have ht10 := ht9.fr e10
       have F10 : Fr [b, d] H _ := F9.trans (e10.mono fun a ha => by rw [List.mem_singleton.mp ha]; exact List.mem_cons_of_mem _ List.mem_cons_self)
       generalize upd H9 d (.dK (kvOf (putS vd1 ⟨#[c]⟩ k))) = H10 at *
       walk_at "q"
       refine ⟨le_of (by simp), fun p hp => ?_⟩
       have e9 : Fr [] H10 (upd H10 p (.tup [.str "var", .str ⟨#[c]⟩])) := Fr.new hp
       have hT9' := e9.at hT10 (fun z => nomatch z)
       walk_at "q"
       refine ⟨T, us, .ref p, rfl, rfl, hT9', lus, ?_⟩
       obtain ⟨a1, a2, a3⟩ := fin _ p (.s (.var ⟨#[c]⟩)) (putS vd1 ⟨#[c]⟩ k) (.s (.var hcv)) (.tup (SqT.of upd_same) (.cons (.str _) (.cons (.str _) .nil))) (hB10.fr0 e9) (F10.trans e9.nil) hT9' (hV10.fr e9 (fun z => nomatch z)) hG10 (ht10.fr e9) (by have := putS_len (vd := vd1) (x := ⟨#[c]⟩) (k := k); omega)
       exact ⟨⟨_, _, _, _, rfl⟩, a1, a2, a3⟩
      ·have hB9 := hB9
       walk_at "q"
       refine g_by (fun c7 => ?_) (fun c7 => ?_)
       ·walk_at "q"
        refine ⟨b, cs, k, rfl, hkw, hB9, fun u H5 hu5 hB5 hF5 => ?_⟩
        have hT5 := hF5.at hT9 (hbM hTM)
        have hV5 := hV9.fr hF5 hdM
        have ht5 := ht9.fr hF5
        have F5 := F9.trans (bsub hF5)
        walk_at "q"
        refine ⟨le_of (by simp), fun p hp => ?_⟩
        have e9 : Fr [] H5 (upd H5 p (.tup [.str "value", u])) := Fr.new hp
        have hT9' := e9.at hT5 (fun z => nomatch z)
        walk_at "q"
        refine ⟨T, us, .ref p, rfl, rfl, hT9', lus, ?_⟩
        obtain ⟨a1, a2, a3⟩ := fin _ p (.s (.val u)) vd1 (.s (.val hu5.w)) (.tup (SqT.of upd_same) (.cons (.str _) (.cons hu5.w.td .nil))) (hB5.fr0 e9) (F5.trans e9.nil) hT9' (hV5.fr e9 (fun z => nomatch z)) hG1 (ht5.fr e9) hm1
        exact ⟨⟨_, _, _, _, rfl⟩, a1, a2, a3⟩
       ·walk_at "q"
        refine ⟨le_of (by simp), fun p hp => ?_⟩
        have e9 : Fr [] H9 (upd H9 p (.tup [.str "any"])) := Fr.new hp
        have hT9' := e9.at hT9 (fun z => nomatch z)
        walk_at "q"
        refine ⟨T, us, .ref p, rfl, rfl, hT9', lus, ?_⟩
        obtain ⟨a1, a2, a3⟩ := fin _ p .any vd1 .any (.tup (SqT.of upd_same) (.cons (.str _) .nil)) (hB9.fr0 e9) (F9.trans e9.nil) hT9' (hV9.fr e9 (fun z => nomatch z)) hG1 (ht9.fr e9) hm1
        exact ⟨⟨_, _, _, _, rfl⟩, a1, a2, a3⟩
     ·have hB9 := hB9
      walk_at "q"
      refine g_by (fun c7 => ?_) (fun c7 => ?_)
      ·walk_at "q"
       refine ⟨b, cs, k, rfl, hkw, hB9, fun u H5 hu5 hB5 hF5 => ?_⟩
       have hT5 := hF5.at hT9 (hbM hTM)
       have hV5 := hV9.fr hF5 hdM
       have ht5 := ht9.fr hF5
       have F5 := F9.trans (bsub hF5)
       walk_at "q"
       refine ⟨le_of (by simp), fun p hp => ?_⟩
       have e9 : Fr [] H5 (upd H5 p (.tup [.str "value", u])) := Fr.new hp
       have hT9' := e9.at hT5 (fun z => nomatch z)
       walk_at "q"
       refine ⟨T, us, .ref p, rfl, rfl, hT9', lus, ?_⟩
       obtain ⟨a1, a2, a3⟩ := fin _ p (.s (.val u)) vd1 (.s (.val hu5.w)) (.tup (SqT.of upd_same) (.cons (.str _) (.cons hu5.w.td .nil))) (hB5.fr0 e9) (F5.trans e9.nil) hT9' (hV5.fr e9 (fun z => nomatch z)) hG1 (ht5.fr e9) hm1
       exact ⟨⟨_, _, _, _, rfl⟩, a1, a2, a3⟩
      ·walk_at "q"
       refine ⟨le_of (by simp), fun p hp => ?_⟩
       have e9 : Fr [] H9 (upd H9 p (.tup [.str "any"])) := Fr.new hp
       have hT9' := e9.at hT9 (fun z => nomatch z)
       walk_at "q"
       refine ⟨T, us, .ref p, rfl, rfl, hT9', lus, ?_⟩
       obtain ⟨a1, a2, a3⟩ := fin _ p .any vd1 .any (.tup (SqT.of upd_same) (.cons (.str _) .nil)) (hB9.fr0 e9) (F9.trans e9.nil) hT9' (hV9.fr e9 (fun z => nomatch z)) hG1 (ht9.fr e9) hm1
       exact ⟨⟨_, _, _, _, rfl⟩, a1, a2, a3⟩
   ·have hB9 := hBc
    have hV9 := hVc
    have hT9 := hTc
    have ht9 := htc
    have F9 := Fc
    generalize Hc = H9 at *
    walk_at "q"
    refine g_by (fun c6 => ?_) (fun c6 => ?_)
    ·walk_at "q"
     refine g_lenK hV9.at_ ?_
     walk_at "q"
     have elen : ((kvOf vd1).length : Int) = (vd1.length : Int) := by unfold kvOf; rw [List.length_map]
     rw [elen]
     refine g_by (fun c8 => ?_) (fun c8 => ?_)
     ·obtain ⟨c, hc, hcv⟩ := abc10_at (n := vd1.length) (by omega)
      walk_at "q"
      refine g_lenK hV9.at_ ?_
      rw [elen]
      refine g_ixS (z := abc10) (le_of (by decide +kernel)) hc ?_
      walk_at "q"
      refine g_dputS hV9.at_ (by omega) ?_
      rw [kvOf_put]
      have hV10 := hV9.put (k := k) hcv (by omega)
      have hG10 := hG1.put (k := k) (by omega) hcv hkw
      have e10 : Fr [d] H9 (upd H9 d (.dK (kvOf (putS vd1 ⟨#[c]⟩ k)))) := Fr.mut (List.mem_singleton.mpr rfl) hV9.at_ nofix_dK
      have hB10 := hB9.fr e10 (fun z => hdb.1 (List.mem_singleton.mp z).symm) (fun z => hdb.2 (List.mem_singleton.mp z).symm)
      have hT10 := e10.at hT9 (fun z => hTd (List.mem_singleton.mp z))
      have ht10 := ht9.fr e10
      have F10 : Fr [b, d] H _ := F9.trans (e10.mono fun a ha => by rw [List.mem_singleton.mp ha]; exact List.mem_cons_of_mem _ List.mem_cons_self)
      generalize upd H9 d (.dK (kvOf (putS vd1 ⟨#[c]⟩ k))) = H10 at *
      walk_at "q"
      refine ⟨le_of (by simp), fun p hp => ?_⟩
      have e9 : Fr [] H10 (upd H10 p (.tup [.str "var", .str ⟨#[c]⟩])) := Fr.new hp
      have hT9' := e9.at hT10 (fun z => nomatch z)
      walk_at "q"
      refine ⟨T, us, .ref p, rfl, rfl, hT9', lus, ?_⟩
      obtain ⟨a1, a2, a3⟩ := fin _ p (.s (.var ⟨#[c]⟩)) (putS vd1 ⟨#[c]⟩ k) (.s (.var hcv)) (.tup (SqT.of upd_same) (.cons (.str _) (.cons (.str _) .nil))) (hB10.fr0 e9) (F10.trans e9.nil) hT9' (hV10.fr e9 (fun z => nomatch z)) hG10 (ht10.fr e9) (by have := putS_len (vd := vd1) (x := ⟨#[c]⟩) (k := k); omega)
      exact ⟨⟨_, _, _, _, rfl⟩, a1, a2, a3⟩
     ·have hB9 := hB9
      walk_at "q"
      refine g_by (fun c7 => ?_) (fun c7 => ?_)
      ·walk_at "q"
       refine ⟨b, cs, k, rfl, hkw, hB9, fun u H5 hu5 hB5 hF5 => ?_⟩
       have hT5 := hF5.at hT9 (hbM hTM)
       have hV5 := hV9.fr hF5 hdM
       have ht5 := ht9.fr hF5
       have F5 := F9.trans (bsub hF5)
       walk_at "q"
       refine ⟨le_of (by simp), fun p hp => ?_⟩
       have e9 : Fr [] H5 (upd H5 p (.tup [.str "value", u])) := Fr.new hp
       have hT9' := e9.at hT5 (fun z => nomatch z)
       walk_at "q"
       refine ⟨T, us, .ref p, rfl, rfl, hT9', lus, ?_⟩
       obtain ⟨a1, a2, a3⟩ := fin _ p (.s (.val u)) vd1 (.s (.val hu5.w)) (.tup (SqT.of upd_same) (.cons (.str _) (.cons hu5.w.td .nil))) (hB5.fr0 e9) (F5.trans e9.nil) hT9' (hV5.fr e9 (fun z => nomatch z)) hG1 (ht5.fr e9) hm1
       exact ⟨⟨_, _, _, _, rfl⟩, a1, a2, a3⟩
      ·walk_at "q"
       refine ⟨le_of (by simp), fun p hp => ?_⟩
       have e9 : Fr [] H9 (upd H9 p (.tup [.str "any"])) := Fr.new hp
       have hT9' := e9.at hT9 (fun z => nomatch z)
       walk_at "q"
       refine ⟨T, us, .ref p, rfl, rfl, hT9', lus, ?_⟩
       obtain ⟨a1, a2, a3⟩ := fin _ p .any vd1 .any (.tup (SqT.of upd_same) (.cons (.str _) .nil)) (hB9.fr0 e9) (F9.trans e9.nil) hT9' (hV9.fr e9 (fun z => nomatch z)) hG1 (ht9.fr e9) hm1
       exact ⟨⟨_, _, _, _, rfl⟩, a1, a2, a3⟩
    ·have hB9 := hB9
     walk_at "q"
     refine g_by (fun c7 => ?_) (fun c7 => ?_)
     ·walk_at "q"
      refine ⟨b, cs, k, rfl, hkw, hB9, fun u H5 hu5 hB5 hF5 => ?_⟩
      have hT5 := hF5.at hT9 (hbM hTM)
      have hV5 := hV9.fr hF5 hdM
      have ht5 := ht9.fr hF5
      have F5 := F9.trans (bsub hF5)
      walk_at "q"
      refine ⟨le_of (by simp), fun p hp => ?_⟩
      have e9 : Fr [] H5 (upd H5 p (.tup [.str "value", u])) := Fr.new hp
      have hT9' := e9.at hT5 (fun z => nomatch z)
      walk_at "q"
      refine ⟨T, us, .ref p, rfl, rfl, hT9', lus, ?_⟩
      obtain ⟨a1, a2, a3⟩ := fin _ p (.s (.val u)) vd1 (.s (.val hu5.w)) (.tup (SqT.of upd_same) (.cons (.str _) (.cons hu5.w.td .nil))) (hB5.fr0 e9) (F5.trans e9.nil) hT9' (hV5.fr e9 (fun z => nomatch z)) hG1 (ht5.fr e9) hm1
      exact ⟨⟨_, _, _, _, rfl⟩, a1, a2, a3⟩
     ·walk_at "q"
      refine ⟨le_of (by simp), fun p hp => ?_⟩
      have e9 : Fr [] H9 (upd H9 p (.tup [.str "any"])) := Fr.new hp
      have hT9' := e9.at hT9 (fun z => nomatch z)
      walk_at "q"
      refine ⟨T, us, .ref p, rfl, rfl, hT9', lus, ?_⟩
      obtain ⟨a1, a2, a3⟩ := fin _ p .any vd1 .any (.tup (SqT.of upd_same) (.cons (.str _) .nil)) (hB9.fr0 e9) (F9.trans e9.nil) hT9' (hV9.fr e9 (fun z => nomatch z)) hG1 (ht9.fr e9) hm1
      exact ⟨⟨_, _, _, _, rfl⟩, a1, a2, a3⟩
 ·obtain ⟨⟨z1, z2, z3, z4, rfl⟩, hB1, hF1, us, ts, vd1, hT1, ht1, hu1, hl1, htw, hV1, hG1, hm1⟩ := h
  walk_at "q"
  refine g_tupleL (SqL.of hT1) fun p hp => ?_
  have e : Fr [] H1 (upd H1 p (.tup us)) := Fr.new hp
  rw [List.length_map] at hl1
  exact q p us ts vd1 _ (SqT.of upd_same) (ht1.fr e) hl1 htw (hV1.fr e (fun z => nomatch z)) hG1 hm1 (hB1.fr0 e) (hF1.trans e.nil)
end
theorem BagAt.nstr {H : Hp} {b cs : Addr} (h : BagAt H b cs) (ks : List Str) : H b ≠ Option.some (.lst (ks.map V.str)) := by
 obtain ⟨cells, i, r, k, h1, h2, h3⟩ := h.ex
 intro e
 rw [h1] at e
 have h3 : [V.ref cs, .int i, .int r, .int k] = ks.map V.str := HO.lst.inj (Option.some.inj e)
 cases ks with
 | nil => cases h3
 | cons c r => cases (List.cons.inj h3).1
theorem VarsAt.nstr {H : Hp} {d : Addr} {vd : List (Str × Str)} (h : VarsAt H d vd) (ks : List Str) : H d ≠ some (.lst (ks.map V.str)) := fun e => by
 rw [h.at_] at e
 cases e
structure KindsAt (H : Hp) (a : Addr) : Prop where
 ex : ∃ kvs : List (Key × V), H a = some (.dK kvs) ∧ kvs.length ≤ 15 ∧ kvs ≠ [] ∧ ∀ kv ∈ kvs, ∃ (x : Str) (l : Addr) (ks : List Str), kv = (Sum.inr x, .ref l) ∧ H l = some (.lst (ks.map V.str)) ∧ NameD x ∧ 1 ≤ ks.length ∧ ks.length ≤ 4 ∧ ∀ k ∈ ks, KindW k
theorem KindsAt.fr {H H' : Hp} {M : List Addr} {a : Addr} (h : KindsAt H a) (e : Fr M H H') (n : a ∉ M) (hM : ∀ l ∈ M, ∀ ks : List Str, H l ≠ some (.lst (ks.map V.str))) : KindsAt H' a := by
 obtain ⟨kvs, h1, h2, h3, h4⟩ := h.ex
 refine ⟨kvs, e.at h1 n, h2, h3, fun kv hkv => ?_⟩
 obtain ⟨x, l, ks, e1, e2, e3⟩ := h4 kv hkv
 exact ⟨x, l, ks, e1, e.at e2 (fun hl => hM l hl ks e2), e3⟩
theorem KindsAt.frb {H H' : Hp} {b cs a : Addr} (h : KindsAt H a) (hB : BagAt H b cs) (e : Fr [b] H H') : KindsAt H' a := by
 obtain ⟨kvs, h1, h2, h3, h4⟩ := h.ex
 refine h.fr e (fun z => ?_) (fun l hl ks => ?_)
 ·rw [List.mem_singleton.mp z] at h1
  obtain ⟨cells, i, r, k, h5, _⟩ := hB.ex
  rw [h5] at h1
  cases h1
 ·rw [List.mem_singleton.mp hl]
  exact hB.nstr ks
theorem KindsAt.frbd {H H' : Hp} {b cs a d : Addr} {vd : List (Str × Str)} (h : KindsAt H a) (hB : BagAt H b cs) (hV : VarsAt H d vd) (n : a ≠ d) (e : Fr [b, d] H H') : KindsAt H' a := by
 obtain ⟨kvs, h1, h2, h3, h4⟩ := h.ex
 refine h.fr e (fun z => ?_) (fun l hl ks => ?_)
 ·rcases List.mem_cons.mp z with z | z
  ·rw [z] at h1
   obtain ⟨cells, i, r, k, h5, _⟩ := hB.ex
   rw [h5] at h1
   cases h1
  ·exact n (List.mem_singleton.mp z)
 ·rcases List.mem_cons.mp hl with z | z
  ·rw [z]; exact hB.nstr ks
  ·rw [List.mem_singleton.mp z]; exact hV.nstr ks
theorem valV_in : ∀ {kvs : List (Key × V)} {k : Key}, k ∈ kvs.map (·.1) → ∃ v, valV kvs k = some v ∧ (k, v) ∈ kvs
 | [], _, h => nomatch h
 | p :: r, k, h => by
  by_cases e : p.1 = k
  ·exact ⟨p.2, valV_pos e, by rw [← e]; exact List.mem_cons_self⟩
  ·obtain ⟨v, h1, h2⟩ := valV_in (k := k) ((List.mem_cons.mp (by simpa using h)).elim (fun z => absurd z.symm e) id)
   exact ⟨v, (valV_neg e).trans h1, List.mem_cons_of_mem _ h2⟩
theorem keys_strs : ∀ {kvs : List (Key × V)}, (∀ kv ∈ kvs, ∃ x : Str, kv.1 = Sum.inr x) → ∃ xs : List Str, kvs.map (fun kv => kV kv.1) = xs.map V.str ∧ xs.length = kvs.length ∧ ∀ x ∈ xs, (Sum.inr x : Key) ∈ kvs.map (·.1)
 | [], _ => ⟨[], rfl, rfl, fun _ z => nomatch z⟩
 | p :: r, h => by
  obtain ⟨xs, h1, h2, h3⟩ := keys_strs fun kv hkv => h kv (List.mem_cons_of_mem _ hkv)
  obtain ⟨x, hx⟩ := h p List.mem_cons_self
  refine ⟨x :: xs, ?_, congrArg Nat.succ h2, fun y hy => ?_⟩
  ·rw [List.map_cons, h1, hx]; rfl
  ·rw [List.map_cons]
   rcases List.mem_cons.mp hy with rfl | hy
   ·rw [hx]; exact List.mem_cons_self
   ·exact List.mem_cons_of_mem _ (h3 y hy)
def spAtomD (K : PySem.W.Frag) : Sp := fun vs H Q _ => ∃ (b cs a d : Addr) (vd : List (Str × Str)), vs = [.ref b, .ref a, .ref d] ∧ BagAt H b cs ∧ KindsAt H a ∧ a ≠ d ∧ VarsAt H d vd ∧ VdG vd ∧
 ∀ (v : V) (t : PartE) (vd' : List (Str × Str)) (H' : Hp), Td K H' v t.d → PartW t → VarsAt H' d vd' → VdG vd' → vd'.length ≤ max 8 vd.length → BagAt H' b cs → Fr [b, d] H H' → Q v H'
def spTest (K : PySem.W.Frag) : Sp := fun vs H Q _ => ∃ (b cs d : Addr) (vd : List (Str × Str)), vs = [.ref b, .ref d] ∧ BagAt H b cs ∧ VarsAt H d vd ∧ VdG vd ∧
 ∀ (v : V) (t : PartE) (H' : Hp), Td K H' v t.d → PartW t → BagAt H' b cs → Fr [b] H H' → Q v H'
def spNot (K : PySem.W.Frag) : Sp := fun vs H Q _ => ∃ (b cs a d : Addr) (vd : List (Str × Str)), vs = [.ref b, .ref a, .ref d] ∧ BagAt H b cs ∧ KindsAt H a ∧ VarsAt H d vd ∧ VdG vd ∧
 ∀ (v : V) (t : PartE) (H' : Hp), Td K H' v t.d → PartW t → BagAt H' b cs → Fr [b] H H' → Q v H'
def spFoldA (K : PySem.W.Frag) : Sp := fun vs H Q _ => ∃ (b cs d : Addr) (vd : List (Str × Str)), vs = [.ref b, .ref d] ∧ BagAt H b cs ∧ VarsAt H d vd ∧ VdG vd ∧
 ∀ (v : V) (t : ArgE) (H' : Hp), Td K H' v t.d → ArgW t → BagAt H' b cs → Fr [b] H H' → Q v H'
abbrev s__law_atom : Stmt := topS 80
theorem sc__law_atom : FnScope ["_law_bag_here", "_law_kinds_of", "_law_vars_of", "_law_name"] ["_law_bag_here", "_law_kinds_of", "_law_vars_of"] (defScope s__law_atom) := ⟨rfl, rfl, rfl, by decide +kernel, rfl, by decide +kernel, by decide +kernel⟩
abbrev s__law_test : Stmt := topS 83
theorem sc__law_test : FnScope ["_law_bag_here", "_law_vars_of", "_law_kind", "_law_sign"] ["_law_bag_here", "_law_vars_of"] (defScope s__law_test) := ⟨rfl, rfl, rfl, by decide +kernel, rfl, by decide +kernel, by decide +kernel⟩
abbrev s__law_not : Stmt := topS 84
theorem sc__law_not : FnScope ["_law_bag_here", "_law_kinds_of", "_law_vars_of", "_law_name", "_law_terms_here", "_law_kind", "_law_leaf_here"] ["_law_bag_here", "_law_kinds_of", "_law_vars_of"] (defScope s__law_not) := ⟨rfl, rfl, rfl, by decide +kernel, rfl, by decide +kernel, by decide +kernel⟩
abbrev s__law_fold_arg : Stmt := topS 86
theorem sc__law_fold_arg : FnScope ["_law_bag_here", "_law_vars_of", "_law_numbers", "_law_name"] ["_law_bag_here", "_law_vars_of"] (defScope s__law_fold_arg) := ⟨rfl, rfl, rfl, by decide +kernel, rfl, by decide +kernel, by decide +kernel⟩
section
variable {P : Program} {w : World} {K : PySem.W.Frag} {mg : Str → Option Value} {base : Heap}
theorem ok__law_atom {f : Addr} {fd : FuncData} (F : FnP K "_law_atom" s__law_atom f fd) (B : BiRD mg) (C__law_one : CalG P w K mg base 20 "_law_one" (spOne K)) (C__law_terms : CalG P w K mg base 60 "_law_terms" (spTerms K)) :
  FnG P w K mg base CX0 61 f fd ["_law_bag_here", "_law_kinds_of", "_law_vars_of"] (spAtomD K) := by
 refine okG F sc__law_atom (fun vs H Q E h => ?_) (fun cdv A outer s H vs Q E hr h => ?_)
 ·obtain ⟨b, cs, a, d, vd, rfl, _⟩ := h
  rfl
 obtain ⟨b, cs, a, d, vd, rfl, hB, hK, had, hV, hG, q⟩ := h
 have hu := hu_of hr.rm
 have hdb := hV.ne hB
 refine ⟨_, PSs.nox (pss_cons (ps_set (i := 3) sc__law_atom.nd rfl (.inl rfl) (pe_calG C__law_one hr rfl (pa_cons (pv 0) (pa_cons (pe_callB (kCall (K := K) (r := rSortedS) rfl cr_sortedS) (by rfl) B.b_sorted (by decide +kernel) (pa_cons (pe_callTy (kCall (K := K) (r := uList) rfl callu_list) (by rfl) B.b_list (by decide +kernel) (pa_cons (pv 1) pa_nil)) pa_nil)) pa_nil))))
 (pss_one (ps_ret (pe_tup (pa_cons pe_str (pa_cons (pv 3) (pa_cons (pe_calG C__law_terms hr rfl (pa_cons (pv 0) (pa_cons (pe_dget hu (pv 1) (pv 3) (fun _ _ => rfl)) (pa_cons (pv 2) pa_nil)))) pa_nil))))))), rd_start (σ0 := [some (.ref b), some (.ref a), some (.ref d), none]) rfl ?_⟩
 obtain ⟨kvs, hk1, hk2, hk3, hk4⟩ := hK.ex
 obtain ⟨xs, hx1, hx2, hx3⟩ := keys_strs fun kv hkv => let ⟨x, _, _, e, _⟩ := hk4 kv hkv; ⟨x, by rw [e]⟩
 have hx0 : 0 < xs.length := by
  rw [hx2]
  cases kvs with
  | nil => exact absurd rfl hk3
  | cons => exact Nat.succ_pos _
 walk_at "q"
 refine g_listD hk1 fun l hl => ?_
 rw [hx1]
 have f1 : Fr [] H (upd H l (.lst (xs.map V.str))) := Fr.new hl
 have hla : (upd H l (.lst (xs.map V.str))) l = some (.lst (xs.map V.str)) := upd_same
 generalize upd H l (.lst (xs.map V.str)) = H1 at *
 walk_at "q"
 refine ⟨l, xs, rfl, SqL.of hla, by omega, fun ys p2 hperm _ hp2 => ?_⟩
 have f2 : Fr [] H (upd H1 p2 (.lst (ys.map V.str))) := f1.trans (Fr.new hp2)
 have hp21 : (upd H1 p2 (.lst (ys.map V.str))) p2 = some (.lst (ys.map V.str)) := upd_same
 have hp2b := (hB.fr0 f1).some hp2
 generalize upd H1 p2 (.lst (ys.map V.str)) = H2 at *
 walk_at "q"
 refine ⟨b, cs, p2, ys.map V.str, rfl, hB.fr0 f2, .inl ⟨SqL.of hp21, hp2b.1⟩, by rw [List.length_map, hperm.length_eq]; exact hx0, by rw [List.length_map, hperm.length_eq]; omega, fun v H3 hv hB3 hF3 => ?_⟩
 obtain ⟨x, hx, rfl⟩ := List.mem_map.mp hv
 obtain ⟨v, hv1, hv2⟩ := valV_in (hx3 x (hperm.mem_iff.mp hx))
 obtain ⟨x', l', ks, ee, hl', hxn, hk5, hk6, hk7⟩ := hk4 _ hv2
 obtain ⟨e1, e2⟩ := Prod.mk.inj ee
 cases Sum.inr.inj e1
 subst e2
 have hdM : d ∉ [b] := fun z => hdb.1 (List.mem_singleton.mp z)
 have hab : a ≠ b := fun e => by
  obtain ⟨cells, i, r, k, h5, _⟩ := hB.ex
  rw [e, h5] at hk1
  cases hk1
 have hlb : l' ≠ b := fun e => hB.nstr ks (e ▸ hl')
 have hk3' := hF3.at (f2.at hk1 (fun z => nomatch z)) (fun z => hab (List.mem_singleton.mp z))
 have hl3 := hF3.at (f2.at hl' (fun z => nomatch z)) (fun z => hlb (List.mem_singleton.mp z))
 have hV3 := (hV.fr f2 (fun z => nomatch z)).fr hF3 hdM
 walk_at "q"
 refine g_dgetS hk3' hv1 ?_
 walk_at "q"
 refine ⟨b, cs, l', d, ks, vd, rfl, hB3, hl3, hlb, hk6, hk7, hV3, hG, fun p us ts vd' H4 hp hts htl htw hV4 hG4 hm4 hB4 hF4 => ?_⟩
 walk_at "q"
 refine ⟨le_of (by simp), fun p6 hp6 => ?_⟩
 have e6 : Fr [] H4 (upd H4 p6 (.tup [.str "atom", .str x, .ref p])) := Fr.new hp6
 have bsub : Fr [b, d] H2 H3 := hF3.mono fun a ha => by rw [List.mem_singleton.mp ha]; exact List.mem_cons_self
 exact q _ (.atom false x ts) vd' _ (.tup (SqT.of upd_same) (.cons (.str _) (.cons (.str _) (.cons (.tup (e6.tup hp) (hts.fr e6)) .nil)))) (.atom (hxn.tx.mono (by decide)) hxn (by omega) (by omega) htw) (hV4.fr e6 (fun z => nomatch z)) hG4 hm4 (hB4.fr0 e6) (((f2.nil.trans bsub).trans hF4).trans e6.nil)
theorem ok__law_test {f : Addr} {fd : FuncData} (F : FnP K "_law_test" s__law_test f fd) (C__law_one : CalG P w K mg base 20 "_law_one" (spOne K)) (C__law_sum : CalG P w K mg base 55 "_law_sum" (spSum K 5)) (C__law_leaf : CalG P w K mg base 50 "_law_leaf" (spLeaf K)) :
  FnG P w K mg base CX0 61 f fd ["_law_bag_here", "_law_vars_of"] (spTest K) := by
 refine okG F sc__law_test (fun vs H Q E h => ?_) (fun cdv A outer s H vs Q E hr h => ?_)
 ·obtain ⟨b, cs, d, vd, rfl, _⟩ := h
  rfl
 obtain ⟨b, cs, d, vd, rfl, hB, hV, hG, q⟩ := h
 have hu := hu_of hr.rm
 have hdM : d ∉ [b] := fun z => (hV.ne hB).1 (List.mem_singleton.mp z)
 refine ⟨_, PSs.nox (pss_cons (ps_set (i := 2) sc__law_test.nd rfl (.inl rfl) (pe_calG C__law_one hr rfl (pa_cons (pv 0) (pa_cons (pe_lst (pa_cons pe_str (pa_cons pe_str (pa_cons pe_str (pa_cons pe_str pa_nil))))) pa_nil))))
 (pss_cons (ps_if (pt_cmpR (kOp (K := K) (r := uEq) rfl (opu_eq hr.units)) (pv 2) pe_str (nomark _)) (pss_cons (ps_set (i := 3) sc__law_test.nd rfl (.inl rfl) (pe_calG C__law_one hr rfl (pa_cons (pv 0) (pa_cons (pe_lst (pa_cons pe_str (pa_cons pe_str (pa_cons pe_str (pa_cons pe_str (pa_cons pe_str (pa_cons pe_str pa_nil))))))) pa_nil))))
 (pss_one (ps_ret (pe_tup (pa_cons pe_str (pa_cons (pv 3) (pa_cons (pe_calG C__law_sum hr rfl (pa_cons (pv 0) (pa_cons (pv 1) (pa_cons pe_int pa_nil)))) (pa_cons (pe_calG C__law_sum hr rfl (pa_cons (pv 0) (pa_cons (pv 1) (pa_cons pe_int pa_nil)))) pa_nil)))))))) pss_nil)
 (pss_one (ps_ret (pe_tup (pa_cons pe_str (pa_cons (pe_calG C__law_one hr rfl (pa_cons (pv 0) (pa_cons (pe_lst (pa_cons pe_str (pa_cons pe_str pa_nil))) pa_nil))) (pa_cons (pe_calG C__law_leaf hr rfl (pa_cons (pv 0) (pa_cons (pv 2) (pa_cons (pv 1) pa_nil)))) (pa_cons (pe_calG C__law_leaf hr rfl (pa_cons (pv 0) (pa_cons (pv 2) (pa_cons (pv 1) pa_nil)))) pa_nil))))))))), rd_start (σ0 := [some (.ref b), some (.ref d), none, none]) rfl ?_⟩
 walk_at "q"
 refine ⟨le_of (by simp), fun p1 hp_p1 => ?_⟩
 have e_p1 : Fr [] H (upd H p1 (.lst [V.str "number", .str "number", .str "word", .str "flag"])) := Fr.new hp_p1
 have h_p1 : (upd H p1 (.lst [V.str "number", .str "number", .str "word", .str "flag"])) p1 = some (.lst [V.str "number", .str "number", .str "word", .str "flag"]) := upd_same
 have hb1 := (hB.some hp_p1).1
 have hB1 := hB.fr0 e_p1
 have hV1 := hV.fr e_p1 (fun z => nomatch z)
 generalize upd H p1 (.lst [V.str "number", .str "number", .str "word", .str "flag"]) = H1 at *
 walk_at "q"
 refine ⟨b, cs, p1, _, rfl, hB1, .inl ⟨SqL.of h_p1, hb1⟩, by decide, by decide, fun kv H2 hkv hB2 hF2 => ?_⟩
 obtain ⟨k, rfl, hk⟩ : ∃ k : Str, kv = .str k ∧ KindW k := by
  simp only [List.mem_cons, List.not_mem_nil, or_false] at hkv
  rcases hkv with rfl | rfl | rfl | rfl
  ·exact ⟨_, rfl, .inl rfl⟩
  ·exact ⟨_, rfl, .inl rfl⟩
  ·exact ⟨_, rfl, .inr (.inr rfl)⟩
  ·exact ⟨_, rfl, .inr (.inl rfl)⟩
 have hV2 := hV1.fr hF2 hdM
 walk_at "q"
 refine g_by (fun c => ?_) (fun c => ?_)
 ·walk_at "q"
  refine ⟨le_of (by simp), fun p3 hp_p3 => ?_⟩
  have e_p3 : Fr [] H2 (upd H2 p3 (.lst [V.str "=", .str "!=", .str "<", .str "<=", .str ">", .str ">="])) := Fr.new hp_p3
  have h_p3 : (upd H2 p3 (.lst [V.str "=", .str "!=", .str "<", .str "<=", .str ">", .str ">="])) p3 = some (.lst [V.str "=", .str "!=", .str "<", .str "<=", .str ">", .str ">="]) := upd_same
  have hb3 := (hB2.some hp_p3).1
  have hB3 := hB2.fr0 e_p3
  have hV3 := hV2.fr e_p3 (fun z => nomatch z)
  generalize upd H2 p3 (.lst [V.str "=", .str "!=", .str "<", .str "<=", .str ">", .str ">="]) = H3 at *
  walk_at "q"
  refine ⟨b, cs, p3, testL.map V.str, rfl, hB3, .inl ⟨SqL.of h_p3, hb3⟩, by decide, by decide, fun sv H4 hsv hB4 hF4 => ?_⟩
  obtain ⟨sg, hsg, rfl⟩ := List.mem_map.mp hsv
  have hV4 := hV3.fr hF4 hdM
  walk_at "q"
  refine ⟨b, cs, d, 1, vd, rfl, by decide, hB4, hV4, fun x v H5 hx hxv hB5 hF5 => ?_⟩
  have hV5 := hV4.fr hF5 hdM
  walk_at "q"
  refine ⟨b, cs, d, 1, vd, rfl, by decide, hB5, hV5, fun y u H6 hy hyu hB6 hF6 => ?_⟩
  walk_at "q"
  refine ⟨le_of (by simp), fun p7 hp7 => ?_⟩
  have e7 : Fr [] H6 (upd H6 p7 (.tup [.str "test", .str sg, v, u])) := Fr.new hp7
  exact q _ (.test sg x y) _ (.tup (SqT.of upd_same) (.cons (.str _) (.cons (.str _) (.cons ((((hxv.td (hx.w hG)).fr hF6)).fr e7) (.cons ((hyu.td (hy.w hG)).fr e7) .nil))))) (.test hsg (hx.w hG) (hy.w hG)) (hB6.fr0 e7) (((((e_p1.nil.trans hF2).trans e_p3.nil).trans hF4).trans hF5).trans (hF6.trans e7.nil))
 ·walk_at "q"
  refine ⟨le_of (by simp), fun p3 hp_p3 => ?_⟩
  have e_p3 : Fr [] H2 (upd H2 p3 (.lst [V.str "=", .str "!="])) := Fr.new hp_p3
  have h_p3 : (upd H2 p3 (.lst [V.str "=", .str "!="])) p3 = some (.lst [V.str "=", .str "!="]) := upd_same
  have hb3 := (hB2.some hp_p3).1
  have hB3 := hB2.fr0 e_p3
  have hV3 := hV2.fr e_p3 (fun z => nomatch z)
  generalize upd H2 p3 (.lst [V.str "=", .str "!="]) = H3 at *
  walk_at "q"
  refine ⟨b, cs, p3, (["=", "!="] : List Str).map V.str, rfl, hB3, .inl ⟨SqL.of h_p3, hb3⟩, by decide, by decide, fun sv H4 hsv hB4 hF4 => ?_⟩
  obtain ⟨sg, hsg, rfl⟩ := List.mem_map.mp hsv
  have hsg2 : sg ∈ testL := by
   simp only [List.mem_cons, List.not_mem_nil, or_false] at hsg
   unfold testL
   rcases hsg with rfl | rfl
   ·exact List.mem_cons_self
   ·exact List.mem_cons_of_mem _ List.mem_cons_self
  have hV4 := hV3.fr hF4 hdM
  walk_at "q"
  refine ⟨b, cs, d, k, vd, rfl, hk, hB4, hV4, fun x H5 hx hB5 hF5 => ?_⟩
  have hV5 := hV4.fr hF5 hdM
  walk_at "q"
  refine ⟨b, cs, d, k, vd, rfl, hk, hB5, hV5, fun y H6 hy hB6 hF6 => ?_⟩
  obtain ⟨ex, hex, htx⟩ := hx.w hG
  obtain ⟨ey, hey, hty⟩ := hy.w hG
  walk_at "q"
  refine ⟨le_of (by simp), fun p7 hp7 => ?_⟩
  have e7 : Fr [] H6 (upd H6 p7 (.tup [.str "test", .str sg, .ref x, .ref y])) := Fr.new hp7
  exact q _ (.test sg ex ey) _ (.tup (SqT.of upd_same) (.cons (.str _) (.cons (.str _) (.cons ((htx.fr hF6).fr e7) (.cons (hty.fr e7) .nil))))) (.test hsg2 (hex.up (by decide)) (hey.up (by decide))) (hB6.fr0 e7) (((((e_p1.nil.trans hF2).trans e_p3.nil).trans hF4).trans hF5).trans (hF6.trans e7.nil))
theorem ok__law_fold_arg {f : Addr} {fd : FuncData} (F : FnP K "_law_fold_arg" s__law_fold_arg f fd) (B : BiRD mg) (C__law_one : CalG P w K mg base 20 "_law_one" (spOne K)) (C__law_pull : CalG P w K mg base 10 "_law_pull" spPull) :
  FnG P w K mg base CX0 61 f fd ["_law_bag_here", "_law_vars_of"] (spFoldA K) := by
 refine okG F sc__law_fold_arg (fun vs H Q E h => ?_) (fun cdv A outer s H vs Q E hr h => ?_)
 ·obtain ⟨b, cs, d, vd, rfl, _⟩ := h
  rfl
 obtain ⟨b, cs, d, vd, rfl, hB, hV, hG, q⟩ := h
 have hu := hu_of hr.rm
 refine ⟨_, PSs.nox (pss_cons (ps_setLc (i := 2) (own := [("_law_name", 3)]) (g := gName 3) rfl sc__law_fold_arg.nd rfl rfl (sw_true rfl rfl rfl (by decide +kernel)) (pi_listK (K := K) rfl (pe_callB (kCall (K := K) (r := rSortedS) rfl cr_sortedS) (by rfl) B.b_sorted (by decide +kernel) (pa_cons (pe_callTy (kCall (K := K) (r := uList) rfl callu_list) (by rfl) B.b_list (by decide +kernel) (pa_cons (pv 1) pa_nil)) pa_nil))) (blkOk_by (own := [("_law_name", 3)]) (N := ["_law_bag_here", "_law_vars_of", "_law_numbers", "_law_name"]) (sc := defScope s__law_fold_arg) (by decide +kernel)) (fun _ _ _ _ _ => (by exact (pg_name (i := 3) sc__law_fold_arg.nd rfl (by first | exact Or.inl rfl | exact Or.inr rfl)))) (fun _ _ _ _ _ => (by exact pts_one (pt_cmpR (kOp (K := K) (r := uEq) rfl (opu_eq hr.units)) (pe_dget hu (pv 1) (pv 3) (fun _ _ => rfl)) pe_str (nomark _)))) (fun _ _ _ _ _ => (by exact (pv 3))))
 (pss_cons (ps_if (PW.pt (pw_or (pt_cmpR (kOp (K := K) (r := uEq) rfl (opu_eq hr.units)) (pv 2) (pe_lst pa_nil) (nomark _)) (pw_or1 (pt_cmpR (kOp (K := K) (r := uEq) rfl (opu_eq hr.units)) (pe_calG C__law_pull hr rfl (pa_cons (pv 0) (pa_cons pe_int pa_nil))) pe_int (nomark _))))) (pss_one (ps_ret (pe_tup (pa_cons pe_str (pa_cons pe_str (pa_cons pe_non pa_nil)))))) pss_nil)
 (pss_one (ps_ret (pe_tup (pa_cons pe_str (pa_cons (pe_calG C__law_one hr rfl (pa_cons (pv 0) (pa_cons (pe_lst (pa_cons pe_str (pa_cons pe_str (pa_cons pe_str pa_nil)))) pa_nil))) (pa_cons (pe_calG C__law_one hr rfl (pa_cons (pv 0) (pa_cons (pv 2) pa_nil))) pa_nil)))))))), rd_start (σ0 := [some (.ref b), some (.ref d), none, none]) rfl ?_⟩
 walk_at "q"
 refine g_listD hV.at_ fun l hl => ?_
 rw [kvOf_keys]
 have f1 : Fr [] H (upd H l (.lst ((vd.map (·.1)).map V.str))) := Fr.new hl
 have hla : (upd H l (.lst ((vd.map (·.1)).map V.str))) l = some (.lst ((vd.map (·.1)).map V.str)) := upd_same
 generalize upd H l (.lst ((vd.map (·.1)).map V.str)) = Ha at *
 walk_at "q"
 refine ⟨l, vd.map (·.1), rfl, SqL.of hla, by rw [List.length_map]; have := hV.len; omega, fun ys p2 hperm _ hp2 => ?_⟩
 have f2 : Fr [] H (upd Ha p2 (.lst (ys.map V.str))) := f1.trans (Fr.new hp2)
 have hp21 : (upd Ha p2 (.lst (ys.map V.str))) p2 = some (.lst (ys.map V.str)) := upd_same
 generalize upd Ha p2 (.lst (ys.map V.str)) = Hb at *
 have hyl : ys.length < 60 := by rw [hperm.length_eq, List.length_map]; exact hV.len
 refine ⟨p2, rfl, ⟨_, SqL.of hp21⟩, fun D hD => lc_it (walk_list (xs := ys.map V.str)) (fun i H' => Fr [] Hb H' ∧ ∃ ws : List Str, H' D = some (.lst (ws.map V.str)) ∧ ws.length ≤ i ∧ ∀ x ∈ ws, vd.lookup x = some ("number" : Str))
  ⟨Fr.new hD, [], upd_same, Nat.le_refl _, (fun _ z => nomatch z)⟩ (fun i H' _ h => h.1.seq (fun z => nomatch z) (SqL.of hp21)) (fun i x H' H'' hi h y => ?_) (fun Hc h => ?_)⟩
 ·obtain ⟨rfl, hx⟩ := y
  obtain ⟨h1, ws, h2, h3, h4⟩ := h
  obtain ⟨z, hz, rfl⟩ := List.mem_map.mp (List.mem_of_getElem? hx)
  obtain ⟨k2, hk2⟩ := lookup_mem (hperm.mem_iff.mp hz)
  walk_at "q"
  refine ⟨rfl, ?_⟩
  walk_at "q"
  have hV' := (hV.fr f2 (fun z => nomatch z)).fr h1 (fun z => nomatch z)
  refine g_dgetS hV'.at_ (v := V.str k2) (by rw [kvOf_val, hk2]; rfl) ?_
  walk_at "q"
  refine g_by (fun c => ?_) (fun c => ?_)
  ·walk_at "q"
   refine ⟨_, h2, lt_of (by rw [List.length_map]; rw [List.length_map] at hi; omega), h1.over hD, ws ++ [z], ?_, ?_, ?_⟩
   ·rw [upd_same, List.map_append]; rfl
   ·rw [List.length_append]; exact Nat.succ_le_succ h3
   ·intro x hx
    rcases List.mem_append.mp hx with hx | hx
    ·exact h4 x hx
    ·rw [List.mem_singleton.mp hx, hk2, c]
  ·exact ⟨h1, ws, h2, Nat.le_succ_of_le h3, h4⟩
 ·obtain ⟨h1, ws, hws, h3, hwk⟩ := h
  have fc : Fr [] H Hc := f2.trans h1
  rw [List.length_map] at h3
  have hwl : ws.length < 60 := by omega
  have hDn : H D = none := f2.back (fun z => nomatch z) hD
  walk_at "q"
  have hBc := hB.fr0 fc
  have hDb := hB.some hDn
  refine ⟨le_of (by decide), fun p4 hp4 => ?_⟩
  have e4 : Fr [] Hc (upd Hc p4 (.lst [])) := Fr.new hp4
  have hn4 : (upd Hc p4 (.lst [])) p4 = some (.lst []) := upd_same
  have hw4 := e4.at hws (fun z => nomatch z)
  have hB4 := hBc.fr0 e4
  generalize upd Hc p4 (.lst []) = H4 at *
  refine g_eqEL (SqL.of hw4) (SqL.of hn4) ?_
  walk_at "q"
  have cnt : ∀ (H5 : Hp), BagAt H5 b cs → Fr [b] H H5 → ∀ p, H5 p = none → Q (.ref p) (upd H5 p (.tup [.str "fold", .str "count", .non])) := fun H5 hB5 hF5 p hp => by
   have e5 : Fr [] H5 (upd H5 p (.tup [.str "fold", .str "count", .non])) := Fr.new hp
   exact q _ (.fold "count" none) _ (.tup (SqT.of upd_same) (.cons (.str _) (.cons (.str _) (.cons .non .nil)))) .fold0 (hB5.fr0 e5) (hF5.trans e5.nil)
  refine g_by (fun cw => ?_) (fun cw => ?_)
  ·walk_at "q"
   refine ⟨le_of (by simp), cnt _ hB4 (fc.trans e4).nil⟩
  ·have hw0 : 0 < ws.length := by
    cases ws with
    | nil => exact absurd rfl cw
    | cons x r => exact Nat.succ_pos _
   walk_at "q"
   refine ⟨b, cs, _, rfl, hB4, by decide, by decide, fun dd H5 d0 d1 hB5 hF5 => ?_⟩
   have F5 : Fr [b] H H5 := (fc.trans e4).nil.trans hF5
   walk_at "q"
   refine g_by (fun c2 => ?_) (fun c2 => ?_)
   ·walk_at "q"
    refine ⟨le_of (by simp), cnt _ hB5 F5⟩
   ·walk_at "q"
    refine ⟨le_of (by simp), fun p6 hp_p6 => ?_⟩
    have e_p6 : Fr [] H5 (upd H5 p6 (.lst [V.str "sum", .str "least", .str "most"])) := Fr.new hp_p6
    have h_p6 : (upd H5 p6 (.lst [V.str "sum", .str "least", .str "most"])) p6 = some (.lst [V.str "sum", .str "least", .str "most"]) := upd_same
    have hb6 := (hB5.some hp_p6).1
    have hB6 := hB5.fr0 e_p6
    have hw6 := e_p6.at (hF5.at hw4 (fun z => hDb.1 (List.mem_singleton.mp z))) (fun z => nomatch z)
    generalize upd H5 p6 (.lst [V.str "sum", .str "least", .str "most"]) = H6 at *
    walk_at "q"
    refine ⟨b, cs, p6, (["sum", "least", "most"] : List Str).map V.str, rfl, hB6, .inl ⟨SqL.of h_p6, hb6⟩, by decide, by decide, fun sv H7 hsv hB7 hF7 => ?_⟩
    obtain ⟨sg, hsg, rfl⟩ := List.mem_map.mp hsv
    have hw7 := hF7.at hw6 (fun z => hDb.1 (List.mem_singleton.mp z))
    walk_at "q"
    refine ⟨b, cs, D, ws.map V.str, rfl, hB7, .inl ⟨SqL.of hw7, hDb.1⟩, by rw [List.length_map]; exact hw0, by rw [List.length_map]; omega, fun v H8 hv hB8 hF8 => ?_⟩
    obtain ⟨x, hx, rfl⟩ := List.mem_map.mp hv
    have hxv := (hG.lk (hwk x hx)).1
    walk_at "q"
    refine ⟨le_of (by simp), fun p9 hp9 => ?_⟩
    have e9 : Fr [] H8 (upd H8 p9 (.tup [.str "fold", .str sg, .str x])) := Fr.new hp9
    exact q _ (.fold sg (some x)) _ (.tup (SqT.of upd_same) (.cons (.str _) (.cons (.str _) (.cons (.str _) .nil)))) (.fold hsg hxv) (hB8.fr0 e9) ((((F5.trans e_p6.nil).trans hF7).trans hF8).trans e9.nil)
theorem ok__law_not {f : Addr} {fd : FuncData} (F : FnP K "_law_not" s__law_not f fd) (B : BiRD mg) (C__law_one : CalG P w K mg base 20 "_law_one" (spOne K)) (C__law_leaf : CalG P w K mg base 50 "_law_leaf" (spLeaf K)) (C__law_pull : CalG P w K mg base 10 "_law_pull" spPull) :
  FnG P w K mg base CX0 61 f fd ["_law_bag_here", "_law_kinds_of", "_law_vars_of"] (spNot K) := by
 refine okG F sc__law_not (fun vs H Q E h => ?_) (fun cdv A outer s H vs Q E hr h => ?_)
 ·obtain ⟨b, cs, a, d, vd, rfl, _⟩ := h
  rfl
 obtain ⟨b, cs, a, d, vd, rfl, hB, hK, hV, hG, q⟩ := h
 have hu := hu_of hr.rm
 have hdb := hV.ne hB
 refine ⟨_, PSs.nox (pss_cons (ps_set (i := 3) sc__law_not.nd rfl (.inl rfl) (pe_calG C__law_one hr rfl (pa_cons (pv 0) (pa_cons (pe_callB (kCall (K := K) (r := rSortedS) rfl cr_sortedS) (by rfl) B.b_sorted (by decide +kernel) (pa_cons (pe_callTy (kCall (K := K) (r := uList) rfl callu_list) (by rfl) B.b_list (by decide +kernel) (pa_cons (pv 1) pa_nil)) pa_nil)) pa_nil))))
 (pss_cons (ps_set (i := 4) sc__law_not.nd rfl (.inl rfl) (pe_lst pa_nil))
 (pss_cons (ps_for PassesOwn.never rfl (pi_listK (K := K) rfl (pe_dget hu (pv 1) (pv 3) (fun _ _ => rfl))) (pg_name (i := 5) sc__law_not.nd rfl (by first | exact Or.inl rfl | exact Or.inr rfl)) (pss_cons (ps_set (i := 6) sc__law_not.nd rfl (.inl rfl) (pe_calG C__law_leaf hr rfl (pa_cons (pv 0) (pa_cons (pv 5) (pa_cons (pv 2) pa_nil)))))
 (pss_one (ps_expr (kBM (K := K) rfl (pe_bm PySem.F.plainAttrs_list PySem.F.slot_list_append PySem.F.type_list_append mt_append (pv 4) (pa_cons (pe_ifExp (pt_cmpR (kOp (K := K) (r := uEq) rfl (opu_eq hr.units)) (pe_calG C__law_pull hr rfl (pa_cons (pv 0) (pa_cons pe_int pa_nil))) pe_int (nomark _)) (pe_tup (pa_cons pe_str pa_nil)) (pv 6)) pa_nil)))))))
 (pss_one (ps_ret (pe_tup (pa_cons pe_str (pa_cons (pv 3) (pa_cons (pe_callTy (kCall (K := K) (r := uTuple) rfl callu_tuple) (by rfl) B.b_tuple (by decide +kernel) (pa_cons (pv 4) pa_nil)) pa_nil))))))))), rd_start (σ0 := [some (.ref b), some (.ref a), some (.ref d), none, none, none, none]) rfl ?_⟩
 obtain ⟨kvs, hk1, hk2, hk3, hk4⟩ := hK.ex
 obtain ⟨xs, hx1, hx2, hx3⟩ := keys_strs fun kv hkv => let ⟨x, _, _, e, _⟩ := hk4 kv hkv; ⟨x, by rw [e]⟩
 have hx0 : 0 < xs.length := by
  rw [hx2]
  cases kvs with
  | nil => exact absurd rfl hk3
  | cons => exact Nat.succ_pos _
 walk_at "q"
 refine g_listD hk1 fun l hl => ?_
 rw [hx1]
 have f1 : Fr [] H (upd H l (.lst (xs.map V.str))) := Fr.new hl
 have hla : (upd H l (.lst (xs.map V.str))) l = some (.lst (xs.map V.str)) := upd_same
 generalize upd H l (.lst (xs.map V.str)) = H1 at *
 walk_at "q"
 refine ⟨l, xs, rfl, SqL.of hla, by omega, fun ys p2 hperm _ hp2 => ?_⟩
 have f2 : Fr [] H (upd H1 p2 (.lst (ys.map V.str))) := f1.trans (Fr.new hp2)
 have hp21 : (upd H1 p2 (.lst (ys.map V.str))) p2 = some (.lst (ys.map V.str)) := upd_same
 have hp2b := (hB.fr0 f1).some hp2
 generalize upd H1 p2 (.lst (ys.map V.str)) = H2 at *
 walk_at "q"
 refine ⟨b, cs, p2, ys.map V.str, rfl, hB.fr0 f2, .inl ⟨SqL.of hp21, hp2b.1⟩, by rw [List.length_map, hperm.length_eq]; exact hx0, by rw [List.length_map, hperm.length_eq]; omega, fun v H3 hv hB3 hF3 => ?_⟩
 obtain ⟨x, hx, rfl⟩ := List.mem_map.mp hv
 obtain ⟨v, hv1, hv2⟩ := valV_in (hx3 x (hperm.mem_iff.mp hx))
 obtain ⟨x', l', ks, ee, hl', hxn, hk5, hk6, hk7⟩ := hk4 _ hv2
 obtain ⟨e1, e2⟩ := Prod.mk.inj ee
 cases Sum.inr.inj e1
 subst e2
 have hdM : d ∉ [b] := fun z => hdb.1 (List.mem_singleton.mp z)
 have hab : a ≠ b := fun e => by
  obtain ⟨cells, i, r, k, h5, _⟩ := hB.ex
  rw [e, h5] at hk1
  cases hk1
 have hlb : l' ≠ b := fun e => hB.nstr ks (e ▸ hl')
 have hlM : l' ∉ [b] := fun z => hlb (List.mem_singleton.mp z)
 have hk3' := hF3.at (f2.at hk1 (fun z => nomatch z)) (fun z => hab (List.mem_singleton.mp z))
 have hl3 := hF3.at (f2.at hl' (fun z => nomatch z)) hlM
 have hV3 := (hV.fr f2 (fun z => nomatch z)).fr hF3 hdM
 have F3 : Fr [b] H H3 := f2.nil.trans hF3
 walk_at "q"
 refine ⟨le_of (by simp), fun T hT => ?_⟩
 have e0 : Fr [] H3 (upd H3 T (.lst [])) := Fr.new hT
 have hT0 : (upd H3 T (.lst [])) T = some (.lst []) := upd_same
 have hTb := hB3.some hT
 have hTM : T ∉ [b] := fun z => hTb.1 (List.mem_singleton.mp z)
 have hTH : H T = none := F3.back (M := [b]) hTM hT
 have hB4 := hB3.fr0 e0
 have hV4 := hV3.fr e0 (fun z => nomatch z)
 have hl4 := e0.at hl3 (fun z => nomatch z)
 have hk4' := e0.at hk3' (fun z => nomatch z)
 have F4 := F3.trans e0.nil
 generalize upd H3 T (.lst []) = H4 at *
 walk_at "q"
 refine g_dgetS hk4' hv1 ?_
 refine ⟨l', rfl, ⟨_, SqL.of hl4⟩, for_list (xs := ks.map V.str) (fun i σ H' => (∃ z1 z2, σ = [some (.ref b), some (.ref a), some (.ref d), some (.str x), some (.ref T), z1, z2]) ∧ BagAt H' b cs ∧ Fr [b] H3 H' ∧ ∃ (us : List V) (ts : List TermE), H' T = some (.lst us) ∧ TdAll K H' us (ts.map TermE.d) ∧ us.length = i ∧ ts.length = i ∧ (∀ t ∈ ts, TermW t))
  ⟨⟨_, _, rfl⟩, hB4, e0.nil, [], [], hT0, .nil, rfl, rfl, (fun _ z => nomatch z)⟩ (fun i σ H' _ h => SqL.of (h.2.2.1.at hl3 hlM)) (fun i x σ H5 hx h => ?_) (fun σ H5 h => ?_)⟩
 ·obtain ⟨⟨z1, z2, rfl⟩, hB5, hF5, us, ts, hT5, ht5, hu5, hl5, htw⟩ := h
  obtain ⟨k, hk, rfl⟩ := List.mem_map.mp (List.mem_of_getElem? hx)
  have hkw := hk7 k hk
  have hik : i < ks.length := by
   have := (List.getElem?_eq_some_iff.mp hx).1
   rw [List.length_map] at this
   exact this
  have hV5 := hV3.fr hF5 hdM
  walk_at "q"
  refine ⟨b, cs, d, k, vd, rfl, hkw, hB5, hV5, fun p H6 hp hB6 hF6 => ?_⟩
  obtain ⟨ex, hex, htx⟩ := hp.w hG
  have hT6 := hF6.at hT5 hTM
  walk_at "q"
  have hT6 := hF6.at hT5 hTM
  refine ⟨b, cs, _, rfl, hB6, by decide, by decide, fun dd H7 d0 d1 hB7 hF7 => ?_⟩
  have hT7 := hF7.at hT6 hTM
  have ht7 := (ht5.fr hF6).fr hF7
  have F7 := (hF5.trans hF6).trans hF7
  have fin : ∀ (H8 : Hp) (p : Addr) (t : TermE), TermW t → Td K H8 (.ref p) t.d → BagAt H8 b cs → Fr [b] H3 H8 → H8 T = some (.lst us) → TdAll K H8 us (ts.map TermE.d) →
    BagAt (upd H8 T (.lst (us ++ [.ref p]))) b cs ∧ Fr [b] H3 (upd H8 T (.lst (us ++ [.ref p]))) ∧ ∃ (us' : List V) (ts' : List TermE), (upd H8 T (.lst (us ++ [.ref p]))) T = some (.lst us') ∧ TdAll K (upd H8 T (.lst (us ++ [.ref p]))) us' (ts'.map TermE.d) ∧ us'.length = i + 1 ∧ ts'.length = i + 1 ∧ (∀ t ∈ ts', TermW t) := by
   intro H8 p t hw htd hB8 hF8 hT8 ht8
   have e : Fr [T] H8 (upd H8 T (.lst (us ++ [.ref p]))) := Fr.mut (List.mem_singleton.mpr rfl) hT8 nofix_lst
   refine ⟨hB8.fr e (fun z => hTb.1 (List.mem_singleton.mp z).symm) (fun z => hTb.2 (List.mem_singleton.mp z).symm), ?_, us ++ [.ref p], ts ++ [t], upd_same, ?_, ?_, ?_, ?_⟩
   ·exact hF8.over hT
   ·rw [List.map_append]
    exact (tda_snoc ht8 htd).fr e
   ·rw [List.length_append, hu5]; rfl
   ·rw [List.length_append, hl5]; rfl
   ·intro x hx
    rcases List.mem_append.mp hx with hx | hx
    ·exact htw x hx
    ·rw [List.mem_singleton.mp hx]; exact hw
  walk_at "q"
  refine g_by (fun c => ?_) (fun c => ?_)
  ·walk_at "q"
   refine ⟨le_of (by simp), fun p8 hp8 => ?_⟩
   have e8 : Fr [] H7 (upd H7 p8 (.tup [.str "any"])) := Fr.new hp8
   have hT8 := e8.at hT7 (fun z => nomatch z)
   walk_at "q"
   refine ⟨T, us, .ref p8, rfl, rfl, hT8, lt_of (by omega), ?_⟩
   obtain ⟨a1, a2, a3⟩ := fin _ p8 .any .any (.tup (SqT.of upd_same) (.cons (.str _) .nil)) (hB7.fr0 e8) (F7.trans e8.nil) hT8 (ht7.fr e8)
   exact ⟨⟨_, _, rfl⟩, a1, a2, a3⟩
  ·walk_at "q"
   refine ⟨T, us, .ref p, rfl, rfl, hT7, lt_of (by omega), ?_⟩
   obtain ⟨a1, a2, a3⟩ := fin _ p (.s ex) (.s hex) (htx.fr hF7) hB7 F7 hT7 ht7
   exact ⟨⟨_, _, rfl⟩, a1, a2, a3⟩
 ·obtain ⟨⟨z1, z2, rfl⟩, hB5, hF5, us, ts, hT5, ht5, hu5, hl5, htw⟩ := h
  walk_at "q"
  refine g_tupleL (SqL.of hT5) fun p hp => ?_
  have e6 : Fr [] H5 (upd H5 p (.tup us)) := Fr.new hp
  have hp6 : (upd H5 p (.tup us)) p = some (.tup us) := upd_same
  have ht6 := ht5.fr e6
  have hB6 := hB5.fr0 e6
  generalize upd H5 p (.tup us) = H6 at *
  walk_at "q"
  refine ⟨le_of (by simp), fun p7 hp7 => ?_⟩
  have e7 : Fr [] H6 (upd H6 p7 (.tup [.str "not", .str x, .ref p])) := Fr.new hp7
  rw [List.length_map] at hl5
  exact q _ (.atom true x ts) _ (.tup (SqT.of upd_same) (.cons (.str _) (.cons (.str _) (.cons (.tup (e7.tup (SqT.of hp6)) (ht6.fr e7)) .nil)))) (.atom (hxn.tx.mono (by decide)) hxn (by omega) (by omega) htw) (hB6.fr0 e7) (((F3.trans hF5).trans e6.nil).trans e7.nil)
end
def spBody (K : PySem.W.Frag) : Sp := fun vs H Q _ => ∃ (b cs a lo : Addr) (m : Nat) (made : Bool), vs = [.ref b, .ref a, .ref lo, .int m, .bl made] ∧ m ≤ 3 ∧ BagAt H b cs ∧ KindsAt H a ∧ KindsAt H lo ∧
 ∀ (p pt d : Addr) (us : List V) (ps : List PartE) (vd : List (Str × Str)) (H' : Hp), SqT K H' p [.ref pt, .ref d] → SqT K H' pt us → TdAll K H' us (ps.map PartE.d) → ps.length ≤ 7 → (∀ p ∈ ps, PartW p) → VarsAt H' d vd → VdG vd → H d = none → BagAt H' b cs → Fr [b] H H' → Q (.ref p) H'
abbrev s__law_body : Stmt := topS 85
theorem sc__law_body : FnScope ["_law_bag_here", "_law_kinds_of", "_law_lower", "_law_atoms", "_law_made", "_law_vars_of", "_law_parts", "_law_sign", "_law_spot", "_law_k"] ["_law_bag_here", "_law_kinds_of", "_law_lower", "_law_atoms", "_law_made"] (defScope s__law_body) := ⟨rfl, rfl, rfl, by decide +kernel, rfl, by decide +kernel, by decide +kernel⟩
section
variable {P : Program} {w : World} {K : PySem.W.Frag} {mg : Str → Option Value} {base : Heap}
theorem sum1_ok : VarN "sum1" := varB_ok (by decide +kernel)
theorem sum2_ok : VarN "sum2" := varB_ok (by decide +kernel)
structure Gath (K : PySem.W.Frag) (H0 H : Hp) (T : Addr) (us : List V) (ps : List PartE) : Prop where
 at_ : H T = some (.lst us)
 td : TdAll K H us (ps.map PartE.d)
 len : us.length = ps.length
 ok : ∀ p ∈ ps, PartW p
 new : H0 T = none
theorem Gath.fr {K : PySem.W.Frag} {H0 H H' : Hp} {T : Addr} {us : List V} {ps : List PartE} {M : List Addr} (g : Gath K H0 H T us ps) (e : Fr M H H') (n : T ∉ M) : Gath K H0 H' T us ps := ⟨e.at g.at_ n, g.td.fr e, g.len, g.ok, g.new⟩
theorem Gath.put {K : PySem.W.Frag} {H0 H : Hp} {T : Addr} {us : List V} {ps : List PartE} (g : Gath K H0 H T us ps) {v : V} {p : PartE} (hv : Td K H v p.d) (hp : PartW p) : Gath K H0 (upd H T (.lst (us ++ [v]))) T (us ++ [v]) (ps ++ [p]) := by
 have e : Fr [T] H (upd H T (.lst (us ++ [v]))) := Fr.mut (List.mem_singleton.mpr rfl) g.at_ nofix_lst
 refine ⟨upd_same, ?_, by rw [List.length_append, List.length_append, g.len]; rfl, fun x hx => ?_, g.new⟩
 ·rw [List.map_append]
  exact (tda_snoc g.td hv).fr e
 ·rcases List.mem_append.mp hx with hx | hx
  ·exact g.ok x hx
  ·rw [List.mem_singleton.mp hx]; exact hp
theorem Gath.frT {K : PySem.W.Frag} {H0 H : Hp} {T : Addr} {us : List V} {ps : List PartE} (g : Gath K H0 H T us ps) {o : HO} : Fr [T] H (upd H T o) := Fr.mut (List.mem_singleton.mpr rfl) g.at_ nofix_lst
theorem ok__law_body {f : Addr} {fd : FuncData} (F : FnP K "_law_body" s__law_body f fd) (B : BiRD mg) (C__law_atom : CalG P w K mg base 61 "_law_atom" (spAtomD K)) (C__law_one : CalG P w K mg base 20 "_law_one" (spOne K)) (C__law_pull : CalG P w K mg base 10 "_law_pull" spPull)
  (C__law_sum : CalG P w K mg base 55 "_law_sum" (spSum K 5)) (C__law_leaf : CalG P w K mg base 50 "_law_leaf" (spLeaf K)) (C__law_test : CalG P w K mg base 61 "_law_test" (spTest K)) (C__law_not : CalG P w K mg base 61 "_law_not" (spNot K)) :
  FnG P w K mg base CX0 62 f fd ["_law_bag_here", "_law_kinds_of", "_law_lower", "_law_atoms", "_law_made"] (spBody K) := by
 refine okG F sc__law_body (fun vs H Q E h => ?_) (fun cdv A outer s H vs Q E hr h => ?_)
 ·obtain ⟨b, cs, a, lo, m, made, rfl, _⟩ := h
  rfl
 obtain ⟨b, cs, a, lo, m, made, rfl, hm, hB, hK, hL, q⟩ := h
 have hu := hu_of hr.rm
 refine ⟨_, PSs.nox (pss_cons (ps_set (i := 5) sc__law_body.nd rfl (.inr rfl) pe_dnewK)
 (pss_cons (ps_setLc (i := 6) (own := [("_law_k", 9)]) (g := gName 9) (tt := tYes) rfl sc__law_body.nd rfl rfl (sw_true rfl rfl rfl (by decide +kernel)) (pi_range1 rfl B.b_range (pa_cons (pv 3) pa_nil)) (blkOk_by (own := [("_law_k", 9)]) (N := ["_law_bag_here", "_law_kinds_of", "_law_lower", "_law_atoms", "_law_made", "_law_vars_of", "_law_parts", "_law_sign", "_law_spot", "_law_k"]) (sc := defScope s__law_body) (by decide +kernel)) (fun _ _ _ _ _ => (by exact (pg_name (i := 9) sc__law_body.nd rfl (by first | exact Or.inl rfl | exact Or.inr rfl)))) (fun _ _ _ _ _ => pts_nil) (fun _ _ _ _ _ => (by exact (pe_calG C__law_atom hr rfl (pa_cons (pv 0) (pa_cons (pv 1) (pa_cons (pv 5) pa_nil)))))))
 (pss_cons (ps_if (PW.pt (pw_and (pt_val (pv 4)) (pw_and1 (pt_cmpR (kOp (K := K) (r := uEq) rfl (opu_eq hr.units)) (pe_calG C__law_pull hr rfl (pa_cons (pv 0) (pa_cons pe_int pa_nil))) pe_int (nomark _))))) (pss_cons (ps_expr (kBM (K := K) rfl (pe_bm PySem.F.plainAttrs_list PySem.F.slot_list_append PySem.F.type_list_append mt_append (pv 6) (pa_cons (pe_tup (pa_cons pe_str (pa_cons pe_str (pa_cons (pe_calG C__law_sum hr rfl (pa_cons (pv 0) (pa_cons (pv 5) (pa_cons pe_int pa_nil)))) pa_nil)))) pa_nil))))
 (pss_cons (ps_dput hu (pv 5) pe_str pe_str rfl)
 (pss_one (ps_if (pt_cmpR (kOp (K := K) (r := uEq) rfl (opu_eq hr.units)) (pe_calG C__law_pull hr rfl (pa_cons (pv 0) (pa_cons pe_int pa_nil))) pe_int (nomark _)) (pss_cons (ps_set (i := 7) sc__law_body.nd rfl (.inl rfl) (pe_calG C__law_one hr rfl (pa_cons (pv 0) (pa_cons (pe_lst (pa_cons pe_str (pa_cons pe_str (pa_cons pe_str pa_nil)))) pa_nil))))
 (pss_cons (ps_expr (kBM (K := K) rfl (pe_bm PySem.F.plainAttrs_list PySem.F.slot_list_append PySem.F.type_list_append mt_append (pv 6) (pa_cons (pe_tup (pa_cons pe_str (pa_cons pe_str (pa_cons (pe_tup (pa_cons (pv 7) (pa_cons (pe_tup (pa_cons pe_str (pa_cons pe_str pa_nil))) (pa_cons (pe_calG C__law_leaf hr rfl (pa_cons (pv 0) (pa_cons pe_str (pa_cons (pv 5) pa_nil)))) pa_nil)))) pa_nil)))) pa_nil))))
 (pss_one (ps_dput hu (pv 5) pe_str pe_str rfl)))) pss_nil)))) pss_nil)
 (pss_cons (ps_if (pt_cmpR (kOp (K := K) (r := uEq) rfl (opu_eq hr.units)) (pe_calG C__law_pull hr rfl (pa_cons (pv 0) (pa_cons pe_int pa_nil))) pe_int (nomark _)) (pss_one (ps_expr (kBM (K := K) rfl (pe_bm PySem.F.plainAttrs_list PySem.F.slot_list_append PySem.F.type_list_append mt_append (pv 6) (pa_cons (pe_calG C__law_test hr rfl (pa_cons (pv 0) (pa_cons (pv 5) pa_nil))) pa_nil))))) pss_nil)
 (pss_cons (ps_if (PW.pt (pw_and (pt_cmpR (kOp (K := K) (r := uNe) rfl (opu_ne hr.units)) (pv 2) pe_dnewK (nomark _)) (pw_and1 (pt_cmpR (kOp (K := K) (r := uEq) rfl (opu_eq hr.units)) (pe_calG C__law_pull hr rfl (pa_cons (pv 0) (pa_cons pe_int pa_nil))) pe_int (nomark _))))) (pss_one (ps_expr (kBM (K := K) rfl (pe_bm PySem.F.plainAttrs_list PySem.F.slot_list_append PySem.F.type_list_append mt_append (pv 6) (pa_cons (pe_calG C__law_not hr rfl (pa_cons (pv 0) (pa_cons (pv 2) (pa_cons (pv 5) pa_nil)))) pa_nil))))) pss_nil)
 (pss_cons (ps_set (i := 8) sc__law_body.nd rfl (.inl rfl) (pe_calG C__law_pull hr rfl (pa_cons (pv 0) (pa_cons (pe_op (kOp (K := K) (r := uAdd) rfl opu_add) (pe_callB (kCall (K := K) (r := uLen) rfl callu_len) (by rfl) B.b_len (by decide +kernel) (pa_cons (pv 6) pa_nil)) pe_int) pa_nil))))
 (pss_one (ps_ret (pe_tup (pa_cons (pe_callTy (kCall (K := K) (r := uTuple) rfl callu_tuple) (by rfl) B.b_tuple (by decide +kernel) (pa_cons (pe_op (kOp (K := K) (r := uAdd) rfl opu_add) (pe_slice (kSl (K := K) (r := rSlL) rfl sl_list) (pv 6) (po_some (pv 8)) po_none) (pe_slice (kSl (K := K) (r := rSlL) rfl sl_list) (pv 6) po_none (po_some (pv 8)))) pa_nil)) (pa_cons (pv 5) pa_nil))))))))))), rd_start (σ0 := [some (.ref b), some (.ref a), some (.ref lo), some (.int m), some (.bl made), none, none, none, none, none]) rfl ?_⟩
 walk_at "q"
 refine g_dnewK fun d hd => ?_
 have f0 : Fr [] H (upd H d (.dK [])) := Fr.new hd
 have hV0 : VarsAt (upd H d (.dK [])) d [] := ⟨upd_same, by decide, fun _ z => nomatch z⟩
 have hB0 := hB.fr0 f0
 have hdb := hB.some hd
 have hK0 := hK.frb hB f0.nil
 have hL0 := hL.frb hB f0.nil
 have had : a ≠ d := fun e => by
  obtain ⟨kvs, h1, _⟩ := hK.ex
  rw [e, hd] at h1
  cases h1
 have hld : lo ≠ d := fun e => by
  obtain ⟨kvs, h1, _⟩ := hL.ex
  rw [e, hd] at h1
  cases h1
 generalize upd H d (.dK []) = H0 at *
 walk_at "q"
 refine ⟨m, rfl, by omega, by omega, fun T hT => lc_it (walk_range (lo := 0) (n := m)) (fun i H' => ∃ us ps vd, Gath K H0 H' T us ps ∧ ps.length = i ∧ BagAt H' b cs ∧ VarsAt H' d vd ∧ VdG vd ∧ vd.length ≤ 8 ∧ Fr [b, d] H0 H')
  ⟨[], [], [], ⟨upd_same, .nil, rfl, (fun _ z => nomatch z), hT⟩, rfl, hB0.fr0 (Fr.new hT), hV0.fr (Fr.new (M := []) hT) (fun z => nomatch z), ⟨by decide, fun _ z => nomatch z⟩, by decide, Fr.new hT⟩ (fun i H' _ h => trivial) (fun i x H' H'' hi h y => ?_) (fun H1 h => ?_)⟩
 ·obtain ⟨rfl, rfl⟩ := y
  obtain ⟨us, ps, vd, hg, hpl, hB1, hV1, hG1, hv8, hF1⟩ := h
  have hTb := hB0.some hT
  have hTd : T ≠ d := fun e => by have z := hV0.at_; rw [← e, hT] at z; cases z
  have hTM : T ∉ [b, d] := fun z => by
   rcases List.mem_cons.mp z with z | z
   ·exact hTb.1 z
   ·exact hTd (List.mem_singleton.mp z)
  have hK1 := hK0.frbd hB0 hV0 had hF1
  walk_at "q"
  refine ⟨rfl, ?_⟩
  walk_at "q"
  refine ⟨b, cs, a, d, vd, rfl, hB1, hK1, had, hV1, hG1, fun v t vd2 H2 ht htw hV2 hG2 hm2 hB2 hF2 => ?_⟩
  have hg2 := hg.fr hF2 hTM
  refine ⟨us, hg2.at_, lt_of (by have := hg2.len; omega), us ++ [v], ps ++ [t], vd2, hg2.put ht htw, ?_, hB2.fr hg2.frT (fun z => hTb.1 (List.mem_singleton.mp z).symm) (fun z => hTb.2 (List.mem_singleton.mp z).symm), hV2.fr hg2.frT (fun z => hTd (List.mem_singleton.mp z).symm), hG2, by omega, (hF1.trans hF2).over hT⟩
  rw [List.length_append, hpl]; rfl
 ·obtain ⟨us, ps, vd, hg, hpl, hB1, hV1, hG1, hv8, hF1⟩ := h
  have hTb := hB0.some hT
  have hTd : T ≠ d := fun e => by have z := hV0.at_; rw [← e, hT] at z; cases z
  have hTM : T ∉ [b, d] := fun z => by
   rcases List.mem_cons.mp z with z | z
   ·exact hTb.1 z
   ·exact hTd (List.mem_singleton.mp z)
  have hTn : H T = none := f0.back (fun z => nomatch z) hT
  have bsub : ∀ {H H' : Hp}, Fr [b] H H' → Fr [b, d] H H' := fun e => e.mono fun a ha => by rw [List.mem_singleton.mp ha]; exact List.mem_cons_self
  have hdM : d ∉ [b] := fun z => hdb.1 (List.mem_singleton.mp z)
  have hTMb : T ∉ [b] := fun z => hTb.1 (List.mem_singleton.mp z)
  let Inv : Nat → L2.St → Hp → Prop := fun n σ H' => ∃ us ps vd z7 z8 z9, σ = [some (.ref b), some (.ref a), some (.ref lo), some (.int m), some (.bl made), some (.ref d), some (.ref T), z7, z8, z9] ∧ Gath K H0 H' T us ps ∧ ps.length ≤ n ∧ BagAt H' b cs ∧ VarsAt H' d vd ∧ VdG vd ∧ vd.length ≤ 10 ∧ Fr [b, d] H0 H'
  have more : ∀ {H' : Hp} {us : List V} {ps : List PartE} {vd : List (Str × Str)} {v : V} {t : PartE}, Gath K H0 H' T us ps → BagAt H' b cs → VarsAt H' d vd → Fr [b, d] H0 H' → Td K H' v t.d → PartW t →
    Gath K H0 (upd H' T (.lst (us ++ [v]))) T (us ++ [v]) (ps ++ [t]) ∧ BagAt (upd H' T (.lst (us ++ [v]))) b cs ∧ VarsAt (upd H' T (.lst (us ++ [v]))) d vd ∧ Fr [b, d] H0 (upd H' T (.lst (us ++ [v]))) :=
   fun hg hB hV hF hv ht => ⟨hg.put hv ht, hB.fr hg.frT (fun z => hTb.1 (List.mem_singleton.mp z).symm) (fun z => hTb.2 (List.mem_singleton.mp z).symm), hV.fr hg.frT (fun z => hTd (List.mem_singleton.mp z).symm), hF.over hT⟩
  have put : ∀ {H' : Hp} {us : List V} {ps : List PartE} {vd : List (Str × Str)} {x : Str}, Gath K H0 H' T us ps → BagAt H' b cs → VarsAt H' d vd → Fr [b, d] H0 H' → VdG vd → VarN x → vd.length ≤ 11 →
    Gath K H0 (upd H' d (.dK (kvOf (putS vd x "number")))) T us ps ∧ BagAt (upd H' d (.dK (kvOf (putS vd x "number")))) b cs ∧ VarsAt (upd H' d (.dK (kvOf (putS vd x "number")))) d (putS vd x "number") ∧ Fr [b, d] H0 (upd H' d (.dK (kvOf (putS vd x "number")))) ∧ VdG (putS vd x "number") ∧ (putS vd x "number").length ≤ vd.length + 1 := by
   intro H' us ps vd x hg hB hV hF hG hx hl
   have e : Fr [d] H' (upd H' d (.dK (kvOf (putS vd x "number")))) := Fr.mut (List.mem_singleton.mpr rfl) hV.at_ nofix_dK
   exact ⟨hg.fr e (fun z => hTd (List.mem_singleton.mp z)), hB.fr e (fun z => hdb.1 (List.mem_singleton.mp z).symm) (fun z => hdb.2 (List.mem_singleton.mp z).symm), hV.put hx (by omega), hF.trans (e.mono fun a ha => by rw [List.mem_singleton.mp ha]; exact List.mem_cons_of_mem _ List.mem_cons_self), hG.put hl hx (.inl rfl), putS_len⟩
  repeat walk_at "if"
  try dsimp only
  with_reducible refine g_cutS (Inv 5) (fun σ H2 h => ?_) (fun N k => ?_)
  ·obtain ⟨us, ps, vd, z7, z8, z9, rfl, hg, hpl, hB1, hV1, hG1, hv8, hF1⟩ := h
   repeat walk_at "if"
   try dsimp only
   with_reducible refine g_cutS (Inv 6) (fun σ H2 h => ?_) (fun N k => ?_)
   ·obtain ⟨us, ps, vd, z7, z8, z9, rfl, hg, hpl, hB1, hV1, hG1, hv8, hF1⟩ := h
    repeat walk_at "if"
    try dsimp only
    with_reducible refine g_cutS (Inv 7) (fun σ H2 h => ?_) (fun N k => ?_)
    ·obtain ⟨us, ps, vd, z7, z8, z9, rfl, hg, hpl, hB1, hV1, hG1, hv8, hF1⟩ := h
     have hT1 := hg.at_
     walk_at "q"
     refine ⟨b, cs, _, rfl, hB1, by omega, Int.lt_of_le_of_lt (b := 1000) (by have := hg.len; omega) (by decide), fun sp H3 d0 d1 hB3 hF3 => ?_⟩
     have hg3 := hg.fr hF3 hTMb
     have hV3 := hV1.fr hF3 hdM
     obtain ⟨n, rfl⟩ : ∃ n : Nat, sp = (n : Int) := ⟨sp.toNat, by omega⟩
     walk_at "q"
     refine g_slL (SqL.of hg3.at_) fun l1 hl1 => ?_
     have e1 : Fr [] H3 (upd H3 l1 (.lst (cutV us (some (n : Int)) none))) := Fr.new hl1
     have h1 : (upd H3 l1 (.lst (cutV us (some (n : Int)) none))) l1 = some (.lst (cutV us (some (n : Int)) none)) := upd_same
     rw [cutA] at e1 h1 ⊢
     generalize upd H3 l1 (.lst (us.drop n)) = H4 at *
     have hg4 := hg3.fr e1 (fun z => nomatch z)
     walk_at "q"
     refine g_slL (SqL.of hg4.at_) fun l2 hl2 => ?_
     have e2 : Fr [] H4 (upd H4 l2 (.lst (cutV us none (some (n : Int))))) := Fr.new hl2
     have h2 : (upd H4 l2 (.lst (cutV us none (some (n : Int))))) l2 = some (.lst (cutV us none (some (n : Int)))) := upd_same
     rw [cut0] at e2 h2 ⊢
     have h1 := e2.at h1 (fun z => nomatch z)
     generalize upd H4 l2 (.lst (us.take n)) = H5 at *
     refine g_addL h1 h2 (le_of (by rw [List.length_drop, List.length_take]; have := hg.len; omega)) fun l3 hl3 => ?_
     have e3 : Fr [] H5 (upd H5 l3 (.lst (us.drop n ++ us.take n))) := Fr.new hl3
     have h3 : (upd H5 l3 (.lst (us.drop n ++ us.take n))) l3 = some (.lst (us.drop n ++ us.take n)) := upd_same
     generalize upd H5 l3 (.lst (us.drop n ++ us.take n)) = H6 at *
     walk_at "q"
     refine g_tupleL (SqL.of h3) fun l4 hl4 => ?_
     have e4 : Fr [] H6 (upd H6 l4 (.tup (us.drop n ++ us.take n))) := Fr.new hl4
     have h4 : (upd H6 l4 (.tup (us.drop n ++ us.take n))) l4 = some (.tup (us.drop n ++ us.take n)) := upd_same
     generalize upd H6 l4 (.tup (us.drop n ++ us.take n)) = H7 at *
     walk_at "q"
     refine ⟨le_of (by simp), fun p hp => ?_⟩
     have e5 : Fr [] H7 (upd H7 p (.tup [.ref l4, .ref d])) := Fr.new hp
     have ee : Fr [] H3 (upd H7 p (.tup [.ref l4, .ref d])) := (((e1.trans e2).trans e3).trans e4).trans e5
     have hbd : Fr [b] H (upd H7 p (.tup [.ref l4, .ref d])) := by
      have z := ((f0.nil.trans hF1).trans (bsub hF3)).trans ee.nil
      intro x o hx hy
      refine z x o hx (hy.imp (fun hn hm => ?_) id)
      rcases List.mem_cons.mp hm with hm | hm
      ·exact hn (by rw [hm]; exact List.mem_cons_self)
      ·rw [List.mem_singleton.mp hm, hd] at hx
       cases hx
     refine q p l4 d _ (ps.drop n ++ ps.take n) vd _ (SqT.of upd_same) (SqT.of (e5.at h4 (fun z => nomatch z))) ?_ ?_ (fun x hx => ?_) (hV3.fr ee (fun z => nomatch z)) hG1 hd (hB3.fr0 ee) hbd
     ·refine tda_mk ?_ fun i x v ex ev => ?_
      ·rw [List.length_append, List.length_append, List.length_drop, List.length_drop, List.length_take, List.length_take, hg.len]
      ·obtain ⟨k1, k2⟩ := tda_get (hg3.td.fr ee)
       have hls := hg.len
       by_cases hi : i < ps.length - n
       ·rw [List.getElem?_append_left (by rw [List.length_drop]; omega), List.getElem?_drop] at ex ev
        obtain ⟨x', ex', hx'⟩ := k2 _ v ev
        rw [ex] at ex'
        cases ex'
        exact hx'
       ·rw [List.getElem?_append_right (by rw [List.length_drop]; omega), List.length_drop, List.getElem?_take] at ex ev
        rw [hls] at ev
        split at ex
        ·rename_i hc
         rw [if_pos hc] at ev
         obtain ⟨x', ex', hx'⟩ := k2 _ v ev
         rw [ex] at ex'
         cases ex'
         exact hx'
        ·cases ex
     ·rw [List.length_append, List.length_drop, List.length_take]; omega
     ·rcases List.mem_append.mp hx with hx | hx
      ·exact hg.ok x (List.mem_of_mem_drop hx)
      ·exact hg.ok x (List.mem_of_mem_take hx)
    ·have hT1 := hg.at_
     have hL1 := hL0.frbd hB0 hV0 hld hF1
     obtain ⟨kvs, hk1, hk2, hk3, hk4⟩ := hL1.ex
     walk_at "q"
     refine g_dnewK fun p1 hp1 => ?_
     have e1 : Fr [] H2 (upd H2 p1 (.dK [])) := Fr.new hp1
     have h1 : (upd H2 p1 (.dK [])) p1 = some (.dK []) := upd_same
     have hk1' := e1.at hk1 (fun z => nomatch z)
     have hg2 := hg.fr e1 (fun z => nomatch z)
     have hB2 := hB1.fr0 e1
     have hV2 := hV1.fr e1 (fun z => nomatch z)
     have hF2 := hF1.trans e1.nil
     have hL2 := hL0.frbd hB0 hV0 hld hF2
     generalize upd H2 p1 (.dK []) = H3 at *
     refine g_neEK hk1' h1 ?_
     rw [decide_eq_false hk3]
     walk_at "q"
     refine ⟨b, cs, _, rfl, hB2, by decide, by decide, fun dd H4 d0 d1 hB4 hF4 => ?_⟩
     have hg4 := hg2.fr hF4 hTMb
     have hV4 := hV2.fr hF4 hdM
     have F4 := hF2.trans (bsub hF4)
     have hL4 := hL0.frbd hB0 hV0 hld F4
     have hT4 := hg4.at_
     walk_at "q"
     refine g_by (fun c => ?_) (fun c => ?_)
     ·walk_at "q"
      refine ⟨b, cs, lo, d, vd, rfl, hB4, hL4, hV4, hG1, fun v t H5 ht htw hB5 hF5 => ?_⟩
      have hg5 := hg4.fr hF5 hTMb
      have hT5 := hg5.at_
      walk_at "q"
      refine ⟨T, us, v, rfl, rfl, hT5, lt_of (by have := hg.len; omega), ?_⟩
      obtain ⟨a1, a2, a3, a4⟩ := more hg5 hB5 (hV4.fr hF5 hdM) (F4.trans (bsub hF5)) ht htw
      exact k _ _ ⟨_, _, _, _, _, _, rfl, a1, by rw [List.length_append]; exact Nat.succ_le_succ hpl, a2, a3, hG1, hv8, a4⟩
     ·walk_at "q"
      exact k _ _ ⟨_, _, _, _, _, _, rfl, hg4, by omega, hB4, hV4, hG1, hv8, F4⟩
   ·have hT1 := hg.at_
    walk_at "q"
    refine ⟨b, cs, _, rfl, hB1, by decide, by decide, fun dd H4 d0 d1 hB4 hF4 => ?_⟩
    have hg4 := hg.fr hF4 hTMb
    have hV4 := hV1.fr hF4 hdM
    have F4 := hF1.trans (bsub hF4)
    have hT4 := hg4.at_
    walk_at "q"
    refine g_by (fun c => ?_) (fun c => ?_)
    ·walk_at "q"
     refine ⟨b, cs, d, vd, rfl, hB4, hV4, hG1, fun v t H5 ht htw hB5 hF5 => ?_⟩
     have hg5 := hg4.fr hF5 hTMb
     have hT5 := hg5.at_
     walk_at "q"
     refine ⟨T, us, v, rfl, rfl, hT5, lt_of (by have := hg.len; omega), ?_⟩
     obtain ⟨a1, a2, a3, a4⟩ := more hg5 hB5 (hV4.fr hF5 hdM) (F4.trans (bsub hF5)) ht htw
     exact k _ _ ⟨_, _, _, _, _, _, rfl, a1, by rw [List.length_append]; exact Nat.succ_le_succ hpl, a2, a3, hG1, hv8, a4⟩
    ·walk_at "q"
     exact k _ _ ⟨_, _, _, _, _, _, rfl, hg4, by omega, hB4, hV4, hG1, hv8, F4⟩
  ·have hT1 := hg.at_
   have stay : ∀ (H4 : Hp) z7 z8 z9, Fr [b] H1 H4 → BagAt H4 b cs → N [some (.ref b), some (.ref a), some (.ref lo), some (.int m), some (.bl made), some (.ref d), some (.ref T), z7, z8, z9] H4 := fun H4 z7 z8 z9 e hB4 =>
    k _ _ ⟨us, ps, vd, z7, z8, z9, rfl, hg.fr e hTMb, by omega, hB4, hV1.fr e hdM, hG1, by omega, hF1.trans (bsub e)⟩
   walk_at "q"
   refine g_byB (fun c => ?_) (fun c => ?_)
   ·walk_at "q"
    refine ⟨b, cs, _, rfl, hB1, by decide, by decide, fun dd H4 d0 d1 hB4 hF4 => ?_⟩
    have hg4 := hg.fr hF4 hTMb
    have hV4 := hV1.fr hF4 hdM
    have F4 := hF1.trans (bsub hF4)
    have hT4 := hg4.at_
    walk_at "q"
    refine g_by (fun c => ?_) (fun c => ?_)
    ·walk_at "q"
     refine ⟨b, cs, d, 1, vd, rfl, by decide, hB4, hV4, fun x v H5 hx hxv hB5 hF5 => ?_⟩
     have hg5 := hg4.fr hF5 hTMb
     have hV5 := hV4.fr hF5 hdM
     have F5 := F4.trans (bsub hF5)
     walk_at "q"
     refine ⟨le_of (by simp), fun p6 hp6 => ?_⟩
     have e6 : Fr [] H5 (upd H5 p6 (.tup [.str "let", .str "sum1", v])) := Fr.new hp6
     have ht6 : Td K (upd H5 p6 (.tup [.str "let", .str "sum1", v])) (.ref p6) (PartE.lt "sum1" x).d := .tup (SqT.of upd_same) (.cons (.str _) (.cons (.str _) (.cons ((hxv.td (hx.w hG1)).fr e6) .nil)))
     have hg6 := hg5.fr e6 (fun z => nomatch z)
     have hV6 := hV5.fr e6 (fun z => nomatch z)
     have F6 := F5.trans e6.nil
     have hB6 := hB5.fr0 e6
     have hT6 := hg6.at_
     generalize upd H5 p6 (.tup [.str "let", .str "sum1", v]) = H6 at *
     walk_at "q"
     refine ⟨T, us, .ref p6, rfl, rfl, hT6, lt_of (by have := hg.len; omega), ?_⟩
     obtain ⟨a1, a2, a3, a4⟩ := more hg6 hB6 hV6 F6 ht6 (.lt sum1_ok (hx.w hG1))
     generalize upd H6 T (.lst (us ++ [.ref p6])) = H7 at *
     walk_at "q"
     refine g_dputS a3.at_ (by unfold kvOf; rw [List.length_map]; omega) ?_
     rw [kvOf_put]
     obtain ⟨b1, b2, b3, b4, b5, b6⟩ := put a1 a2 a3 a4 hG1 sum1_ok (by omega)
     have hdl : (putS vd "sum1" "number").length ≤ 9 := by omega
     generalize upd H7 d (.dK (kvOf (putS vd "sum1" "number"))) = H8 at *
     have hpl2 : (ps ++ [PartE.lt "sum1" x]).length ≤ 4 := by rw [List.length_append]; exact Nat.succ_le_succ (by omega)
     walk_at "q"
     refine ⟨b, cs, _, rfl, b2, by decide, by decide, fun dd H9 d0 d1 hB9 hF9 => ?_⟩
     have hg9 := b1.fr hF9 hTMb
     have hV9 := b3.fr hF9 hdM
     have F9 := b4.trans (bsub hF9)
     have hT9 := hg9.at_
     walk_at "q"
     refine g_by (fun c => ?_) (fun c => ?_)
     ·walk_at "q"
      refine ⟨le_of (by simp), fun p7 hp7 => ?_⟩
      have e7 : Fr [] H9 (upd H9 p7 (.lst [.str "+", .str "-", .str "*"])) := Fr.new hp7
      have h7 : (upd H9 p7 (.lst [V.str "+", .str "-", .str "*"])) p7 = some (.lst [.str "+", .str "-", .str "*"]) := upd_same
      have hb7 := (hB9.some hp7).1
      have hg10 := hg9.fr e7 (fun z => nomatch z)
      have hV10 := hV9.fr e7 (fun z => nomatch z)
      have F10 := F9.trans e7.nil
      have hB10 := hB9.fr0 e7
      generalize upd H9 p7 (.lst [V.str "+", .str "-", .str "*"]) = H10 at *
      walk_at "q"
      refine ⟨b, cs, p7, _, rfl, hB10, .inl ⟨SqL.of h7, hb7⟩, by decide, by decide, fun sv H11 hsv hB11 hF11 => ?_⟩
      obtain ⟨sg, hsg, rfl⟩ : ∃ sg, isSg sg ∧ sv = .str sg := by
       simp only [List.mem_cons, List.not_mem_nil, or_false] at hsv
       rcases hsv with rfl | rfl | rfl
       ·exact ⟨_, .inl rfl, rfl⟩
       ·exact ⟨_, .inr (.inl rfl), rfl⟩
       ·exact ⟨_, .inr (.inr rfl), rfl⟩
      have hg11 := hg10.fr hF11 hTMb
      have hV11 := hV10.fr hF11 hdM
      have F11 := F10.trans (bsub hF11)
      have hT11 := hg11.at_
      walk_at "q"
      refine ⟨le_of (by simp), fun p12 hp12 => ?_⟩
      have e12 : Fr [] H11 (upd H11 p12 (.tup [.str "var", .str "sum1"])) := Fr.new hp12
      have h12 : (upd H11 p12 (.tup [V.str "var", .str "sum1"])) p12 = some (.tup [.str "var", .str "sum1"]) := upd_same
      have hg12 := hg11.fr e12 (fun z => nomatch z)
      have hV12 := hV11.fr e12 (fun z => nomatch z)
      have F12 := F11.trans e12.nil
      have hB12 := hB11.fr0 e12
      generalize upd H11 p12 (.tup [V.str "var", .str "sum1"]) = H12 at *
      walk_at "q"
      refine ⟨b, cs, d, "number", _, rfl, .inl rfl, hB12, hV12, fun p13 H13 hp13 hB13 hF13 => ?_⟩
      obtain ⟨ey, hey, hty⟩ := hp13.w b5
      have hg13 := hg12.fr hF13 hTMb
      have hV13 := hV12.fr hF13 hdM
      have F13 := F12.trans (bsub hF13)
      have h12' := hF13.tup (K := K) (SqT.of h12)
      walk_at "q"
      refine ⟨le_of (by simp), fun p14 hp14 => ?_⟩
      have e14 : Fr [] H13 (upd H13 p14 (.tup [.str sg, .ref p12, .ref p13])) := Fr.new hp14
      have t14 : Td K (upd H13 p14 (.tup [.str sg, .ref p12, .ref p13])) (.ref p14) (SumE.op sg (.var "sum1") ey).d := .tup (SqT.of upd_same) (.cons (.str _) (.cons (.tup (e14.tup h12') (.cons (.str _) (.cons (.str _) .nil))) (.cons (hty.fr e14) .nil)))
      have hg14 := hg13.fr e14 (fun z => nomatch z)
      have hV14 := hV13.fr e14 (fun z => nomatch z)
      have F14 := F13.trans e14.nil
      have hB14 := hB13.fr0 e14
      generalize upd H13 p14 (.tup [.str sg, .ref p12, .ref p13]) = H14 at *
      walk_at "q"
      refine ⟨le_of (by simp), fun p15 hp15 => ?_⟩
      have e15 : Fr [] H14 (upd H14 p15 (.tup [.str "let", .str "sum2", .ref p14])) := Fr.new hp15
      have t15 : Td K (upd H14 p15 (.tup [.str "let", .str "sum2", .ref p14])) (.ref p15) (PartE.lt "sum2" (.op sg (.var "sum1") ey)).d := .tup (SqT.of upd_same) (.cons (.str _) (.cons (.str _) (.cons (t14.fr e15) .nil)))
      have hg15 := hg14.fr e15 (fun z => nomatch z)
      have hV15 := hV14.fr e15 (fun z => nomatch z)
      have F15 := F14.trans e15.nil
      have hB15 := hB14.fr0 e15
      have hT15 := hg15.at_
      generalize upd H14 p15 (.tup [.str "let", .str "sum2", .ref p14]) = H15 at *
      walk_at "q"
      refine ⟨T, _, .ref p15, rfl, rfl, hT15, lt_of (by have := hg15.len; omega), ?_⟩
      obtain ⟨c1, c2, c3, c4⟩ := more hg15 hB15 hV15 F15 t15 (.lt sum2_ok (.op hsg (.var sum1_ok) hey))
      generalize upd H15 T (.lst (us ++ [.ref p6] ++ [.ref p15])) = H16 at *
      walk_at "q"
      refine g_dputS c3.at_ (by unfold kvOf; rw [List.length_map]; omega) ?_
      rw [kvOf_put]
      obtain ⟨d1, d2, d3, d4, d5, d6⟩ := put c1 c2 c3 c4 b5 sum2_ok (by omega)
      exact k _ _ ⟨_, _, _, _, _, _, rfl, d1, by rw [List.length_append]; exact Nat.succ_le_succ hpl2, d2, d3, d5, by omega, d4⟩
     ·walk_at "q"
      exact k _ _ ⟨_, _, _, _, _, _, rfl, hg9, by omega, hB9, hV9, b5, by omega, F9⟩
    ·walk_at "q"
     exact stay _ _ _ _ hF4 hB4
   ·walk_at "q"
    exact stay _ _ _ _ Fr.refl hB1
end
def tightKvs : List (Str × Option V) := [("+", some (.int 1)), ("-", some (.int 1)), ("*", some (.int 2)), ("value", none), ("var", none)]
theorem head_tight {m : Nat} {e : SumE} (h : SumG m e) : ∃ o, (headE e, o) ∈ tightKvs ∧ o.getD (.int 3) = .int (tightE e) := by
 cases h with
 | val => exact ⟨none, (show (("value" : Str), (none : Option V)) ∈ tightKvs by unfold tightKvs; simp), rfl⟩
 | var => exact ⟨none, (show (("var" : Str), (none : Option V)) ∈ tightKvs by unfold tightKvs; simp), rfl⟩
 | op hs _ _ =>
  rcases hs with rfl | rfl | rfl
  ·exact ⟨some (.int 1), (show (("+" : Str), some (V.int 1)) ∈ tightKvs by unfold tightKvs; simp), rfl⟩
  ·exact ⟨some (.int 1), (show (("-" : Str), some (V.int 1)) ∈ tightKvs by unfold tightKvs; simp), rfl⟩
  ·exact ⟨some (.int 2), (show (("*" : Str), some (V.int 2)) ∈ tightKvs by unfold tightKvs; simp), rfl⟩
def spValT : Sp := fun vs H Q _ => ∃ u, vs = [u] ∧ ValG u ∧ Q (.str (valT u)) H
def spTight (K : PySem.W.Frag) : Sp := fun vs H Q _ => ∃ v e m, vs = [v] ∧ Td K H v (SumE.d e) ∧ SumG m e ∧ ∀ H', Fr [] H H' → Q (.int (tightE e)) H'
def spWrap (K : PySem.W.Frag) (n : Nat) : Sp := fun vs H Q _ => ∃ v e m, ∃ k : Nat, vs = [v, .int k] ∧ Td K H v (SumE.d e) ∧ SumG m e ∧ m ≤ 4 ∧ e.deep < n ∧ ∀ H', Fr [] H H' → Q (.str (wrapS k e (sumT e))) H'
def spSumT (K : PySem.W.Frag) (n : Nat) : Sp := fun vs H Q _ => ∃ v e m, vs = [v] ∧ Td K H v (SumE.d e) ∧ SumG m e ∧ m ≤ 4 ∧ e.deep < n ∧ ∀ H', Fr [] H H' → Q (.str (sumT e)) H'
theorem log1920 {i : Int} (h : i.natAbs < 10 ^ 30) : i.natAbs.log2 < 1920 := PySem.Flt.log2_lt_of (by decide) (Nat.lt_of_lt_of_le h (by decide))
abbrev s_value_text : Stmt := topS 13
theorem sc_value_text : FnScope ["value"] ["value"] (defScope s_value_text) := ⟨rfl, rfl, rfl, by decide +kernel, rfl, by decide +kernel, by decide +kernel⟩
abbrev s_tightness : Stmt := topS 48
theorem sc_tightness : FnScope ["thing"] ["thing"] (defScope s_tightness) := ⟨rfl, rfl, rfl, by decide +kernel, rfl, by decide +kernel, by decide +kernel⟩
abbrev s_wrapped : Stmt := topS 49
theorem sc_wrapped : FnScope ["thing", "least", "text"] ["thing", "least"] (defScope s_wrapped) := ⟨rfl, rfl, rfl, by decide +kernel, rfl, by decide +kernel, by decide +kernel⟩
abbrev s_sum_text : Stmt := topS 50
theorem sc_sum_text : FnScope ["thing", "sign", "one", "other", "least", "left", "right"] ["thing"] (defScope s_sum_text) := ⟨rfl, rfl, rfl, by decide +kernel, rfl, by decide +kernel, by decide +kernel⟩
section
variable {P : Program} {w : World} {K : PySem.W.Frag} {mg : Str → Option Value} {base : Heap} {a_TIGHT : Addr}
theorem ok_value_text {f : Addr} {fd : FuncData} (F : FnP K "value_text" s_value_text f fd) (B : BiT mg) : FnG P w K mg base CX0 1 f fd ["value"] spValT := by
 refine okG F sc_value_text (fun vs H Q E h => ?_) (fun cdv A outer s H vs Q E hr h => ?_)
 ·obtain ⟨u, rfl, _⟩ := h
  rfl
 obtain ⟨u, rfl, hu, q⟩ := h
 refine ⟨_, PSs.nox (pss_cons (ps_if (pt_val (pe_callB (kCall (K := K) (r := uIsi) rfl callu_isi) (by rfl) B.b_isinstance (by decide +kernel) (pa_cons (pv 0) (pa_cons (pe_bltn (v := .ty "bool") (by rfl) B.b_bool (by decide +kernel) rfl) pa_nil)))) (pss_one (ps_ret (pe_ifExp (pt_val (pv 0)) pe_str pe_str))) pss_nil)
 (pss_one (ps_ret (pe_ifExp (pt_val (pe_callB (kCall (K := K) (r := uIsi) rfl callu_isi) (by rfl) B.b_isinstance (by decide +kernel) (pa_cons (pv 0) (pa_cons (pe_bltn (v := .ty "int") (by rfl) B.b_int (by decide +kernel) rfl) pa_nil)))) (pe_callTy callu_str (by rfl) B.b_str (by decide +kernel) (pa_cons (pv 0) pa_nil)) (pe_fs (.cons pe_str (.cons (pe_fmt (pv 0)) (.cons pe_str .nil)))))))), rd_start (σ0 := [some u]) rfl ?_⟩
 walk_at "q"
 rcases hu with ⟨i, rfl, hi⟩ | ⟨b, rfl⟩ | ⟨x, rfl, hx⟩
 ·refine g_isi (.base (.int i)) (b := false) (by decide +kernel) ?_
  walk_at "q"
  refine g_isi (.base (.int i)) (b := true) (by decide +kernel) ?_
  walk_at "q"
  refine g_strI (log1920 hi) ?_
  exact q
 ·refine g_isi (.base (.bl b)) (b := true) (by decide +kernel) ?_
  walk_at "q"
  refine g_byB (fun e => ?_) (fun e => ?_)
  ·subst e; exact q
  ·subst e; exact q
 ·refine g_isi (.base (.str x)) (b := false) (by decide +kernel) ?_
  walk_at "q"
  refine g_isi (.base (.str x)) (b := false) (by decide +kernel) ?_
  walk_at "q"
  have hl := hx.len
  repeat walk_at "fs"
  rw [empty_app]
  exact q
theorem ok_tightness {f : Addr} {fd : FuncData} (F : FnP K "tightness" s_tightness f fd) (g_TIGHT : mg "TIGHT" = some (.ref a_TIGHT)) (d_TIGHT : WD K w a_TIGHT tightKvs) : FnG P w K mg base CX0 1 f fd ["thing"] (spTight K) := by
 refine okG F sc_tightness (fun vs H Q E h => ?_) (fun cdv A outer s H vs Q E hr h => ?_)
 ·obtain ⟨v, e, m, rfl, _⟩ := h
  rfl
 obtain ⟨v, e, m, rfl, hv, he, q⟩ := h
 have hu := hu_of hr.rm
 refine ⟨_, PSs.nox (pss_one (ps_ret (pe_kget2 (pe_glob (v := .ref a_TIGHT) rfl g_TIGHT rfl) (pe_ix (kIx (K := K) (r := rIx) rfl ix_seq) (pv 0) pe_int (fun _ _ => rfl)) pe_int ⟨rfl, rfl, rfl, rfl⟩))), rd_start (σ0 := [some v]) rfl ?_⟩
 obtain ⟨p, xs, rfl, hp⟩ := td_head hv
 obtain ⟨o, ho, hv⟩ := head_tight he
 walk_at "q"
 refine g_kget2 (g_c ⟨_, _, rfl, d_TIGHT, ?_⟩)
 walk_at "q"
 refine g_ixT hp (atI_nat (j := 0) rfl) ?_
 walk_at "q"
 refine ⟨_, o, rfl, ho, ?_⟩
 rw [hv]
 exact q _ Fr.refl
theorem ok_wrapped {n k : Nat} {f : Addr} {fd : FuncData} (F : FnP K "wrapped" s_wrapped f fd) (C_sum_text : CalG P w K mg base k "sum_text" (spSumT K n)) (C_tightness : CalG P w K mg base 1 "tightness" (spTight K)) (hk : 1 ≤ k) : FnG P w K mg base CX0 (k + 1) f fd ["thing", "least"] (spWrap K n) := by
 refine okG F sc_wrapped (fun vs H Q E h => ?_) (fun cdv A outer s H vs Q E hr h => ?_)
 ·obtain ⟨v, e, m, j, rfl, _⟩ := h
  rfl
 obtain ⟨v, e, m, j, rfl, hv, he, hm, hn, q⟩ := h
 have hu := hu_of hr.rm
 refine ⟨_, PSs.nox (pss_cons (ps_set (i := 2) sc_wrapped.nd rfl (.inl rfl) (pe_calG C_sum_text hr rfl (pa_cons (pv 0) pa_nil)))
 (pss_one (ps_ret (pe_ifExp (pt_cmpR (kOp (K := K) (r := uLt) rfl opu_lt) (pe_calG C_tightness hr rfl (pa_cons (pv 0) pa_nil)) (pv 1) (nomark _)) (pe_fs (.cons pe_str (.cons (pe_fmt (pv 2)) (.cons pe_str .nil)))) (pv 2))))), rd_start (σ0 := [some v, some (.int j), none]) rfl ?_⟩
 walk_at "q"
 refine ⟨v, e, m, rfl, hv, he, hm, hn, fun H1 e1 => ?_⟩
 walk_at "q"
 refine ⟨v, e, m, rfl, hv.fr e1, he, fun H2 e2 => ?_⟩
 walk_at "q"
 have hl := (he.tx4 hm).len
 refine g_by (fun c => ?_) (fun c => ?_)
 ·repeat walk_at "fs"
  rw [empty_app]
  have z := q _ (e1.trans e2)
  unfold wrapS at z
  rw [if_pos (by omega)] at z
  exact z
 ·walk_at "q"
  have z := q _ (e1.trans e2)
  unfold wrapS at z
  rw [if_neg (by omega)] at z
  exact z
theorem ok_sum_text {n k : Nat} {f : Addr} {fd : FuncData} (F : FnP K "sum_text" s_sum_text f fd) (C_value_text : CalG P w K mg base 1 "value_text" spValT) (C_wrapped : CalG P w K mg base k "wrapped" (spWrap K n)) (hk : 1 ≤ k)
  (g_TIGHT : mg "TIGHT" = some (.ref a_TIGHT)) (d_TIGHT : WD K w a_TIGHT tightKvs) : FnG P w K mg base CX0 (k + 1) f fd ["thing"] (spSumT K (n + 1)) := by
 refine okG F sc_sum_text (fun vs H Q E h => ?_) (fun cdv A outer s H vs Q E hr h => ?_)
 ·obtain ⟨v, e, m, rfl, _⟩ := h
  rfl
 obtain ⟨v, e, m, rfl, hv, he, hm, hn, q⟩ := h
 have hu := hu_of hr.rm
 refine ⟨_, PSs.nox (pss_cons (ps_if (pt_cmpR (kOp (K := K) (r := uEq) rfl (opu_eq hr.units)) (pe_ix (kIx (K := K) (r := rIx) rfl ix_seq) (pv 0) pe_int (fun _ _ => rfl)) pe_str (nomark _)) (pss_one (ps_ret (pe_calG C_value_text hr rfl (pa_cons (pe_ix (kIx (K := K) (r := rIx) rfl ix_seq) (pv 0) pe_int (fun _ _ => rfl)) pa_nil)))) pss_nil)
 (pss_cons (ps_if (pt_cmpR (kOp (K := K) (r := uEq) rfl (opu_eq hr.units)) (pe_ix (kIx (K := K) (r := rIx) rfl ix_seq) (pv 0) pe_int (fun _ _ => rfl)) pe_str (nomark _)) (pss_one (ps_ret (pe_ix (kIx (K := K) (r := rIx) rfl ix_seq) (pv 0) pe_int (fun _ _ => rfl)))) pss_nil)
 (pss_cons (ps_asg (pv 0) (pg_tupK (K := K) rfl rfl (pgs_cons (pg_name (i := 1) sc_sum_text.nd rfl (by first | exact Or.inl rfl | exact Or.inr rfl)) (pgs_cons (pg_name (i := 2) sc_sum_text.nd rfl (by first | exact Or.inl rfl | exact Or.inr rfl)) (pgs_cons (pg_name (i := 3) sc_sum_text.nd rfl (by first | exact Or.inl rfl | exact Or.inr rfl)) pgs_nil)))))
 (pss_cons (ps_set (i := 4) sc_sum_text.nd rfl (.inl rfl) (pe_ix (kIxW (K := K) (w := w) rfl rfl ix_wd) (pe_glob (v := .ref a_TIGHT) rfl g_TIGHT rfl) (pv 1) (fun _ _ => rfl)))
 (pss_cons (ps_set (i := 5) sc_sum_text.nd rfl (.inl rfl) (pe_calG C_wrapped hr rfl (pa_cons (pv 2) (pa_cons (pv 4) pa_nil))))
 (pss_cons (ps_set (i := 6) sc_sum_text.nd rfl (.inl rfl) (pe_calG C_wrapped hr rfl (pa_cons (pv 3) (pa_cons (pe_op (kOp (K := K) (r := uAdd) rfl opu_add) (pv 4) pe_int) pa_nil))))
 (pss_one (ps_ret (pe_fs (.cons (pe_fmt (pv 5)) (.cons pe_str (.cons (pe_fmt (pv 1)) (.cons pe_str (.cons (pe_fmt (pv 6)) .nil)))))))))))))), rd_start (σ0 := [some v, none, none, none, none, none, none]) rfl ?_⟩
 cases he with
 | @val m u hu =>
  obtain ⟨p, rfl, hp⟩ := td_val hu hv
  walk_at "q"
  refine ⟨u, rfl, hu, ?_⟩
  exact q _ Fr.refl
 | @var m x hx =>
  obtain ⟨p, x', y, rfl, hp, hx', hy⟩ := Td.t2 (show Td K H v (.tuple [.str "var", .str x]) from hv)
  cases hx'.str_inv
  cases hy.str_inv
  walk_at "q"
  exact q _ Fr.refl
 | @op m s a b hs ha hb =>
  obtain ⟨p, x, y, z, rfl, hp, hx, hy, hz⟩ := Td.t3 (show Td K H v (.tuple [.str s, a.d, b.d]) from hv)
  cases hx.str_inv
  have hdeep : max a.deep b.deep + 1 < n + 1 := hn
  walk_at "q"
  refine g_ff (decide_eq_false (sg_ne hs).1) ?_
  walk_at "q"
  refine g_ff (decide_eq_false (sg_ne hs).2) ?_
  have ht : ((s, some (.int (tightE (.op s a b)))) : Str × Option V) ∈ tightKvs := by
   rcases hs with rfl | rfl | rfl
   ·exact (show ((("+" : Str), some (V.int 1)) ∈ tightKvs) by unfold tightKvs; simp)
   ·exact (show ((("-" : Str), some (V.int 1)) ∈ tightKvs) by unfold tightKvs; simp)
   ·exact (show ((("*" : Str), some (V.int 2)) ∈ tightKvs) by unfold tightKvs; simp)
  walk_at "q"
  refine g_ixW d_TIGHT ht ?_
  walk_at "q"
  have e1 : (((tightE (.op s a b) : Nat) : Int) + 1) = ((tightE (.op s a b) + 1 : Nat) : Int) := rfl
  refine ⟨y, a, m, _, rfl, hy, ha, by omega, by omega, fun H1 f1 => ?_⟩
  walk_at "q"
  refine ⟨z, b, m, _, rfl, hz.fr f1, hb, by omega, by omega, fun H2 f2 => ?_⟩
  have l1 := (ha.tx4 (by omega)).wrap (k := tightE (.op s a b)) (e := a) |>.len
  have l2 := (hb.tx4 (by omega)).wrap (k := tightE (.op s a b) + 1) (e := b) |>.len
  have l3 := hs.tx.len
  repeat walk_at "fs"
  rw [empty_app]
  exact q _ (f1.trans f2)
end
abbrev s_term_text : Stmt := topS 51
theorem sc_term_text : FnScope ["term"] ["term"] (defScope s_term_text) := ⟨rfl, rfl, rfl, by decide +kernel, rfl, by decide +kernel, by decide +kernel⟩
abbrev s_atom_text : Stmt := topS 52
theorem sc_atom_text : FnScope ["part", "word", "name", "terms", "told", "term"] ["part"] (defScope s_atom_text) := ⟨rfl, rfl, rfl, by decide +kernel, rfl, by decide +kernel, by decide +kernel⟩
abbrev s_part_text : Stmt := topS 53
theorem sc_part_text : FnScope ["part"] ["part"] (defScope s_part_text) := ⟨rfl, rfl, rfl, by decide +kernel, rfl, by decide +kernel, by decide +kernel⟩
abbrev s_arg_text : Stmt := topS 54
theorem sc_arg_text : FnScope ["arg"] ["arg"] (defScope s_arg_text) := ⟨rfl, rfl, rfl, by decide +kernel, rfl, by decide +kernel, by decide +kernel⟩
abbrev s_args_text : Stmt := topS 55
theorem sc_args_text : FnScope ["args", "arg"] ["args"] (defScope s_args_text) := ⟨rfl, rfl, rfl, by decide +kernel, rfl, by decide +kernel, by decide +kernel⟩
abbrev s_parts_text : Stmt := topS 56
theorem sc_parts_text : FnScope ["parts", "part"] ["parts"] (defScope s_parts_text) := ⟨rfl, rfl, rfl, by decide +kernel, rfl, by decide +kernel, by decide +kernel⟩
abbrev s_rule_text : Stmt := topS 57
theorem sc_rule_text : FnScope ["rule", "head", "args", "parts", "told"] ["rule"] (defScope s_rule_text) := ⟨rfl, rfl, rfl, by decide +kernel, rfl, by decide +kernel, by decide +kernel⟩
abbrev s_question_text : Stmt := topS 58
theorem sc_question_text : FnScope ["question", "args", "parts"] ["question"] (defScope s_question_text) := ⟨rfl, rfl, rfl, by decide +kernel, rfl, by decide +kernel, by decide +kernel⟩
section
variable {P : Program} {w : World} {K : PySem.W.Frag} {mg : Str → Option Value} {base : Heap}
theorem SumG.head_ne {m : Nat} {e : SumE} (h : SumG m e) : headE e ≠ "any" ∧ headE e ≠ "fold" := by
 cases h with
 | val => exact ⟨by show ¬ (("value" : Str) = "any"); decide +kernel, by show ¬ (("value" : Str) = "fold"); decide +kernel⟩
 | var => exact ⟨by show ¬ (("var" : Str) = "any"); decide +kernel, by show ¬ (("var" : Str) = "fold"); decide +kernel⟩
 | op hs _ _ =>
  rcases hs with rfl | rfl | rfl
  ·exact ⟨by show ¬ (("+" : Str) = "any"); decide +kernel, by show ¬ (("+" : Str) = "fold"); decide +kernel⟩
  ·exact ⟨by show ¬ (("-" : Str) = "any"); decide +kernel, by show ¬ (("-" : Str) = "fold"); decide +kernel⟩
  ·exact ⟨by show ¬ (("*" : Str) = "any"); decide +kernel, by show ¬ (("*" : Str) = "fold"); decide +kernel⟩
theorem ok_term_text {f : Addr} {fd : FuncData} (F : FnP K "term_text" s_term_text f fd) (C_sum_text : CalG P w K mg base 11 "sum_text" (spSumT K 5)) : FnG P w K mg base CX0 12 f fd ["term"] (spTx K TermE.d TermG termT) := by
 refine okG F sc_term_text (fun vs H Q E h => ?_) (fun cdv A outer s H vs Q E hr h => ?_)
 ·obtain ⟨v, a, rfl, _⟩ := h
  rfl
 obtain ⟨v, a, rfl, hv, ha, q⟩ := h
 refine ⟨_, PSs.nox (pss_one (ps_ret (pe_ifExp (pt_cmpR (kOp (K := K) (r := uEq) rfl (opu_eq hr.units)) (pe_ix (kIx (K := K) (r := rIx) rfl ix_seq) (pv 0) pe_int (fun _ _ => rfl)) pe_str (nomark _)) pe_str (pe_calG C_sum_text hr rfl (pa_cons (pv 0) pa_nil))))), rd_start (σ0 := [some v]) rfl ?_⟩
 cases ha with
 | any =>
  obtain ⟨p, x, rfl, hp, hx⟩ := Td.t1 (show Td K H v (.tuple [.str "any"]) from hv)
  cases hx.str_inv
  walk_at "q"
  exact q _ Fr.refl
 | @s e he =>
  have hv : Td K H v e.d := hv
  obtain ⟨p, xs, rfl, hp⟩ := td_head hv
  walk_at "q"
  refine g_ixT hp (atI_nat (j := 0) rfl) ?_
  walk_at "q"
  refine g_ff (decide_eq_false he.head_ne.1) ?_
  walk_at "q"
  exact ⟨_, e, 0, rfl, hv, he, by decide, by have := sum_deep he; omega, q⟩
theorem ok_atom_text {f : Addr} {fd : FuncData} (F : FnP K "atom_text" s_atom_text f fd) (C_term_text : CalG P w K mg base 12 "term_text" (spTx K TermE.d TermG termT)) : FnG P w K mg base CX0 13 f fd ["part"] (spTx K atomD atomG fun a => atomT a.2.1 a.2.2) := by
 refine okG F sc_atom_text (fun vs H Q E h => ?_) (fun cdv A outer s H vs Q E hr h => ?_)
 ·obtain ⟨v, a, rfl, _⟩ := h
  rfl
 obtain ⟨v, ⟨no, x, ts⟩, rfl, hv, ha, q⟩ := h
 obtain ⟨p, y1, y2, y3, rfl, hp, h1, h2, h3⟩ := Td.t3 (show Td K H v (.tuple [.str (if no then "not" else "atom"), .str x, .tuple (ts.map TermE.d)]) from hv)
 cases h1.str_inv
 cases h2.str_inv
 obtain ⟨r, us, rfl, hr3, ht⟩ := h3.tuple_inv
 obtain ⟨hx, hl, hts⟩ : Tx 44 x ∧ ts.length ≤ 4 ∧ ∀ t ∈ ts, TermG t := by
  cases ha with
  | atom a b c => exact ⟨a, b, c⟩
 refine ⟨_, PSs.nox (pss_cons (ps_asg (pv 0) (pg_tupK (K := K) rfl rfl (pgs_cons (pg_name (i := 1) sc_atom_text.nd rfl (by first | exact Or.inl rfl | exact Or.inr rfl)) (pgs_cons (pg_name (i := 2) sc_atom_text.nd rfl (by first | exact Or.inl rfl | exact Or.inr rfl)) (pgs_cons (pg_name (i := 3) sc_atom_text.nd rfl (by first | exact Or.inl rfl | exact Or.inr rfl)) pgs_nil)))))
 (pss_cons (ps_set (i := 4) sc_atom_text.nd rfl (.inl rfl) (kBM (K := K) rfl (pe_bm PySem.F.plainAttrs_str PySem.F.slot_str_join PySem.F.type_str_join (kMt (K := K) (r := rJoin) rfl mt_joinU) pe_str (pa_cons (pe_lc (own := [("term", 5)]) (g := gName 5) (tt := tYes) rfl sc_atom_text.nd (pi_tupK (K := K) rfl (pv 3)) (blkOk_by (own := [("term", 5)]) (N := ["part", "word", "name", "terms", "told", "term"]) (sc := defScope s_atom_text) (by decide +kernel)) (fun _ _ _ _ _ => (by exact (pg_name (i := 5) sc_atom_text.nd rfl (by first | exact Or.inl rfl | exact Or.inr rfl)))) (fun _ _ _ _ _ => pts_nil) (fun _ _ _ _ _ => (by exact (pe_calG C_term_text hr rfl (pa_cons (pv 5) pa_nil))))) pa_nil))))
 (pss_one (ps_ret (pe_fs (.cons (pe_fmt (pv 2)) (.cons pe_str (.cons (pe_fmt (pv 4)) (.cons pe_str .nil))))))))), rd_start (σ0 := [some (.ref p), none, none, none, none, none]) rfl ?_⟩
 walk_at "q"
 refine ⟨r, rfl, ⟨_, hr3⟩, fun D hD => lc_td (T := termT) (walk_tup (xs := us)) (fun H' e => e.tup hr3) rfl ht (by omega) hD (fun y c H' A hc hy e k => ?_) (fun H' e hD' => ?_)⟩
 ·walk_at "q"
  refine ⟨rfl, ?_⟩
  walk_at "q"
  exact ⟨y, c, rfl, hy, hts c hc, k⟩
 ·walk_at "q"
  refine ⟨_, D, ts.map termT, rfl, rfl, .inl (SqL.of hD'), join_fits (fun t ht => (hts t ht).tx) hl (by decide), ?_⟩
  have l1 := join_len (fun t ht => (hts t ht).tx) hl
  have l2 := hx.len
  repeat walk_at "fs"
  rw [show Str.empty ++ x = x from empty_app x]
  exact q _ e
theorem ok_part_text {f : Addr} {fd : FuncData} (F : FnP K "part_text" s_part_text f fd) (C_sum_text : CalG P w K mg base 11 "sum_text" (spSumT K 5)) (C_atom_text : CalG P w K mg base 13 "atom_text" (spTx K atomD atomG fun a => atomT a.2.1 a.2.2)) : FnG P w K mg base CX0 14 f fd ["part"] (spTx K PartE.d PartG partT) := by
 refine okG F sc_part_text (fun vs H Q E h => ?_) (fun cdv A outer s H vs Q E hr h => ?_)
 ·obtain ⟨v, a, rfl, _⟩ := h
  rfl
 obtain ⟨v, a, rfl, hv, ha, q⟩ := h
 refine ⟨_, PSs.nox (pss_cons (ps_if (pt_cmpR (kOp (K := K) (r := uEq) rfl (opu_eq hr.units)) (pe_ix (kIx (K := K) (r := rIx) rfl ix_seq) (pv 0) pe_int (fun _ _ => rfl)) pe_str (nomark _)) (pss_one (ps_ret (pe_calG C_atom_text hr rfl (pa_cons (pv 0) pa_nil)))) pss_nil)
 (pss_cons (ps_if (pt_cmpR (kOp (K := K) (r := uEq) rfl (opu_eq hr.units)) (pe_ix (kIx (K := K) (r := rIx) rfl ix_seq) (pv 0) pe_int (fun _ _ => rfl)) pe_str (nomark _)) (pss_one (ps_ret (pe_fs (.cons pe_str (.cons (pe_fmt (pe_calG C_atom_text hr rfl (pa_cons (pv 0) pa_nil))) .nil))))) pss_nil)
 (pss_cons (ps_if (pt_cmpR (kOp (K := K) (r := uEq) rfl (opu_eq hr.units)) (pe_ix (kIx (K := K) (r := rIx) rfl ix_seq) (pv 0) pe_int (fun _ _ => rfl)) pe_str (nomark _)) (pss_one (ps_ret (pe_fs (.cons (pe_fmt (pe_ix (kIx (K := K) (r := rIx) rfl ix_seq) (pv 0) pe_int (fun _ _ => rfl))) (.cons pe_str (.cons (pe_fmt (pe_calG C_sum_text hr rfl (pa_cons (pe_ix (kIx (K := K) (r := rIx) rfl ix_seq) (pv 0) pe_int (fun _ _ => rfl)) pa_nil))) .nil)))))) pss_nil)
 (pss_one (ps_ret (pe_fs (.cons (pe_fmt (pe_calG C_sum_text hr rfl (pa_cons (pe_ix (kIx (K := K) (r := rIx) rfl ix_seq) (pv 0) pe_int (fun _ _ => rfl)) pa_nil))) (.cons pe_str (.cons (pe_fmt (pe_ix (kIx (K := K) (r := rIx) rfl ix_seq) (pv 0) pe_int (fun _ _ => rfl))) (.cons pe_str (.cons (pe_fmt (pe_calG C_sum_text hr rfl (pa_cons (pe_ix (kIx (K := K) (r := rIx) rfl ix_seq) (pv 0) pe_int (fun _ _ => rfl)) pa_nil))) .nil))))))))))), rd_start (σ0 := [some v]) rfl ?_⟩
 cases ha with
 | @atom no x ts hx hl hts =>
  have hG : atomG (no, x, ts) := .atom hx hl hts
  have hA : Tx 218 (atomT x ts) := Tx.atom hx hl hts
  obtain ⟨p, y1, y2, y3, rfl, hp, h1, h2, h3⟩ := Td.t3 (show Td K H v (.tuple [.str (if no then "not" else "atom"), .str x, .tuple (ts.map TermE.d)]) from hv)
  cases h1.str_inv
  cases no with
  | false =>
   walk_at "q"
   exact ⟨_, (false, x, ts), rfl, hv, hG, q⟩
  | true =>
   repeat walk_at "fs"
   refine ⟨_, (true, x, ts), rfl, hv, hG, fun H1 e1 => ?_⟩
   have l1 := hA.len
   repeat walk_at "fs"
   exact q _ e1
 | @lt x e hx he =>
  obtain ⟨p, y1, y2, y3, rfl, hp, h1, h2, h3⟩ := Td.t3 (show Td K H v (.tuple [.str "let", .str x, e.d]) from hv)
  cases h1.str_inv
  cases h2.str_inv
  have l1 := hx.len
  have l2 := he.tx.len
  repeat walk_at "fs"
  refine ⟨_, e, 1, rfl, h3, he, by decide, by have := sum_deep he; omega, fun H1 e1 => ?_⟩
  repeat walk_at "fs"
  rw [show Str.empty ++ x = x from empty_app x]
  exact q _ e1
 | @test sg a b hs ha hb =>
  obtain ⟨p, y1, y2, y3, y4, rfl, hp, h1, h2, h3, h4⟩ := Td.t4 (show Td K H v (.tuple [.str "test", .str sg, a.d, b.d]) from hv)
  cases h1.str_inv
  cases h2.str_inv
  have l1 := hs.len
  have l2 := ha.tx.len
  have l3 := hb.tx.len
  repeat walk_at "fs"
  refine ⟨_, a, 1, rfl, h3, ha, by decide, by have := sum_deep ha; omega, fun H1 e1 => ?_⟩
  have hp1 := e1.tup hp
  repeat walk_at "fs"
  refine ⟨_, b, 1, rfl, h4.fr e1, hb, by decide, by have := sum_deep hb; omega, fun H2 e2 => ?_⟩
  repeat walk_at "fs"
  rw [show Str.empty ++ sumT a = sumT a from empty_app _]
  exact q _ (e1.trans e2)
theorem ok_arg_text {f : Addr} {fd : FuncData} (F : FnP K "arg_text" s_arg_text f fd) (C_sum_text : CalG P w K mg base 11 "sum_text" (spSumT K 5)) : FnG P w K mg base CX0 14 f fd ["arg"] (spTx K ArgE.d ArgG argT) := by
 refine okG F sc_arg_text (fun vs H Q E h => ?_) (fun cdv A outer s H vs Q E hr h => ?_)
 ·obtain ⟨v, a, rfl, _⟩ := h
  rfl
 obtain ⟨v, a, rfl, hv, ha, q⟩ := h
 refine ⟨_, PSs.nox (pss_cons (ps_if (pt_cmpR (kOp (K := K) (r := uNe) rfl (opu_ne hr.units)) (pe_ix (kIx (K := K) (r := rIx) rfl ix_seq) (pv 0) pe_int (fun _ _ => rfl)) pe_str (nomark _)) (pss_one (ps_ret (pe_calG C_sum_text hr rfl (pa_cons (pv 0) pa_nil)))) pss_nil)
 (pss_one (ps_ret (pe_ifExp (pt_cmpR opu_is (pe_ix (kIx (K := K) (r := rIx) rfl ix_seq) (pv 0) pe_int (fun _ _ => rfl)) pe_non (nomark _)) (pe_ix (kIx (K := K) (r := rIx) rfl ix_seq) (pv 0) pe_int (fun _ _ => rfl)) (pe_fs (.cons (pe_fmt (pe_ix (kIx (K := K) (r := rIx) rfl ix_seq) (pv 0) pe_int (fun _ _ => rfl))) (.cons pe_str (.cons (pe_fmt (pe_ix (kIx (K := K) (r := rIx) rfl ix_seq) (pv 0) pe_int (fun _ _ => rfl))) .nil)))))))), rd_start (σ0 := [some v]) rfl ?_⟩
 cases ha with
 | @s e he =>
  have hv : Td K H v e.d := hv
  obtain ⟨p, xs, rfl, hp⟩ := td_head hv
  walk_at "q"
  refine g_ixT hp (atI_nat (j := 0) rfl) ?_
  walk_at "q"
  refine g_tt (by rw [decide_eq_false he.head_ne.2]; rfl) ?_
  walk_at "q"
  exact ⟨_, e, 0, rfl, hv, he, by decide, by have := sum_deep he; omega, q⟩
 | @fold0 x hx =>
  obtain ⟨p, y1, y2, y3, rfl, hp, h1, h2, h3⟩ := Td.t3 (show Td K H v (.tuple [.str "fold", .str x, .none]) from hv)
  cases h1.str_inv
  cases h2.str_inv
  cases h3.non_inv
  walk_at "q"
  exact q _ Fr.refl
 | @fold x y hx hy =>
  obtain ⟨p, y1, y2, y3, rfl, hp, h1, h2, h3⟩ := Td.t3 (show Td K H v (.tuple [.str "fold", .str x, .str y]) from hv)
  cases h1.str_inv
  cases h2.str_inv
  cases h3.str_inv
  have l1 := hx.len
  have l2 := hy.len
  walk_at "q"
  refine g_ff (decide_eq_false (fun z => nomatch z)) ?_
  repeat walk_at "fs"
  rw [show Str.empty ++ x = x from empty_app x]
  exact q _ Fr.refl
theorem ok_args_text {f : Addr} {fd : FuncData} (F : FnP K "args_text" s_args_text f fd) (C_arg_text : CalG P w K mg base 14 "arg_text" (spTx K ArgE.d ArgG argT)) : FnG P w K mg base CX0 15 f fd ["args"] (spTx K argsD argsG argsT) := by
 refine okG F sc_args_text (fun vs H Q E h => ?_) (fun cdv A outer s H vs Q E hr h => ?_)
 ·obtain ⟨v, a, rfl, _⟩ := h
  rfl
 obtain ⟨v, as, rfl, hv, ha, q⟩ := h
 obtain ⟨r, us, rfl, hr3, ht⟩ := Td.tuple_inv (show Td K H v (.tuple (as.map ArgE.d)) from hv)
 refine ⟨_, PSs.nox (pss_one (ps_ret (kBM (K := K) rfl (pe_bm PySem.F.plainAttrs_str PySem.F.slot_str_join PySem.F.type_str_join (kMt (K := K) (r := rJoin) rfl mt_joinU) pe_str (pa_cons (pe_lc (own := [("arg", 1)]) (g := gName 1) (tt := tYes) rfl sc_args_text.nd (pi_tupK (K := K) rfl (pv 0)) (blkOk_by (own := [("arg", 1)]) (N := ["args", "arg"]) (sc := defScope s_args_text) (by decide +kernel)) (fun _ _ _ _ _ => (by exact (pg_name (i := 1) sc_args_text.nd rfl (by first | exact Or.inl rfl | exact Or.inr rfl)))) (fun _ _ _ _ _ => pts_nil) (fun _ _ _ _ _ => (by exact (pe_calG C_arg_text hr rfl (pa_cons (pv 1) pa_nil))))) pa_nil))))), rd_start (σ0 := [some (.ref r), none]) rfl ?_⟩
 walk_at "q"
 refine ⟨r, rfl, ⟨_, hr3⟩, fun D hD => lc_td (T := argT) (walk_tup (xs := us)) (fun H' e => e.tup hr3) rfl ht (by have := ha.1; omega) hD (fun y c H' A hc hy e k => ?_) (fun H' e hD' => ?_)⟩
 ·walk_at "q"
  refine ⟨rfl, ?_⟩
  walk_at "q"
  exact ⟨y, c, rfl, hy, ha.2 c hc, k⟩
 ·walk_at "q"
  refine ⟨_, D, as.map argT, rfl, rfl, .inl (SqL.of hD'), join_fits (fun t ht => (ha.2 t ht).tx) ha.1 (by decide), ?_⟩
  exact q _ e
theorem ok_parts_text {f : Addr} {fd : FuncData} (F : FnP K "parts_text" s_parts_text f fd) (C_part_text : CalG P w K mg base 14 "part_text" (spTx K PartE.d PartG partT)) : FnG P w K mg base CX0 15 f fd ["parts"] (spTx K partsD partsG partsT) := by
 refine okG F sc_parts_text (fun vs H Q E h => ?_) (fun cdv A outer s H vs Q E hr h => ?_)
 ·obtain ⟨v, a, rfl, _⟩ := h
  rfl
 obtain ⟨v, as, rfl, hv, ha, q⟩ := h
 obtain ⟨r, us, rfl, hr3, ht⟩ := Td.tuple_inv (show Td K H v (.tuple (as.map PartE.d)) from hv)
 refine ⟨_, PSs.nox (pss_one (ps_ret (kBM (K := K) rfl (pe_bm PySem.F.plainAttrs_str PySem.F.slot_str_join PySem.F.type_str_join (kMt (K := K) (r := rJoin) rfl mt_joinU) pe_str (pa_cons (pe_lc (own := [("part", 1)]) (g := gName 1) (tt := tYes) rfl sc_parts_text.nd (pi_tupK (K := K) rfl (pv 0)) (blkOk_by (own := [("part", 1)]) (N := ["parts", "part"]) (sc := defScope s_parts_text) (by decide +kernel)) (fun _ _ _ _ _ => (by exact (pg_name (i := 1) sc_parts_text.nd rfl (by first | exact Or.inl rfl | exact Or.inr rfl)))) (fun _ _ _ _ _ => pts_nil) (fun _ _ _ _ _ => (by exact (pe_calG C_part_text hr rfl (pa_cons (pv 1) pa_nil))))) pa_nil))))), rd_start (σ0 := [some (.ref r), none]) rfl ?_⟩
 walk_at "q"
 refine ⟨r, rfl, ⟨_, hr3⟩, fun D hD => lc_td (T := partT) (walk_tup (xs := us)) (fun H' e => e.tup hr3) rfl ht (by have := ha.1; omega) hD (fun y c H' A hc hy e k => ?_) (fun H' e hD' => ?_)⟩
 ·walk_at "q"
  refine ⟨rfl, ?_⟩
  walk_at "q"
  exact ⟨y, c, rfl, hy, ha.2 c hc, k⟩
 ·walk_at "q"
  refine ⟨_, D, as.map partT, rfl, rfl, .inl (SqL.of hD'), join_fits (fun t ht => (ha.2 t ht).tx) ha.1 (by decide), ?_⟩
  exact q _ e
theorem ok_question_text {f : Addr} {fd : FuncData} (F : FnP K "question_text" s_question_text f fd) (C_parts_text : CalG P w K mg base 15 "parts_text" (spTx K partsD partsG partsT)) (C_args_text : CalG P w K mg base 15 "args_text" (spTx K argsD argsG argsT)) :
  FnG P w K mg base CX0 16 f fd ["question"] (spTx K questD questG fun r => questT r.1 r.2) := by
 refine okG F sc_question_text (fun vs H Q E h => ?_) (fun cdv A outer s H vs Q E hr h => ?_)
 ·obtain ⟨v, a, rfl, _⟩ := h
  rfl
 obtain ⟨v, ⟨as, ps⟩, rfl, hv, ha, q⟩ := h
 obtain ⟨p, y1, y2, rfl, hp, h1, h2⟩ := Td.t2 (show Td K H v (.tuple [argsD as, partsD ps]) from hv)
 refine ⟨_, PSs.nox (pss_cons (ps_asg (pv 0) (pg_tupK (K := K) rfl rfl (pgs_cons (pg_name (i := 1) sc_question_text.nd rfl (by first | exact Or.inl rfl | exact Or.inr rfl)) (pgs_cons (pg_name (i := 2) sc_question_text.nd rfl (by first | exact Or.inl rfl | exact Or.inr rfl)) pgs_nil))))
 (pss_one (ps_ret (pe_fs (.cons (pe_fmt (pe_calG C_args_text hr rfl (pa_cons (pv 1) pa_nil))) (.cons pe_str (.cons (pe_fmt (pe_calG C_parts_text hr rfl (pa_cons (pv 2) pa_nil))) .nil))))))), rd_start (σ0 := [some (.ref p), none, none]) rfl ?_⟩
 have l1 : (argsT as).length ≤ 344 := ha.1.tx.len
 have l2 : (partsT ps).length ≤ 1936 := ha.2.tx.len
 repeat walk_at "fs"
 refine ⟨y1, as, rfl, h1, ha.1, fun H1 e1 => ?_⟩
 repeat walk_at "fs"
 refine ⟨y2, ps, rfl, h2.fr e1, ha.2, fun H2 e2 => ?_⟩
 repeat walk_at "fs"
 rw [show Str.empty ++ argsT as = argsT as from empty_app _]
 exact q _ (e1.trans e2)
theorem ok_rule_text {f : Addr} {fd : FuncData} (F : FnP K "rule_text" s_rule_text f fd) (C_parts_text : CalG P w K mg base 15 "parts_text" (spTx K partsD partsG partsT)) (C_args_text : CalG P w K mg base 15 "args_text" (spTx K argsD argsG argsT)) :
  FnG P w K mg base CX0 16 f fd ["rule"] (spTx K ruleD ruleG fun r => ruleT r.1 r.2.1 r.2.2) := by
 refine okG F sc_rule_text (fun vs H Q E h => ?_) (fun cdv A outer s H vs Q E hr h => ?_)
 ·obtain ⟨v, a, rfl, _⟩ := h
  rfl
 obtain ⟨v, ⟨hd, as, ps⟩, rfl, hv, ⟨ha1, ha2, ha3⟩, q⟩ := h
 obtain ⟨p, y1, y2, y3, rfl, hp, h1, h2, h3⟩ := Td.t3 (show Td K H v (.tuple [.str hd, argsD as, partsD ps]) from hv)
 cases h1.str_inv
 obtain ⟨r, us, rfl, hr3, ht⟩ := Td.tuple_inv (show Td K H y3 (.tuple (ps.map PartE.d)) from h3)
 refine ⟨_, PSs.nox (pss_cons (ps_asg (pv 0) (pg_tupK (K := K) rfl rfl (pgs_cons (pg_name (i := 1) sc_rule_text.nd rfl (by first | exact Or.inl rfl | exact Or.inr rfl)) (pgs_cons (pg_name (i := 2) sc_rule_text.nd rfl (by first | exact Or.inl rfl | exact Or.inr rfl)) (pgs_cons (pg_name (i := 3) sc_rule_text.nd rfl (by first | exact Or.inl rfl | exact Or.inr rfl)) pgs_nil)))))
 (pss_cons (ps_set (i := 4) sc_rule_text.nd rfl (.inl rfl) (pe_fs (.cons (pe_fmt (pv 1)) (.cons pe_str (.cons (pe_fmt (pe_calG C_args_text hr rfl (pa_cons (pv 2) pa_nil))) (.cons pe_str .nil))))))
 (pss_one (ps_ret (pe_ifExp (pt_cmpR (kOp (K := K) (r := uEq) rfl (opu_eq hr.units)) (pv 3) (pe_tup pa_nil) (nomark _)) (pv 4) (pe_fs (.cons (pe_fmt (pv 4)) (.cons pe_str (.cons (pe_fmt (pe_calG C_parts_text hr rfl (pa_cons (pv 3) pa_nil))) .nil))))))))), rd_start (σ0 := [some (.ref p), none, none, none, none]) rfl ?_⟩
 have l0 : hd.length ≤ 12 := ha1.len
 have l1 : (argsT as).length ≤ 344 := ha2.tx.len
 have l2 : (partsT ps).length ≤ 1936 := ha3.tx.len
 repeat walk_at "fs"
 refine ⟨y2, as, rfl, h2, ha2, fun H1 e1 => ?_⟩
 repeat walk_at "fs"
 refine ⟨le_of (by decide), fun p2 hp2 => ?_⟩
 have e2 : Fr [] H1 (upd H1 p2 (.tup [])) := Fr.new hp2
 have hp2' : (upd H1 p2 (.tup [])) p2 = some (.tup []) := upd_same
 generalize upd H1 p2 (.tup []) = H2 at *
 refine g_eqET ((e1.trans e2).tup hr3) (SqT.of hp2') ?_
 have en : decide (us = []) = decide (ps = []) := by
  have := (tda_get ht).1
  cases us with
  | nil => cases ps with
   | nil => rfl
   | cons => simp at this
  | cons => cases ps with
   | nil => simp at this
   | cons => rfl
 rw [en]
 repeat walk_at "fs"
 rw [show Str.empty ++ hd = hd from empty_app _]
 refine g_by (fun c => ?_) (fun c => ?_)
 ·walk_at "q"
  have z : Q (.str (ruleT hd as ps)) H2 := q _ (e1.trans e2)
  unfold ruleT at z
  rw [if_pos c] at z
  exact z
 ·repeat walk_at "fs"
  refine ⟨_, ps, rfl, h3.fr (e1.trans e2), ha3, fun H3 e3 => ?_⟩
  repeat walk_at "fs"
  rw [show ∀ a : Str, Str.empty ++ a = a from empty_app]
  have z : Q (.str (ruleT hd as ps)) H3 := q _ ((e1.trans e2).trans e3)
  unfold ruleT at z
  rw [if_neg c] at z
  exact z
end
abbrev s__law_value_text : Stmt := topS 69
theorem sc__law_value_text : FnScope ["_law_value_here"] ["_law_value_here"] (defScope s__law_value_text) := ⟨rfl, rfl, rfl, by decide +kernel, rfl, by decide +kernel, by decide +kernel⟩
abbrev s__law_close : Stmt := topS 70
theorem sc__law_close : FnScope ["_law_thing"] ["_law_thing"] (defScope s__law_close) := ⟨rfl, rfl, rfl, by decide +kernel, rfl, by decide +kernel, by decide +kernel⟩
abbrev s__law_within : Stmt := topS 71
theorem sc__law_within : FnScope ["_law_thing", "_law_least_close", "_law_text"] ["_law_thing", "_law_least_close"] (defScope s__law_within) := ⟨rfl, rfl, rfl, by decide +kernel, rfl, by decide +kernel, by decide +kernel⟩
abbrev s__law_sum_text : Stmt := topS 72
theorem sc__law_sum_text : FnScope ["_law_thing", "_law_close_by"] ["_law_thing"] (defScope s__law_sum_text) := ⟨rfl, rfl, rfl, by decide +kernel, rfl, by decide +kernel, by decide +kernel⟩
abbrev s__law_term_text : Stmt := topS 73
theorem sc__law_term_text : FnScope ["_law_term"] ["_law_term"] (defScope s__law_term_text) := ⟨rfl, rfl, rfl, by decide +kernel, rfl, by decide +kernel, by decide +kernel⟩
abbrev s__law_part_text : Stmt := topS 74
theorem sc__law_part_text : FnScope ["_law_part", "_law_text", "_law_term"] ["_law_part"] (defScope s__law_part_text) := ⟨rfl, rfl, rfl, by decide +kernel, rfl, by decide +kernel, by decide +kernel⟩
abbrev s__law_arg_text : Stmt := topS 75
theorem sc__law_arg_text : FnScope ["_law_arg"] ["_law_arg"] (defScope s__law_arg_text) := ⟨rfl, rfl, rfl, by decide +kernel, rfl, by decide +kernel, by decide +kernel⟩
abbrev s__law_listed : Stmt := topS 76
theorem sc__law_listed : FnScope ["_law_things", "_law_parts", "_law_thing"] ["_law_things", "_law_parts"] (defScope s__law_listed) := ⟨rfl, rfl, rfl, by decide +kernel, rfl, by decide +kernel, by decide +kernel⟩
def closeKvs : List (Key × V) := [(Sum.inr "+", .int 1), (Sum.inr "-", .int 1), (Sum.inr "*", .int 2)]
theorem close_merge : mergeK [] closeKvs = closeKvs := mergeK_nd (acc := []) (by
 show ([(Sum.inr "+" : Key), Sum.inr "-", Sum.inr "*"]).Nodup
 decide +kernel)
theorem close_at {m : Nat} {e : SumE} (h : SumG m e) : (valV closeKvs (Sum.inr (headE e))).getD (.int 3) = .int (tightE e) := by
 have n1 : ∀ x y : Str, ¬ x = y → ¬ ((Sum.inr x : Key) = Sum.inr y) := fun x y h e => h (Sum.inr.inj e)
 cases h with
 | val =>
  have : valV closeKvs (Sum.inr ("value" : Str)) = none := valV_out fun h => by
   have h2 : (Sum.inr "value" : Key) ∈ [(Sum.inr "+" : Key), Sum.inr "-", Sum.inr "*"] := h
   simp only [List.mem_cons, List.not_mem_nil, or_false] at h2
   rcases h2 with h2 | h2 | h2
   ·exact absurd (Sum.inr.inj h2) (by decide +kernel)
   ·exact absurd (Sum.inr.inj h2) (by decide +kernel)
   ·exact absurd (Sum.inr.inj h2) (by decide +kernel)
  rw [show headE (.val _) = "value" from rfl, this]; rfl
 | var =>
  have : valV closeKvs (Sum.inr ("var" : Str)) = none := valV_out fun h => by
   have h2 : (Sum.inr "var" : Key) ∈ [(Sum.inr "+" : Key), Sum.inr "-", Sum.inr "*"] := h
   simp only [List.mem_cons, List.not_mem_nil, or_false] at h2
   rcases h2 with h2 | h2 | h2
   ·exact absurd (Sum.inr.inj h2) (by decide +kernel)
   ·exact absurd (Sum.inr.inj h2) (by decide +kernel)
   ·exact absurd (Sum.inr.inj h2) (by decide +kernel)
  rw [show headE (.var _) = "var" from rfl, this]; rfl
 | op hs _ _ =>
  unfold closeKvs
  rcases hs with rfl | rfl | rfl
  ·show (valV _ (Sum.inr ("+" : Str))).getD _ = _
   rw [valV_pos rfl]; rfl
  ·show (valV _ (Sum.inr ("-" : Str))).getD _ = _
   rw [valV_neg (n1 _ _ (by decide +kernel)), valV_pos rfl]; rfl
  ·show (valV _ (Sum.inr ("*" : Str))).getD _ = _
   rw [valV_neg (n1 _ _ (by decide +kernel)), valV_neg (n1 _ _ (by decide +kernel)), valV_pos rfl]; rfl
def spListed (K : PySem.W.Frag) : Sp := fun vs H Q _ => (∃ v as, vs = [v, .bl false] ∧ Td K H v (argsD as) ∧ argsG as ∧ ∀ H', Fr [] H H' → Q (.str (argsT as)) H') ∨
 ∃ v ps, vs = [v, .bl true] ∧ Td K H v (partsD ps) ∧ partsG ps ∧ ∀ H', Fr [] H H' → Q (.str (partsT ps)) H'
section
variable {P : Program} {w : World} {K : PySem.W.Frag} {mg : Str → Option Value} {base : Heap}
def spValTL : Sp := fun vs H Q _ => ∃ u, vs = [u] ∧ ValG u ∧ ∀ H', Fr [] H H' → Q (.str (valT u)) H'
theorem ok__law_value_text {f : Addr} {fd : FuncData} (F : FnP K "_law_value_text" s__law_value_text f fd) (B : BiT mg) : FnG P w K mg base CX0 1 f fd ["_law_value_here"] spValTL := by
 refine okG F sc__law_value_text (fun vs H Q E h => ?_) (fun cdv A outer s H vs Q E hr h => ?_)
 ·obtain ⟨u, rfl, _⟩ := h
  rfl
 obtain ⟨u, rfl, hu, q⟩ := h
 refine ⟨_, PSs.nox (pss_cons (ps_if (pt_val (pe_callB (kCall (K := K) (r := uIsi) rfl callu_isi) (by rfl) B.b_isinstance (by decide +kernel) (pa_cons (pv 0) (pa_cons (pe_bltn (v := .ty "bool") (by rfl) B.b_bool (by decide +kernel) rfl) pa_nil)))) (pss_one (ps_ret (pe_ix (kIx (K := K) (r := rIx) rfl ix_seq) (pe_lst (pa_cons pe_str (pa_cons pe_str pa_nil))) (pe_callTy callu_int (by rfl) B.b_int (by decide +kernel) (pa_cons (pv 0) pa_nil)) (fun _ _ => rfl)))) pss_nil)
 (pss_one (ps_ret (pe_ifExp (pt_val (pe_callB (kCall (K := K) (r := uIsi) rfl callu_isi) (by rfl) B.b_isinstance (by decide +kernel) (pa_cons (pv 0) (pa_cons (pe_bltn (v := .ty "int") (by rfl) B.b_int (by decide +kernel) rfl) pa_nil)))) (pe_callTy callu_str (by rfl) B.b_str (by decide +kernel) (pa_cons (pv 0) pa_nil)) (pe_op (kOp (K := K) (r := uAdd) rfl opu_add) (pe_op (kOp (K := K) (r := uAdd) rfl opu_add) pe_str (pv 0)) pe_str))))), rd_start (σ0 := [some u]) rfl ?_⟩
 walk_at "q"
 rcases hu with ⟨i, rfl, hi⟩ | ⟨b, rfl⟩ | ⟨x, rfl, hx⟩
 ·refine g_isi (.base (.int i)) (b := false) (by decide +kernel) ?_
  walk_at "q"
  refine g_isi (.base (.int i)) (b := true) (by decide +kernel) ?_
  walk_at "q"
  refine g_strI (log1920 hi) ?_
  exact q _ Fr.refl
 ·refine g_isi (.base (.bl b)) (b := true) (by decide +kernel) ?_
  walk_at "q"
  refine ⟨le_of (by simp), fun p hp => ?_⟩
  have e1 : Fr [] H (upd H p (.lst [V.str "no", .str "yes"])) := Fr.new hp
  have h1 : (upd H p (.lst [V.str "no", .str "yes"])) p = some (.lst [.str "no", .str "yes"]) := upd_same
  generalize upd H p (.lst [V.str "no", .str "yes"]) = H1 at *
  walk_at "q"
  refine g_intB ?_
  cases b with
  | true => exact g_ixL (SqL.of h1) (v := .str "yes") rfl (q _ e1)
  | false => exact g_ixL (SqL.of h1) (v := .str "no") rfl (q _ e1)
 ·refine g_isi (.base (.str x)) (b := false) (by decide +kernel) ?_
  walk_at "q"
  refine g_isi (.base (.str x)) (b := false) (by decide +kernel) ?_
  have hl := hx.len
  repeat walk_at "fs"
  exact q _ Fr.refl
theorem ok__law_close {f : Addr} {fd : FuncData} (F : FnP K "_law_close" s__law_close f fd) : FnG P w K mg base CX0 1 f fd ["_law_thing"] (spTight K) := by
 refine okG F sc__law_close (fun vs H Q E h => ?_) (fun cdv A outer s H vs Q E hr h => ?_)
 ·obtain ⟨v, e, m, rfl, _⟩ := h
  rfl
 obtain ⟨v, e, m, rfl, hv, he, q⟩ := h
 have hu := hu_of hr.rm
 refine ⟨_, PSs.nox (pss_one (ps_ret (pe_dget2 hu (pe_disp (pps_cons pe_str pe_int (pps_cons pe_str pe_int (pps_cons pe_str pe_int pps_nil))) (by rfl) (by rfl) (fun z => by cases z) (by decide)) (pe_ix (kIx (K := K) (r := rIx) rfl ix_seq) (pv 0) pe_int (fun _ _ => rfl)) pe_int ⟨rfl, rfl, rfl, rfl⟩))), rd_start (σ0 := [some v]) rfl ?_⟩
 obtain ⟨p, xs, rfl, hp⟩ := td_head hv
 walk_at "q"
 refine g_dget2 (g_disp fun p2 hp2 => ?_)
 walk_at "q"
 refine ⟨upd_same, closeKvs, rfl, (show 3 ≤ 15 by decide), ?_⟩
 rw [close_merge, upd_upd]
 have e1 : Fr [] H (upd H p2 (.dK closeKvs)) := Fr.new hp2
 have h2 : (upd H p2 (.dK closeKvs)) p2 = some (.dK closeKvs) := upd_same
 generalize upd H p2 (.dK closeKvs) = H1 at *
 refine ⟨p2, rfl, .inl ⟨_, .inl h2⟩, ?_⟩
 walk_at "q"
 refine g_ixT (e1.tup hp) (atI_nat (j := 0) rfl) ?_
 walk_at "q"
 have g := DGet.k (k := (Sum.inr (headE e) : Key)) h2
 refine ⟨_, g, ?_⟩
 rw [close_at he]
 exact q _ e1
theorem ok__law_within {n k : Nat} {f : Addr} {fd : FuncData} (F : FnP K "_law_within" s__law_within f fd) (C__law_sum_text : CalG P w K mg base k "_law_sum_text" (spSumT K n)) (C__law_close : CalG P w K mg base 1 "_law_close" (spTight K)) (hk : 1 ≤ k) : FnG P w K mg base CX0 (k + 1) f fd ["_law_thing", "_law_least_close"] (spWrap K n) := by
 refine okG F sc__law_within (fun vs H Q E h => ?_) (fun cdv A outer s H vs Q E hr h => ?_)
 ·obtain ⟨v, e, m, j, rfl, _⟩ := h
  rfl
 obtain ⟨v, e, m, j, rfl, hv, he, hm, hn, q⟩ := h
 have hu := hu_of hr.rm
 refine ⟨_, PSs.nox (pss_cons (ps_set (i := 2) sc__law_within.nd rfl (.inl rfl) (pe_calG C__law_sum_text hr rfl (pa_cons (pv 0) pa_nil)))
 (pss_one (ps_ret (pe_ifExp (pt_cmpR (kOp (K := K) (r := uLt) rfl opu_lt) (pe_calG C__law_close hr rfl (pa_cons (pv 0) pa_nil)) (pv 1) (nomark _)) (pe_op (kOp (K := K) (r := uAdd) rfl opu_add) (pe_op (kOp (K := K) (r := uAdd) rfl opu_add) pe_str (pv 2)) pe_str) (pv 2))))), rd_start (σ0 := [some v, some (.int j), none]) rfl ?_⟩
 walk_at "q"
 refine ⟨v, e, m, rfl, hv, he, hm, hn, fun H1 e1 => ?_⟩
 walk_at "q"
 refine ⟨v, e, m, rfl, hv.fr e1, he, fun H2 e2 => ?_⟩
 walk_at "q"
 have hl := (he.tx4 hm).len
 refine g_by (fun c => ?_) (fun c => ?_)
 ·repeat walk_at "fs"
  have z := q _ (e1.trans e2)
  unfold wrapS at z
  rw [if_pos (by omega)] at z
  exact z
 ·walk_at "q"
  have z := q _ (e1.trans e2)
  unfold wrapS at z
  rw [if_neg (by omega)] at z
  exact z
theorem ok__law_sum_text {n k : Nat} {f : Addr} {fd : FuncData} (F : FnP K "_law_sum_text" s__law_sum_text f fd) (C__law_value_text : CalG P w K mg base 1 "_law_value_text" spValTL) (C__law_close : CalG P w K mg base 1 "_law_close" (spTight K)) (C__law_within : CalG P w K mg base k "_law_within" (spWrap K n)) (hk : 1 ≤ k) :
  FnG P w K mg base CX0 (k + 1) f fd ["_law_thing"] (spSumT K (n + 1)) := by
 refine okG F sc__law_sum_text (fun vs H Q E h => ?_) (fun cdv A outer s H vs Q E hr h => ?_)
 ·obtain ⟨v, e, m, rfl, _⟩ := h
  rfl
 obtain ⟨v, e, m, rfl, hv, he, hm, hn, q⟩ := h
 have hu := hu_of hr.rm
 refine ⟨_, PSs.nox (pss_cons (ps_if (pt_cmpR (kOp (K := K) (r := uEq) rfl (opu_eq hr.units)) (pe_ix (kIx (K := K) (r := rIx) rfl ix_seq) (pv 0) pe_int (fun _ _ => rfl)) pe_str (nomark _)) (pss_one (ps_ret (pe_calG C__law_value_text hr rfl (pa_cons (pe_ix (kIx (K := K) (r := rIx) rfl ix_seq) (pv 0) pe_int (fun _ _ => rfl)) pa_nil)))) pss_nil)
 (pss_cons (ps_if (pt_cmpR (kOp (K := K) (r := uEq) rfl (opu_eq hr.units)) (pe_ix (kIx (K := K) (r := rIx) rfl ix_seq) (pv 0) pe_int (fun _ _ => rfl)) pe_str (nomark _)) (pss_one (ps_ret (pe_ix (kIx (K := K) (r := rIx) rfl ix_seq) (pv 0) pe_int (fun _ _ => rfl)))) pss_nil)
 (pss_cons (ps_set (i := 1) sc__law_sum_text.nd rfl (.inl rfl) (pe_calG C__law_close hr rfl (pa_cons (pv 0) pa_nil)))
 (pss_one (ps_ret (pe_op (kOp (K := K) (r := uAdd) rfl opu_add) (pe_op (kOp (K := K) (r := uAdd) rfl opu_add) (pe_op (kOp (K := K) (r := uAdd) rfl opu_add) (pe_op (kOp (K := K) (r := uAdd) rfl opu_add) (pe_calG C__law_within hr rfl (pa_cons (pe_ix (kIx (K := K) (r := rIx) rfl ix_seq) (pv 0) pe_int (fun _ _ => rfl)) (pa_cons (pv 1) pa_nil))) pe_str) (pe_ix (kIx (K := K) (r := rIx) rfl ix_seq) (pv 0) pe_int (fun _ _ => rfl))) pe_str) (pe_calG C__law_within hr rfl (pa_cons (pe_ix (kIx (K := K) (r := rIx) rfl ix_seq) (pv 0) pe_int (fun _ _ => rfl)) (pa_cons (pe_op (kOp (K := K) (r := uAdd) rfl opu_add) (pv 1) pe_int) pa_nil))))))))), rd_start (σ0 := [some v, none]) rfl ?_⟩
 cases he with
 | @val m u hu =>
  obtain ⟨p, rfl, hp⟩ := td_val hu hv
  walk_at "q"
  exact ⟨u, rfl, hu, q⟩
 | @var m x hx =>
  obtain ⟨p, x', y, rfl, hp, hx', hy⟩ := Td.t2 (show Td K H v (.tuple [.str "var", .str x]) from hv)
  cases hx'.str_inv
  cases hy.str_inv
  walk_at "q"
  exact q _ Fr.refl
 | @op m s a b hs ha hb =>
  obtain ⟨p, x, y, z, rfl, hp, hx, hy, hz⟩ := Td.t3 (show Td K H v (.tuple [.str s, a.d, b.d]) from hv)
  cases hx.str_inv
  have hdeep : max a.deep b.deep + 1 < n + 1 := hn
  walk_at "q"
  refine g_ff (decide_eq_false (sg_ne hs).1) ?_
  walk_at "q"
  refine g_ff (decide_eq_false (sg_ne hs).2) ?_
  walk_at "q"
  refine ⟨_, _, m + 1, rfl, hv, .op hs ha hb, fun H0 f0 => ?_⟩
  have hp0 := f0.tup hp
  have hy0 := hy.fr f0
  have hz0 := hz.fr f0
  walk_at "q"
  refine ⟨y, a, m, _, rfl, hy0, ha, by omega, by omega, fun H1 f1 => ?_⟩
  have l1 := (ha.tx4 (by omega)).wrap (k := tightE (.op s a b)) (e := a) |>.len
  have l2 := (hb.tx4 (by omega)).wrap (k := tightE (.op s a b) + 1) (e := b) |>.len
  have l3 := hs.tx.len
  have hp1 := f1.tup hp0
  have e1 : (((tightE (.op s a b) : Nat) : Int) + 1) = ((tightE (.op s a b) + 1 : Nat) : Int) := rfl
  repeat walk_at "fs"
  refine ⟨z, b, m, _, rfl, hz0.fr f1, hb, by omega, by omega, fun H2 f2 => ?_⟩
  repeat walk_at "fs"
  exact q _ ((f0.trans f1).trans f2)
theorem ok__law_term_text {f : Addr} {fd : FuncData} (F : FnP K "_law_term_text" s__law_term_text f fd) (C__law_sum_text : CalG P w K mg base 11 "_law_sum_text" (spSumT K 5)) : FnG P w K mg base CX0 12 f fd ["_law_term"] (spTx K TermE.d TermG termT) := by
 refine okG F sc__law_term_text (fun vs H Q E h => ?_) (fun cdv A outer s H vs Q E hr h => ?_)
 ·obtain ⟨v, a, rfl, _⟩ := h
  rfl
 obtain ⟨v, a, rfl, hv, ha, q⟩ := h
 refine ⟨_, PSs.nox (pss_one (ps_ret (pe_ifExp (pt_cmpR (kOp (K := K) (r := uEq) rfl (opu_eq hr.units)) (pe_ix (kIx (K := K) (r := rIx) rfl ix_seq) (pv 0) pe_int (fun _ _ => rfl)) pe_str (nomark _)) pe_str (pe_calG C__law_sum_text hr rfl (pa_cons (pv 0) pa_nil))))), rd_start (σ0 := [some v]) rfl ?_⟩
 cases ha with
 | any =>
  obtain ⟨p, x, rfl, hp, hx⟩ := Td.t1 (show Td K H v (.tuple [.str "any"]) from hv)
  cases hx.str_inv
  walk_at "q"
  exact q _ Fr.refl
 | @s e he =>
  have hv : Td K H v e.d := hv
  obtain ⟨p, xs, rfl, hp⟩ := td_head hv
  walk_at "q"
  refine g_ixT hp (atI_nat (j := 0) rfl) ?_
  walk_at "q"
  refine g_ff (decide_eq_false he.head_ne.1) ?_
  walk_at "q"
  exact ⟨_, e, 0, rfl, hv, he, by decide, by have := sum_deep he; omega, q⟩
theorem ok__law_arg_text {f : Addr} {fd : FuncData} (F : FnP K "_law_arg_text" s__law_arg_text f fd) (C__law_sum_text : CalG P w K mg base 11 "_law_sum_text" (spSumT K 5)) : FnG P w K mg base CX0 14 f fd ["_law_arg"] (spTx K ArgE.d ArgG argT) := by
 refine okG F sc__law_arg_text (fun vs H Q E h => ?_) (fun cdv A outer s H vs Q E hr h => ?_)
 ·obtain ⟨v, a, rfl, _⟩ := h
  rfl
 obtain ⟨v, a, rfl, hv, ha, q⟩ := h
 refine ⟨_, PSs.nox (pss_cons (ps_if (pt_cmpR (kOp (K := K) (r := uNe) rfl (opu_ne hr.units)) (pe_ix (kIx (K := K) (r := rIx) rfl ix_seq) (pv 0) pe_int (fun _ _ => rfl)) pe_str (nomark _)) (pss_one (ps_ret (pe_calG C__law_sum_text hr rfl (pa_cons (pv 0) pa_nil)))) pss_nil)
 (pss_one (ps_ret (pe_ifExp (pt_cmpR opu_is (pe_ix (kIx (K := K) (r := rIx) rfl ix_seq) (pv 0) pe_int (fun _ _ => rfl)) pe_non (nomark _)) (pe_ix (kIx (K := K) (r := rIx) rfl ix_seq) (pv 0) pe_int (fun _ _ => rfl)) (pe_op (kOp (K := K) (r := uAdd) rfl opu_add) (pe_op (kOp (K := K) (r := uAdd) rfl opu_add) (pe_ix (kIx (K := K) (r := rIx) rfl ix_seq) (pv 0) pe_int (fun _ _ => rfl)) pe_str) (pe_ix (kIx (K := K) (r := rIx) rfl ix_seq) (pv 0) pe_int (fun _ _ => rfl))))))), rd_start (σ0 := [some v]) rfl ?_⟩
 cases ha with
 | @s e he =>
  have hv : Td K H v e.d := hv
  obtain ⟨p, xs, rfl, hp⟩ := td_head hv
  walk_at "q"
  refine g_ixT hp (atI_nat (j := 0) rfl) ?_
  walk_at "q"
  refine g_tt (by rw [decide_eq_false he.head_ne.2]; rfl) ?_
  walk_at "q"
  exact ⟨_, e, 0, rfl, hv, he, by decide, by have := sum_deep he; omega, q⟩
 | @fold0 x hx =>
  obtain ⟨p, y1, y2, y3, rfl, hp, h1, h2, h3⟩ := Td.t3 (show Td K H v (.tuple [.str "fold", .str x, .none]) from hv)
  cases h1.str_inv
  cases h2.str_inv
  cases h3.non_inv
  walk_at "q"
  exact q _ Fr.refl
 | @fold x y hx hy =>
  obtain ⟨p, y1, y2, y3, rfl, hp, h1, h2, h3⟩ := Td.t3 (show Td K H v (.tuple [.str "fold", .str x, .str y]) from hv)
  cases h1.str_inv
  cases h2.str_inv
  cases h3.str_inv
  have l1 := hx.len
  have l2 := hy.len
  walk_at "q"
  refine g_ff (decide_eq_false (fun z => nomatch z)) ?_
  repeat walk_at "fs"
  exact q _ Fr.refl
theorem ok__law_part_text {f : Addr} {fd : FuncData} (F : FnP K "_law_part_text" s__law_part_text f fd) (C__law_sum_text : CalG P w K mg base 11 "_law_sum_text" (spSumT K 5)) (C__law_term_text : CalG P w K mg base 12 "_law_term_text" (spTx K TermE.d TermG termT)) : FnG P w K mg base CX0 14 f fd ["_law_part"] (spTx K PartE.d PartG partT) := by
 refine okG F sc__law_part_text (fun vs H Q E h => ?_) (fun cdv A outer s H vs Q E hr h => ?_)
 ·obtain ⟨v, a, rfl, _⟩ := h
  rfl
 obtain ⟨v, a, rfl, hv, ha, q⟩ := h
 refine ⟨_, PSs.nox (pss_cons (ps_if (pt_cmpR (kOp (K := K) (r := uIn) rfl opu_in) (pe_ix (kIx (K := K) (r := rIx) rfl ix_seq) (pv 0) pe_int (fun _ _ => rfl)) (pe_tup (pa_cons pe_str (pa_cons pe_str pa_nil))) (by rfl)) (pss_cons (ps_set (i := 1) sc__law_part_text.nd rfl (.inl rfl) (pe_op (kOp (K := K) (r := uAdd) rfl opu_add) (pe_op (kOp (K := K) (r := uAdd) rfl opu_add) (pe_op (kOp (K := K) (r := uAdd) rfl opu_add) (pe_ix (kIx (K := K) (r := rIx) rfl ix_seq) (pv 0) pe_int (fun _ _ => rfl)) pe_str) (kBM (K := K) rfl (pe_bm PySem.F.plainAttrs_str PySem.F.slot_str_join PySem.F.type_str_join (kMt (K := K) (r := rJoin) rfl mt_joinU) pe_str (pa_cons (pe_lc (own := [("_law_term", 2)]) (g := gName 2) (tt := tYes) rfl sc__law_part_text.nd (pi_tupK (K := K) rfl (pe_ix (kIx (K := K) (r := rIx) rfl ix_seq) (pv 0) pe_int (fun _ _ => rfl))) (blkOk_by (own := [("_law_term", 2)]) (N := ["_law_part", "_law_text", "_law_term"]) (sc := defScope s__law_part_text) (by decide +kernel)) (fun _ _ _ _ _ => (by exact (pg_name (i := 2) sc__law_part_text.nd rfl (by first | exact Or.inl rfl | exact Or.inr rfl)))) (fun _ _ _ _ _ => pts_nil) (fun _ _ _ _ _ => (by exact (pe_calG C__law_term_text hr rfl (pa_cons (pv 2) pa_nil))))) pa_nil)))) pe_str))
 (pss_one (ps_ret (pe_ifExp (pt_cmpR (kOp (K := K) (r := uEq) rfl (opu_eq hr.units)) (pe_ix (kIx (K := K) (r := rIx) rfl ix_seq) (pv 0) pe_int (fun _ _ => rfl)) pe_str (nomark _)) (pe_op (kOp (K := K) (r := uAdd) rfl opu_add) pe_str (pv 1)) (pv 1))))) pss_nil)
 (pss_cons (ps_if (pt_cmpR (kOp (K := K) (r := uEq) rfl (opu_eq hr.units)) (pe_ix (kIx (K := K) (r := rIx) rfl ix_seq) (pv 0) pe_int (fun _ _ => rfl)) pe_str (nomark _)) (pss_one (ps_ret (pe_op (kOp (K := K) (r := uAdd) rfl opu_add) (pe_op (kOp (K := K) (r := uAdd) rfl opu_add) (pe_ix (kIx (K := K) (r := rIx) rfl ix_seq) (pv 0) pe_int (fun _ _ => rfl)) pe_str) (pe_calG C__law_sum_text hr rfl (pa_cons (pe_ix (kIx (K := K) (r := rIx) rfl ix_seq) (pv 0) pe_int (fun _ _ => rfl)) pa_nil))))) pss_nil)
 (pss_one (ps_ret (pe_op (kOp (K := K) (r := uAdd) rfl opu_add) (pe_op (kOp (K := K) (r := uAdd) rfl opu_add) (pe_op (kOp (K := K) (r := uAdd) rfl opu_add) (pe_op (kOp (K := K) (r := uAdd) rfl opu_add) (pe_calG C__law_sum_text hr rfl (pa_cons (pe_ix (kIx (K := K) (r := rIx) rfl ix_seq) (pv 0) pe_int (fun _ _ => rfl)) pa_nil)) pe_str) (pe_ix (kIx (K := K) (r := rIx) rfl ix_seq) (pv 0) pe_int (fun _ _ => rfl))) pe_str) (pe_calG C__law_sum_text hr rfl (pa_cons (pe_ix (kIx (K := K) (r := rIx) rfl ix_seq) (pv 0) pe_int (fun _ _ => rfl)) pa_nil))))))), rd_start (σ0 := [some v, none, none]) rfl ?_⟩
 have two : ∀ (H : Hp) (z : Str) (A : V → Hp → Prop), (∀ H', Fr [] H H' → A (.bl (decide (z ∈ (["atom", "not"] : List Str)))) H') → ∀ p, H p = none → uIn K (.str z) (.ref p) (upd H p (.tup [.str "atom", .str "not"])) A := fun H z A k p hp => by
  refine g_inT (xs := (["atom", "not"] : List Str).map V.str) (.inr (SqT.of upd_same)) (flat_strs _) ?_
  rw [inV_str]
  exact k _ (Fr.new hp)
 cases ha with
 | @atom no x ts hx hl hts =>
  have hA : Tx 218 (atomT x ts) := Tx.atom hx hl hts
  obtain ⟨p, y1, y2, y3, rfl, hp, h1, h2, h3⟩ := Td.t3 (show Td K H v (.tuple [.str (if no then "not" else "atom"), .str x, .tuple (ts.map TermE.d)]) from hv)
  cases h1.str_inv
  cases h2.str_inv
  obtain ⟨r, us, rfl, hr3, ht⟩ := h3.tuple_inv
  walk_at "q"
  refine ⟨le_of (by simp), two _ _ _ fun H1 e1 => ?_⟩
  walk_at "q"
  refine g_tt (by cases no <;> decide +kernel) ?_
  have hp1 := e1.tup hp
  have hr1 := e1.tup hr3
  have ht1 := ht.fr e1
  have l1 := join_len (fun t ht => (hts t ht).tx) hl
  have l2 := hx.len
  repeat walk_at "fs"
  refine ⟨r, rfl, ⟨_, hr1⟩, fun D hD => lc_td (T := termT) (walk_tup (xs := us)) (fun H' e => e.tup hr1) rfl ht1 (by omega) hD (fun y c H' A hc hy e k => ?_) (fun H' e hD' => ?_)⟩
  ·walk_at "q"
   refine ⟨rfl, ?_⟩
   walk_at "q"
   exact ⟨y, c, rfl, hy, hts c hc, k⟩
  ·walk_at "q"
   refine ⟨_, D, ts.map termT, rfl, rfl, .inl (SqL.of hD'), join_fits (fun t ht => (hts t ht).tx) hl (by decide), ?_⟩
   have hp2 := e.tup hp1
   repeat walk_at "fs"
   have l3 := hA.len
   cases no with
   | true =>
    refine g_tt (by decide +kernel) ?_
    have l4 : (x ++ "(" ++ Txt.join ", " (ts.map termT) ++ ")").length ≤ 218 := l3
    walk_at "q"
    refine g_addS (by rw [lit_not]; exact le_of (by omega)) ?_
    exact q _ (e1.trans e)
   | false =>
    refine g_ff (by decide +kernel) ?_
    walk_at "q"
    exact q _ (e1.trans e)
 | @lt x e hx he =>
  obtain ⟨p, y1, y2, y3, rfl, hp, h1, h2, h3⟩ := Td.t3 (show Td K H v (.tuple [.str "let", .str x, e.d]) from hv)
  cases h1.str_inv
  cases h2.str_inv
  have l1 := hx.len
  have l2 := he.tx.len
  repeat walk_at "fs"
  refine ⟨le_of (by simp), two _ _ _ fun H1 e1 => ?_⟩
  have hp1 := e1.tup hp
  repeat walk_at "fs"
  refine ⟨_, e, 1, rfl, h3.fr e1, he, by decide, by have := sum_deep he; omega, fun H2 e2 => ?_⟩
  repeat walk_at "fs"
  exact q _ (e1.trans e2)
 | @test sg a b hs ha hb =>
  obtain ⟨p, y1, y2, y3, y4, rfl, hp, h1, h2, h3, h4⟩ := Td.t4 (show Td K H v (.tuple [.str "test", .str sg, a.d, b.d]) from hv)
  cases h1.str_inv
  cases h2.str_inv
  have l1 := hs.len
  have l2 := ha.tx.len
  have l3 := hb.tx.len
  repeat walk_at "fs"
  refine ⟨le_of (by simp), two _ _ _ fun H0 e0 => ?_⟩
  have hp0 := e0.tup hp
  repeat walk_at "fs"
  refine ⟨_, a, 1, rfl, h3.fr e0, ha, by decide, by have := sum_deep ha; omega, fun H1 e1 => ?_⟩
  have hp1 := e1.tup hp0
  repeat walk_at "fs"
  refine ⟨_, b, 1, rfl, (h4.fr e0).fr e1, hb, by decide, by have := sum_deep hb; omega, fun H2 e2 => ?_⟩
  repeat walk_at "fs"
  exact q _ ((e0.trans e1).trans e2)
theorem ok__law_listed {f : Addr} {fd : FuncData} (F : FnP K "_law_listed" s__law_listed f fd) (C__law_part_text : CalG P w K mg base 14 "_law_part_text" (spTx K PartE.d PartG partT)) (C__law_arg_text : CalG P w K mg base 14 "_law_arg_text" (spTx K ArgE.d ArgG argT)) :
  FnG P w K mg base CX0 15 f fd ["_law_things", "_law_parts"] (spListed K) := by
 refine okG F sc__law_listed (fun vs H Q E h => ?_) (fun cdv A outer s H vs Q E hr h => ?_)
 ·rcases h with ⟨v, as, rfl, _⟩ | ⟨v, as, rfl, _⟩
  ·rfl
  ·rfl
 rcases h with ⟨v, as, rfl, hv, ha, q⟩ | ⟨v, as, rfl, hv, ha, q⟩
 ·obtain ⟨r, us, rfl, hr3, ht⟩ := Td.tuple_inv (show Td K H v (.tuple (as.map ArgE.d)) from hv)
  refine ⟨_, PSs.nox (pss_one (ps_ret (kBM (K := K) rfl (pe_bm PySem.F.plainAttrs_str PySem.F.slot_str_join PySem.F.type_str_join (kMt (K := K) (r := rJoin) rfl mt_joinU) pe_str (pa_cons (pe_lc (own := [("_law_thing", 2)]) (g := gName 2) (tt := tYes) rfl sc__law_listed.nd (pi_tupK (K := K) rfl (pv 0)) (blkOk_by (own := [("_law_thing", 2)]) (N := ["_law_things", "_law_parts", "_law_thing"]) (sc := defScope s__law_listed) (by decide +kernel)) (fun _ _ _ _ _ => (by exact (pg_name (i := 2) sc__law_listed.nd rfl (by first | exact Or.inl rfl | exact Or.inr rfl)))) (fun _ _ _ _ _ => pts_nil) (fun _ _ _ _ _ => (by exact (pe_ifExp (pt_val (pv 1)) (pe_calG C__law_part_text hr rfl (pa_cons (pv 2) pa_nil)) (pe_calG C__law_arg_text hr rfl (pa_cons (pv 2) pa_nil)))))) pa_nil))))), rd_start (σ0 := [some (.ref r), some (.bl false), none]) rfl ?_⟩
  walk_at "q"
  refine ⟨r, rfl, ⟨_, hr3⟩, fun D hD => lc_td (T := argT) (walk_tup (xs := us)) (fun H' e => e.tup hr3) rfl ht (by have := ha.1; omega) hD (fun y c H' A hc hy e k => ?_) (fun H' e hD' => ?_)⟩
  ·walk_at "q"
   refine ⟨rfl, ?_⟩
   walk_at "q"
   exact ⟨y, c, rfl, hy, ha.2 c hc, k⟩
  ·walk_at "q"
   refine ⟨_, D, as.map argT, rfl, rfl, .inl (SqL.of hD'), join_fits (fun t ht => (ha.2 t ht).tx) ha.1 (by decide), ?_⟩
   exact q _ e
 ·obtain ⟨r, us, rfl, hr3, ht⟩ := Td.tuple_inv (show Td K H v (.tuple (as.map PartE.d)) from hv)
  refine ⟨_, PSs.nox (pss_one (ps_ret (kBM (K := K) rfl (pe_bm PySem.F.plainAttrs_str PySem.F.slot_str_join PySem.F.type_str_join (kMt (K := K) (r := rJoin) rfl mt_joinU) pe_str (pa_cons (pe_lc (own := [("_law_thing", 2)]) (g := gName 2) (tt := tYes) rfl sc__law_listed.nd (pi_tupK (K := K) rfl (pv 0)) (blkOk_by (own := [("_law_thing", 2)]) (N := ["_law_things", "_law_parts", "_law_thing"]) (sc := defScope s__law_listed) (by decide +kernel)) (fun _ _ _ _ _ => (by exact (pg_name (i := 2) sc__law_listed.nd rfl (by first | exact Or.inl rfl | exact Or.inr rfl)))) (fun _ _ _ _ _ => pts_nil) (fun _ _ _ _ _ => (by exact (pe_ifExp (pt_val (pv 1)) (pe_calG C__law_part_text hr rfl (pa_cons (pv 2) pa_nil)) (pe_calG C__law_arg_text hr rfl (pa_cons (pv 2) pa_nil)))))) pa_nil))))), rd_start (σ0 := [some (.ref r), some (.bl true), none]) rfl ?_⟩
  walk_at "q"
  refine ⟨r, rfl, ⟨_, hr3⟩, fun D hD => lc_td (T := partT) (walk_tup (xs := us)) (fun H' e => e.tup hr3) rfl ht (by have := ha.1; omega) hD (fun y c H' A hc hy e k => ?_) (fun H' e hD' => ?_)⟩
  ·walk_at "q"
   refine ⟨rfl, ?_⟩
   walk_at "q"
   exact ⟨y, c, rfl, hy, ha.2 c hc, k⟩
  ·walk_at "q"
   refine ⟨_, D, as.map partT, rfl, rfl, .inl (SqL.of hD'), join_fits (fun t ht => (ha.2 t ht).tx) ha.1 (by decide), ?_⟩
   exact q _ e
end
def isFoldE : ArgE → Bool
 | .s _ => false
 | .fold _ _ => true
def FoldOne (as : List ArgE) : Prop := ∀ (j k : Nat) (a b : ArgE), as[j]? = some a → as[k]? = some b → isFoldE a = true → isFoldE b = true → j = k
theorem FoldOne.none {as : List ArgE} (h : ∀ a ∈ as, isFoldE a = false) : FoldOne as := fun j k a b hj hk ha _ => by
 rw [h a (List.mem_of_getElem? hj)] at ha
 cases ha
theorem FoldOne.set {as : List ArgE} (h : ∀ a ∈ as, isFoldE a = false) (i : Nat) (t : ArgE) : FoldOne (as.set i t) := by
 have one : ∀ (j : Nat) (a : ArgE), (as.set i t)[j]? = some a → isFoldE a = true → j = i := fun j a hj ha => by
  rw [List.getElem?_set] at hj
  split at hj
  ·rename_i c; exact c.symm
  ·rw [h a (List.mem_of_getElem? hj)] at ha
   cases ha
 intro j k a b hj hk ha hb
 rw [one j a hj ha, one k b hk hb]
def RuleW (r : Str × List ArgE × List PartE) : Prop := VarN r.1 ∧ 1 ≤ r.2.1.length ∧ r.2.1.length ≤ 4 ∧ (∀ a ∈ r.2.1, ArgW a) ∧ r.2.2.length ≤ 6 ∧ ∀ p ∈ r.2.2, PartW p
theorem RuleW.g {r : Str × List ArgE × List PartE} (h : RuleW r) : ruleG r := ⟨h.1.1.tx, ⟨by have := h.2.2.1; omega, fun a ha => (h.2.2.2.1 a ha).g⟩, ⟨by have := h.2.2.2.2.1; omega, fun a ha => (h.2.2.2.2.2 a ha).g⟩⟩
def spAnyRule (K : PySem.W.Frag) : Sp := fun vs H Q _ => ∃ (b cs : Addr), vs = [.ref b] ∧ BagAt H b cs ∧ ∀ (v : V) (r : Str × List ArgE × List PartE) (H' : Hp), Td K H' v (ruleD r) → RuleW r → FoldOne r.2.1 → BagAt H' b cs → Fr [b] H H' → Q v H'
theorem tda_set {α : Type} {K : PySem.W.Frag} {H : Hp} {f : α → PyData} {xs : List α} {vs : List V} (h : TdAll K H vs (xs.map f)) {j : Nat} {v : V} {x : α} (hv : Td K H v (f x)) : TdAll K H (vs.set j v) ((xs.set j x).map f) := by
 obtain ⟨k1, k2⟩ := tda_get h
 refine tda_mk (by rw [List.length_set, List.length_set, k1]) fun i y u ey eu => ?_
 rw [List.getElem?_set] at ey eu
 split at ey
 ·rename_i c
  rw [if_pos c] at eu
  split at ey
  ·rename_i c2
   rw [if_pos (by omega)] at eu
   cases ey
   cases eu
   exact hv
  ·cases ey
 ·rename_i c
  rw [if_neg c] at eu
  obtain ⟨z, hz, hd⟩ := k2 i u eu
  rw [ey] at hz
  cases hz
  exact hd
theorem tda_take {α : Type} {K : PySem.W.Frag} {H : Hp} {f : α → PyData} {xs : List α} {vs : List V} (h : TdAll K H vs (xs.map f)) (n : Nat) : TdAll K H (vs.take n) ((xs.take n).map f) := by
 obtain ⟨k1, k2⟩ := tda_get h
 refine tda_mk (by rw [List.length_take, List.length_take, k1]) fun i y u ey eu => ?_
 rw [List.getElem?_take] at ey eu
 split at ey
 ·rename_i c
  rw [if_pos c] at eu
  obtain ⟨z, hz, hd⟩ := k2 i u eu
  rw [ey] at hz
  cases hz
  exact hd
 ·cases ey
abbrev s__law_any_rule : Stmt := topS 88
theorem sc__law_any_rule : FnScope ["_law_bag_here", "_law_names_here", "_law_kinds_of", "_law_parts", "_law_vars_of", "_law_args", "_law_k"] ["_law_bag_here"] (defScope s__law_any_rule) := ⟨rfl, rfl, rfl, by decide +kernel, rfl, by decide +kernel, by decide +kernel⟩
section
variable {P : Program} {w : World} {K : PySem.W.Frag} {mg : Str → Option Value} {base : Heap}
theorem ok__law_any_rule {f : Addr} {fd : FuncData} (F : FnP K "_law_any_rule" s__law_any_rule f fd) (B : BiRD mg) (C__law_names : CalG P w K mg base 40 "_law_names" spNames) (C__law_body : CalG P w K mg base 62 "_law_body" (spBody K)) (C__law_one : CalG P w K mg base 20 "_law_one" (spOne K)) (C__law_pull : CalG P w K mg base 10 "_law_pull" spPull)
  (C__law_leaf : CalG P w K mg base 50 "_law_leaf" (spLeaf K)) (C__law_fold_arg : CalG P w K mg base 61 "_law_fold_arg" (spFoldA K)) :
  FnG P w K mg base CX0 63 f fd ["_law_bag_here"] (spAnyRule K) := by
 refine okG F sc__law_any_rule (fun vs H Q E h => ?_) (fun cdv A outer s H vs Q E hr h => ?_)
 ·obtain ⟨b, cs, rfl, _⟩ := h
  rfl
 obtain ⟨b, cs, rfl, hB, q⟩ := h
 have hu := hu_of hr.rm
 refine ⟨_, PSs.nox (pss_cons (ps_set (i := 1) sc__law_any_rule.nd rfl (.inl rfl) (pe_calG C__law_names hr rfl (pa_cons (pv 0) (pa_cons pe_int pa_nil))))
 (pss_cons (ps_set (i := 2) sc__law_any_rule.nd rfl (.inl rfl) (pe_disp (pps_cons (pe_op (kOp (K := K) (r := uAdd) rfl opu_add) (pe_op (kOp (K := K) (r := uAdd) rfl opu_add) (pe_ix (kIx (K := K) (r := rIx) rfl ix_seq) (pv 1) pe_int (fun _ _ => rfl)) pe_str) (pe_ix (kIx (K := K) (r := rIx) rfl ix_seq) (pv 1) pe_int (fun _ _ => rfl))) (pe_lst (pa_cons pe_str (pa_cons pe_str pa_nil))) (pps_cons (pe_ix (kIx (K := K) (r := rIx) rfl ix_seq) (pv 1) pe_int (fun _ _ => rfl)) (pe_lst (pa_cons pe_str pa_nil)) pps_nil)) (by rfl) (by rfl) (fun z => by cases z) (by decide)))
 (pss_cons (ps_dput hu (pv 2) (pe_op (kOp (K := K) (r := uAdd) rfl opu_add) (pe_op (kOp (K := K) (r := uAdd) rfl opu_add) (pe_op (kOp (K := K) (r := uAdd) rfl opu_add) (pe_op (kOp (K := K) (r := uAdd) rfl opu_add) (pe_ix (kIx (K := K) (r := rIx) rfl ix_seq) (pv 1) pe_int (fun _ _ => rfl)) pe_str) (pe_ix (kIx (K := K) (r := rIx) rfl ix_seq) (pv 1) pe_int (fun _ _ => rfl))) pe_str) (pe_ix (kIx (K := K) (r := rIx) rfl ix_seq) (pv 1) pe_int (fun _ _ => rfl))) (pe_lst (pa_cons pe_str (pa_cons pe_str (pa_cons pe_str (pa_cons pe_str pa_nil))))) rfl)
 (pss_cons (ps_asg (pe_calG C__law_body hr rfl (pa_cons (pv 0) (pa_cons (pv 2) (pa_cons (pv 2) (pa_cons (pe_calG C__law_pull hr rfl (pa_cons (pv 0) (pa_cons pe_int pa_nil))) (pa_cons pe_bl pa_nil)))))) (pg_tupK (K := K) rfl rfl (pgs_cons (pg_name (i := 3) sc__law_any_rule.nd rfl (by first | exact Or.inl rfl | exact Or.inr rfl)) (pgs_cons (pg_name (i := 4) sc__law_any_rule.nd rfl (by first | exact Or.inl rfl | exact Or.inr rfl)) pgs_nil))))
 (pss_cons (ps_setLc (i := 5) (own := [("_law_k", 6)]) (g := gName 6) (tt := tYes) rfl sc__law_any_rule.nd rfl rfl (sw_true rfl rfl rfl (by decide +kernel)) (pi_range1 rfl B.b_range (pa_cons (pe_op (kOp (K := K) (r := uAdd) rfl opu_add) pe_int (pe_calG C__law_pull hr rfl (pa_cons (pv 0) (pa_cons pe_int pa_nil)))) pa_nil)) (blkOk_by (own := [("_law_k", 6)]) (N := ["_law_bag_here", "_law_names_here", "_law_kinds_of", "_law_parts", "_law_vars_of", "_law_args", "_law_k"]) (sc := defScope s__law_any_rule) (by decide +kernel)) (fun _ _ _ _ _ => (by exact (pg_name (i := 6) sc__law_any_rule.nd rfl (by first | exact Or.inl rfl | exact Or.inr rfl)))) (fun _ _ _ _ _ => pts_nil) (fun _ _ _ _ _ => (by exact (pe_calG C__law_leaf hr rfl (pa_cons (pv 0) (pa_cons (pe_calG C__law_one hr rfl (pa_cons (pv 0) (pa_cons (pe_lst (pa_cons pe_str (pa_cons pe_str (pa_cons pe_str pa_nil)))) pa_nil))) (pa_cons (pv 4) pa_nil)))))))
 (pss_cons (ps_if (pt_cmpR (kOp (K := K) (r := uEq) rfl (opu_eq hr.units)) (pe_calG C__law_pull hr rfl (pa_cons (pv 0) (pa_cons pe_int pa_nil))) pe_int (nomark _)) (pss_one (ps_asg (pe_calG C__law_fold_arg hr rfl (pa_cons (pv 0) (pa_cons (pv 4) pa_nil))) (pg_sub (pv 5) (pe_calG C__law_pull hr rfl (pa_cons (pv 0) (pa_cons (pe_callB (kCall (K := K) (r := uLen) rfl callu_len) (by rfl) B.b_len (by decide +kernel) (pa_cons (pv 5) pa_nil)) pa_nil))) set_list))) pss_nil)
 (pss_one (ps_ret (pe_tup (pa_cons (pe_ix (kIx (K := K) (r := rIx) rfl ix_seq) (pv 1) pe_int (fun _ _ => rfl)) (pa_cons (pe_callTy (kCall (K := K) (r := uTuple) rfl callu_tuple) (by rfl) B.b_tuple (by decide +kernel) (pa_cons (pv 5) pa_nil)) (pa_cons (pe_slice (kSl (K := K) (r := rSlA) rfl sl_tupA) (pv 3) po_none (po_some pe_int)) pa_nil)))))))))))), rd_start (σ0 := [some (.ref b), none, none, none, none, none, none]) rfl ?_⟩
 walk_at "q"
 refine ⟨b, cs, 6, rfl, by decide, hB, fun pn ws H1 hpn hn hwl hwv hB1 hF1 => ?_⟩
 obtain ⟨w0, w1, w2, w3, w4, w5, rfl⟩ : ∃ w0 w1 w2 w3 w4 w5, ws = [w0, w1, w2, w3, w4, w5] := by
  match ws, hwl with
  | [w0, w1, w2, w3, w4, w5], _ => exact ⟨_, _, _, _, _, _, rfl⟩
 have hn : H1 pn = some (.lst [.str w0, .str w1, .str w2, .str w3, .str w4, .str w5]) := hn
 have v0 : VarN w0 := hwv _ (by simp)
 have v1 : VarN w1 := hwv _ (by simp)
 have v2 : VarN w2 := hwv _ (by simp)
 have v3 : VarN w3 := hwv _ (by simp)
 have v4 : VarN w4 := hwv _ (by simp)
 have v5 : VarN w5 := hwv _ (by simp)
 have l0 := v0.1.tx.len
 have l1 := v1.1.tx.len
 have l2 := v2.1.tx.len
 have l3 := v3.1.tx.len
 have l4 := v4.1.tx.len
 have hpnb : pn ∉ [b] := fun z => (hB.some hpn).1 (List.mem_singleton.mp z)
 repeat walk_at "fs"
 refine g_disp fun pk hpk => ?_
 have e2 : Fr [] H1 (upd H1 pk (.dK [])) := Fr.new hpk
 have h2 : (upd H1 pk (.dK [])) pk = some (.dK []) := upd_same
 have hpkb := hB1.some hpk
 have hn2 := e2.at hn (fun z => nomatch z)
 have hB2 := hB1.fr0 e2
 have F2 := hF1.trans e2.nil
 generalize upd H1 pk (.dK []) = H2 at *
 repeat walk_at "fs"
 refine ⟨le_of (by simp), fun pl1 hpl1 => ?_⟩
 have e3 : Fr [] H2 (upd H2 pl1 (.lst [.str "number", .str "word"])) := Fr.new hpl1
 have h3 : (upd H2 pl1 (.lst [V.str "number", .str "word"])) pl1 = some (.lst [.str "number", .str "word"]) := upd_same
 have h2' := e3.at h2 (fun z => nomatch z)
 have hn3 := e3.at hn2 (fun z => nomatch z)
 have hB3 := hB2.fr0 e3
 have F3 := F2.trans e3.nil
 generalize upd H2 pl1 (.lst [V.str "number", .str "word"]) = H3 at *
 repeat walk_at "fs"
 refine ⟨le_of (by simp), fun pl2 hpl2 => ?_⟩
 have e4 : Fr [] H3 (upd H3 pl2 (.lst [.str "number"])) := Fr.new hpl2
 have h4 : (upd H3 pl2 (.lst [V.str "number"])) pl2 = some (.lst [.str "number"]) := upd_same
 have h24 := e4.at h2' (fun z => nomatch z)
 have h34 := e4.at h3 (fun z => nomatch z)
 have hn4 := e4.at hn3 (fun z => nomatch z)
 have hB4 := hB3.fr0 e4
 have F4 := F3.trans e4.nil
 generalize upd H3 pl2 (.lst [V.str "number"]) = H4 at *
 repeat walk_at "fs"
 refine ⟨h24, [(Sum.inr (w0 ++ "." ++ w1), .ref pl1), (Sum.inr w2, .ref pl2)], rfl, (show 2 ≤ 15 by decide), ?_⟩
 obtain ⟨kv1, hkv1⟩ : ∃ kv1, kv1 = mergeK [] [((Sum.inr (w0 ++ "." ++ w1) : Key), V.ref pl1), (Sum.inr w2, V.ref pl2)] := ⟨_, rfl⟩
 rw [← hkv1]
 have hk1l : kv1.length ≤ 2 := by rw [hkv1]; exact mergeK_len
 have nopk : ∀ {l : Addr} {xs : List V}, H4 l = some (.lst xs) → l ≠ pk := fun h e => by rw [e, h24] at h; cases h
 have e5 : Fr [pk] H4 (upd H4 pk (.dK kv1)) := Fr.mut (List.mem_singleton.mpr rfl) h24 nofix_dK
 have h5 : (upd H4 pk (.dK kv1)) pk = some (.dK kv1) := upd_same
 have h35 := e5.at h34 (fun z => nopk h34 (List.mem_singleton.mp z))
 have h45 := e5.at h4 (fun z => nopk h4 (List.mem_singleton.mp z))
 have hn5 := e5.at hn4 (fun z => nopk hn4 (List.mem_singleton.mp z))
 have hB5 := hB4.fr e5 (fun z => hpkb.1 (List.mem_singleton.mp z).symm) (fun z => hpkb.2 (List.mem_singleton.mp z).symm)
 have hpkH : H pk = none := hF1.back (M := [b]) (fun z => hpkb.1 (List.mem_singleton.mp z)) hpk
 have F5 : Fr [b] H (upd H4 pk (.dK kv1)) := F4.over hpkH
 generalize upd H4 pk (.dK kv1) = H5 at *
 repeat walk_at "fs"
 refine ⟨le_of (by simp), fun pl3 hpl3 => ?_⟩
 have e6 : Fr [] H5 (upd H5 pl3 (.lst [.str "number", .str "flag", .str "word", .str "number"])) := Fr.new hpl3
 have h6 : (upd H5 pl3 (.lst [V.str "number", .str "flag", .str "word", .str "number"])) pl3 = some (.lst [.str "number", .str "flag", .str "word", .str "number"]) := upd_same
 have h56 := e6.at h5 (fun z => nomatch z)
 have h36 := e6.at h35 (fun z => nomatch z)
 have h46 := e6.at h45 (fun z => nomatch z)
 have hn6 := e6.at hn5 (fun z => nomatch z)
 have hB6 := hB5.fr0 e6
 have F6 := F5.trans e6.nil
 generalize upd H5 pl3 (.lst [V.str "number", .str "flag", .str "word", .str "number"]) = H6 at *
 try dsimp only
 repeat walk_at "fs"
 refine g_dputS h56 (by omega) ?_
 have nopk6 : ∀ {l : Addr} {xs : List V}, H6 l = some (.lst xs) → l ≠ pk := fun h e => by rw [e, h56] at h; cases h
 have e7 : Fr [pk] H6 (upd H6 pk (.dK (putK kv1 (Sum.inr (w0 ++ "." ++ w3 ++ "." ++ w4)) (.ref pl3)))) := Fr.mut (List.mem_singleton.mpr rfl) h56 nofix_dK
 have h7 : (upd H6 pk (.dK (putK kv1 (Sum.inr (w0 ++ "." ++ w3 ++ "." ++ w4)) (.ref pl3)))) pk = some (.dK (putK kv1 (Sum.inr (w0 ++ "." ++ w3 ++ "." ++ w4)) (.ref pl3))) := upd_same
 have h37 := e7.at h36 (fun z => nopk6 h36 (List.mem_singleton.mp z))
 have h47 := e7.at h46 (fun z => nopk6 h46 (List.mem_singleton.mp z))
 have h67 := e7.at h6 (fun z => nopk6 h6 (List.mem_singleton.mp z))
 have hn7 := e7.at hn6 (fun z => nopk6 hn6 (List.mem_singleton.mp z))
 have hB7 := hB6.fr e7 (fun z => hpkb.1 (List.mem_singleton.mp z).symm) (fun z => hpkb.2 (List.mem_singleton.mp z).symm)
 have F7 : Fr [b] H (upd H6 pk (.dK (putK kv1 (Sum.inr (w0 ++ "." ++ w3 ++ "." ++ w4)) (.ref pl3)))) := F6.over hpkH
 have hK7 : KindsAt (upd H6 pk (.dK (putK kv1 (Sum.inr (w0 ++ "." ++ w3 ++ "." ++ w4)) (.ref pl3)))) pk := by
  refine ⟨_, h7, Nat.le_trans putK_len (by omega), putK_ne, fun kv hkv => ?_⟩
  rcases putK_mem hkv with hkv | rfl
  ·rw [hkv1] at hkv
   rcases mergeK_mem hkv with hkv | hkv
   ·cases hkv
   ·simp only [List.mem_cons, List.not_mem_nil, or_false] at hkv
    rcases hkv with rfl | rfl
    ·exact ⟨_, pl1, ["number", "word"], rfl, h37, .two v0 v1, by decide, by decide, fun k hk => by
     simp only [List.mem_cons, List.not_mem_nil, or_false] at hk
     exact hk.elim (fun e => .inl e) (fun e => .inr (.inr e))⟩
    ·exact ⟨_, pl2, ["number"], rfl, h47, .one v2, by decide, by decide, fun k hk => .inl (List.mem_singleton.mp hk)⟩
  ·exact ⟨_, pl3, ["number", "flag", "word", "number"], rfl, h67, .three v0 v3 v4, by decide, by decide, fun k hk => by
    simp only [List.mem_cons, List.not_mem_nil, or_false] at hk
    rcases hk with e | e | e | e
    ·exact .inl e
    ·exact .inr (.inl e)
    ·exact .inr (.inr e)
    ·exact .inl e⟩
 generalize upd H6 pk (.dK (putK kv1 (Sum.inr (w0 ++ "." ++ w3 ++ "." ++ w4)) (.ref pl3))) = H7 at *
 walk_at "q"
 refine ⟨b, cs, _, rfl, hB7, by decide, by decide, fun dd H8 d0 d1 hB8 hF8 => ?_⟩
 have hK8 := hK7.frb hB7 hF8
 obtain ⟨n, rfl⟩ : ∃ n : Nat, dd = (n : Int) := ⟨dd.toNat, by omega⟩
 have hn8 := hF8.at hn7 hpnb
 walk_at "q"
 refine ⟨b, cs, pk, pk, n, true, rfl, by omega, hB8, hK8, hK8, fun p pt d us ps vd H9 hp hpt hts hpl hpw hV9 hG9 hd9 hB9 hF9 => ?_⟩
 have hn9 := hF9.at hn8 hpnb
 have F9 := (F7.trans hF8).trans hF9
 walk_at "q"
 refine ⟨b, cs, _, rfl, hB9, by decide, by decide, fun dd H10 e0 e1 hB10 hF10 => ?_⟩
 obtain ⟨m, rfl⟩ : ∃ m : Nat, dd = (m : Int) := ⟨dd.toNat, by omega⟩
 have hdb := hV9.ne hB9
 have hdM : d ∉ [b] := fun z => hdb.1 (List.mem_singleton.mp z)
 have hV10 := hV9.fr hF10 hdM
 have hn10 := hF10.at hn9 hpnb
 have F10 := F9.trans hF10
 have hpt10 := hF10.tup hpt
 have hts10 := hts.fr hF10
 walk_at "q"
 refine ⟨_, rfl, by omega, by omega, fun D hD => lc_it (walk_range (lo := 0) (n := 1 + m)) (fun i H' => BagAt H' b cs ∧ Fr [b] H10 H' ∧ ∃ (us : List V) (as : List ArgE), H' D = some (.lst us) ∧ TdAll K H' us (as.map ArgE.d) ∧ as.length = i ∧ ∀ a ∈ as, ArgW a ∧ isFoldE a = false)
  ⟨hB10.fr0 (Fr.new hD), Fr.new hD, [], [], upd_same, .nil, rfl, (fun _ z => nomatch z)⟩ (fun i H' _ h => trivial) (fun i x H' H'' hi h y => ?_) (fun H11 h => ?_)⟩
 ·obtain ⟨rfl, rfl⟩ := y
  obtain ⟨hBi, hFi, ys, as, hDi, htd, hasl, haw⟩ := h
  have hDb := hB10.some hD
  have hDM : D ∉ [b] := fun z => hDb.1 (List.mem_singleton.mp z)
  walk_at "q"
  refine ⟨rfl, ?_⟩
  walk_at "q"
  refine ⟨le_of (by simp), fun p1 hp1 => ?_⟩
  have e1 : Fr [] H'' (upd H'' p1 (.lst [.str "number", .str "word", .str "flag"])) := Fr.new hp1
  have h1 : (upd H'' p1 (.lst [V.str "number", .str "word", .str "flag"])) p1 = some (.lst [.str "number", .str "word", .str "flag"]) := upd_same
  have hb1 := (hBi.some hp1).1
  have hBj := hBi.fr0 e1
  have hFj := hFi.trans e1.nil
  have hDj := e1.at hDi (fun z => nomatch z)
  have htj := htd.fr e1
  generalize upd H'' p1 (.lst [V.str "number", .str "word", .str "flag"]) = Hj at *
  walk_at "q"
  refine ⟨b, cs, p1, _, rfl, hBj, .inl ⟨SqL.of h1, hb1⟩, by decide, by decide, fun kv H2 hkv hB2 hF2 => ?_⟩
  obtain ⟨k, rfl, hk⟩ : ∃ k : Str, kv = .str k ∧ KindW k := by
   simp only [List.mem_cons, List.not_mem_nil, or_false] at hkv
   rcases hkv with rfl | rfl | rfl
   ·exact ⟨_, rfl, .inl rfl⟩
   ·exact ⟨_, rfl, .inr (.inr rfl)⟩
   ·exact ⟨_, rfl, .inr (.inl rfl)⟩
  walk_at "q"
  refine ⟨b, cs, d, k, vd, rfl, hk, hB2, (hV10.fr hFj hdM).fr hF2 hdM, fun x H3 hx hB3 hF3 => ?_⟩
  obtain ⟨ex, hex, htx⟩ := hx.w hG9
  have hD3 := hF3.at (hF2.at hDj hDM) hDM
  have hl3 : ys.length = as.length := (tda_get htj).1
  have eD : Fr [D] H3 (upd H3 D (.lst (ys ++ [.ref x]))) := Fr.mut (List.mem_singleton.mpr rfl) hD3 nofix_lst
  refine ⟨ys, hD3, lt_of (by omega), hB3.fr eD (fun z => hDb.1 (List.mem_singleton.mp z).symm) (fun z => hDb.2 (List.mem_singleton.mp z).symm), ((hFj.trans hF2).trans hF3).over hD, ys ++ [.ref x], as ++ [.s ex], upd_same, ?_, by rw [List.length_append, hasl]; rfl, fun a ha => ?_⟩
  ·rw [List.map_append]
   exact (tda_snoc ((htj.fr hF2).fr hF3) (show Td K H3 (.ref x) (ArgE.d (.s ex)) from htx)).fr eD
  ·rcases List.mem_append.mp ha with ha | ha
   ·exact haw a ha
   ·rw [List.mem_singleton.mp ha]; exact ⟨.s hex, rfl⟩
 ·obtain ⟨hB11, hF11, ys, as, hD11, htd, hasl, haw⟩ := h
  have hDb := hB10.some hD
  have hDM : D ∉ [b] := fun z => hDb.1 (List.mem_singleton.mp z)
  have hV11 := hV10.fr hF11 hdM
  have hn11 := hF11.at hn10 hpnb
  have F11 := F10.trans hF11
  have hDH : H D = none := F10.back hDM hD
  have fin : ∀ (H12 : Hp) (ys : List V) (as : List ArgE), BagAt H12 b cs → Fr [b] H H12 → H12 D = some (.lst ys) → TdAll K H12 ys (as.map ArgE.d) → as.length = 1 + m → ((∀ a ∈ as, ArgW a) ∧ FoldOne as) → SqT K H12 pt us → TdAll K H12 us (ps.map PartE.d) → H12 pn = some (.lst [.str w0, .str w1, .str w2, .str w3, .str w4, .str w5]) →
    ∀ (l r p : Addr) (H13 : Hp), H12 l = none → Fr [] (upd H12 l (.tup ys)) H13 → SqT K H13 r (us.take 6) → H13 p = none → Q (.ref p) (upd H13 p (.tup [.str w5, .ref l, .ref r])) := by
   intro H12 ys as hB12 hF12 hD12 htd hasl haw hpt hts hn l r p H13 hl he hr hp
   have ep : Fr [] H13 (upd H13 p (.tup [.str w5, .ref l, .ref r])) := Fr.new hp
   have el : Fr [] H12 (upd H12 l (.tup ys)) := Fr.new hl
   have ea := (el.trans he).trans ep
   refine q _ (w5, as, ps.take 6) _ (.tup (SqT.of upd_same) (.cons (.str _) (.cons (.tup (ep.tup (he.tup (SqT.of upd_same))) (htd.fr ea)) (.cons (.tup (ep.tup hr) ((tda_take hts 6).fr ea)) .nil)))) ⟨v5, ?_, ?_, haw.1, ?_, fun x hx => hpw x (List.mem_of_mem_take hx)⟩ haw.2 (hB12.fr0 ea) (hF12.trans ea.nil)
   ·show 1 ≤ as.length
    omega
   ·show as.length ≤ 4
    omega
   ·show (ps.take 6).length ≤ 6
    rw [List.length_take]; omega
  walk_at "q"
  refine ⟨b, cs, _, rfl, hB11, by decide, by decide, fun dd H12 f0 f1 hB12 hF12 => ?_⟩
  have hD12 := hF12.at hD11 hDM
  have ht12 := htd.fr hF12
  have hV12 := hV11.fr hF12 hdM
  have hn12 := hF12.at hn11 hpnb
  have F12 := F11.trans hF12
  have hpt12 := hF12.tup (hF11.tup hpt10)
  have hts12 := (hts10.fr hF11).fr hF12
  have hyl : ys.length = as.length := (tda_get ht12).1
  walk_at "q"
  refine g_by (fun c => ?_) (fun c => ?_)
  ·walk_at "q"
   refine ⟨b, cs, d, vd, rfl, hB12, hV12, hG9, fun v t H13 ht htw hB13 hF13 => ?_⟩
   have hD13 := hF13.at hD12 hDM
   have ht13 := ht12.fr hF13
   have hn13 := hF13.at hn12 hpnb
   have hpt13 := hF13.tup hpt12
   have hts13 := hts12.fr hF13
   have F13 := F12.trans hF13
   walk_at "q"
   refine ⟨b, cs, _, rfl, hB13, by omega, Int.lt_of_le_of_lt (b := 1000) (by omega) (by decide), fun dj H14 g0 g1 hB14 hF14 => ?_⟩
   obtain ⟨j, rfl⟩ : ∃ j : Nat, dj = (j : Int) := ⟨dj.toNat, by omega⟩
   have hD14 := hF14.at hD13 hDM
   have ht14 := ht13.fr hF14
   have hj : j < ys.length := by omega
   refine g_setL (j := j) hD14 (by unfold ixN; simp; omega) ?_
   have eD : Fr [D] H14 (upd H14 D (.lst (ys.set j v))) := Fr.mut (List.mem_singleton.mpr rfl) hD14 nofix_lst
   have hD15 : (upd H14 D (.lst (ys.set j v))) D = some (.lst (ys.set j v)) := upd_same
   have hB15 := hB14.fr eD (fun z => hDb.1 (List.mem_singleton.mp z).symm) (fun z => hDb.2 (List.mem_singleton.mp z).symm)
   have F15 : Fr [b] H (upd H14 D (.lst (ys.set j v))) := (F13.trans hF14).over hDH
   have ht15 := (tda_set ht14 (j := j) (v := v) (x := t) (ht.fr hF14)).fr eD
   have hpD : pn ≠ D := fun e => by rw [← e] at hD; rw [hD] at hn10; cases hn10
   have hn15 := eD.at (hF14.at hn13 hpnb) (fun z => hpD (List.mem_singleton.mp z))
   have hpt15 := eD.tup (hF14.tup hpt13)
   have hts15 := (hts13.fr hF14).fr eD
   generalize upd H14 D (.lst (ys.set j v)) = H15 at *
   have haw15 : (∀ a ∈ as.set j t, ArgW a) ∧ FoldOne (as.set j t) := ⟨fun a ha => by
    rcases List.mem_or_eq_of_mem_set ha with ha | rfl
    ·exact (haw a ha).1
    ·exact htw, FoldOne.set (fun a ha => (haw a ha).2) j t⟩
   walk_at "q"
   refine g_tupleL (SqL.of hD15) fun l hl => ?_
   have hpl := (Fr.new (M := []) (o := .tup (ys.set j v)) hl).tup hpt15
   walk_at "q"
   refine g_slA hpl fun r H16 he hr => ?_
   walk_at "q"
   refine ⟨le_of (by simp), fun p hp => ?_⟩
   rw [show cutV us none (some 6) = us.take 6 from cut0 us 6] at hr
   exact fin _ (ys.set j v) (as.set j t) hB15 F15 hD15 ht15 (by rw [List.length_set]; exact hasl) haw15 hpt15 hts15 hn15 l r p H16 hl he hr hp
  ·walk_at "q"
   refine g_tupleL (SqL.of hD12) fun l hl => ?_
   have hpl := (Fr.new (M := []) (o := .tup ys) hl).tup hpt12
   walk_at "q"
   refine g_slA hpl fun r H16 he hr => ?_
   walk_at "q"
   refine ⟨le_of (by simp), fun p hp => ?_⟩
   rw [show cutV us none (some 6) = us.take 6 from cut0 us 6] at hr
   exact fin _ ys as hB12 F12 hD12 ht12 hasl ⟨fun a ha => (haw a ha).1, .none fun a ha => (haw a ha).2⟩ hpt12 hts12 hn12 l r p H16 hl he hr hp
end
def fullP : PartE → PartE
 | .atom no x ts => if (!(Builtin.Str.occurrences x "." 0 x.length 1).isEmpty) then .atom no x ts else .atom no ("q." ++ x) ts
 | p => p
def spFull (K : PySem.W.Frag) : Sp := fun vs H Q _ => ∃ (v : V) (ps : List PartE), vs = [v] ∧ Td K H v (partsD ps) ∧ ps.length ≤ 6 ∧ (∀ p ∈ ps, PartW p) ∧ ∀ (u : V) (H' : Hp), Fr [] H H' → Td K H' u (partsD (ps.map fullP)) → Q u H'
abbrev s__law_full_parts : Stmt := topS 89
theorem sc__law_full_parts : FnScope ["_law_parts", "_law_found", "_law_part"] ["_law_parts"] (defScope s__law_full_parts) := ⟨rfl, rfl, rfl, by decide +kernel, rfl, by decide +kernel, by decide +kernel⟩
abbrev s__law_rule_text : Stmt := topS 77
theorem sc__law_rule_text : FnScope ["_law_rule", "_law_text"] ["_law_rule"] (defScope s__law_rule_text) := ⟨rfl, rfl, rfl, by decide +kernel, rfl, by decide +kernel, by decide +kernel⟩
abbrev s__law_asking : Stmt := topS 78
theorem sc__law_asking : FnScope ["_law_question"] ["_law_question"] (defScope s__law_asking) := ⟨rfl, rfl, rfl, by decide +kernel, rfl, by decide +kernel, by decide +kernel⟩
section
variable {P : Program} {w : World} {K : PySem.W.Frag} {mg : Str → Option Value} {base : Heap}
theorem ok__law_rule_text {f : Addr} {fd : FuncData} (F : FnP K "_law_rule_text" s__law_rule_text f fd) (C__law_listed : CalG P w K mg base 15 "_law_listed" (spListed K)) :
  FnG P w K mg base CX0 16 f fd ["_law_rule"] (spTx K ruleD ruleG fun r => ruleT r.1 r.2.1 r.2.2) := by
 refine okG F sc__law_rule_text (fun vs H Q E h => ?_) (fun cdv A outer s H vs Q E hr h => ?_)
 ·obtain ⟨v, a, rfl, _⟩ := h
  rfl
 obtain ⟨v, ⟨hd, as, ps⟩, rfl, hv, ⟨ha1, ha2, ha3⟩, q⟩ := h
 obtain ⟨p, y1, y2, y3, rfl, hp, h1, h2, h3⟩ := Td.t3 (show Td K H v (.tuple [.str hd, argsD as, partsD ps]) from hv)
 cases h1.str_inv
 obtain ⟨r, us, rfl, hr3, ht⟩ := Td.tuple_inv (show Td K H y3 (.tuple (ps.map PartE.d)) from h3)
 refine ⟨_, PSs.nox (pss_cons (ps_set (i := 1) sc__law_rule_text.nd rfl (.inl rfl) (pe_op (kOp (K := K) (r := uAdd) rfl opu_add) (pe_op (kOp (K := K) (r := uAdd) rfl opu_add) (pe_op (kOp (K := K) (r := uAdd) rfl opu_add) (pe_ix (kIx (K := K) (r := rIx) rfl ix_seq) (pv 0) pe_int (fun _ _ => rfl)) pe_str) (pe_calG C__law_listed hr rfl (pa_cons (pe_ix (kIx (K := K) (r := rIx) rfl ix_seq) (pv 0) pe_int (fun _ _ => rfl)) (pa_cons pe_bl pa_nil)))) pe_str))
 (pss_one (ps_ret (pe_ifExp (pt_cmpR (kOp (K := K) (r := uEq) rfl (opu_eq hr.units)) (pe_ix (kIx (K := K) (r := rIx) rfl ix_seq) (pv 0) pe_int (fun _ _ => rfl)) (pe_tup pa_nil) (nomark _)) (pv 1) (pe_op (kOp (K := K) (r := uAdd) rfl opu_add) (pe_op (kOp (K := K) (r := uAdd) rfl opu_add) (pv 1) pe_str) (pe_calG C__law_listed hr rfl (pa_cons (pe_ix (kIx (K := K) (r := rIx) rfl ix_seq) (pv 0) pe_int (fun _ _ => rfl)) (pa_cons pe_bl pa_nil)))))))), rd_start (σ0 := [some (.ref p), none]) rfl ?_⟩
 have l0 : hd.length ≤ 12 := ha1.len
 have l1 : (argsT as).length ≤ 344 := ha2.tx.len
 have l2 : (partsT ps).length ≤ 1936 := ha3.tx.len
 repeat walk_at "fs"
 refine .inl ⟨y2, as, rfl, h2, ha2, fun H1 e1 => ?_⟩
 have hp1 := e1.tup hp
 repeat walk_at "fs"
 refine ⟨le_of (by decide), fun p2 hp2 => ?_⟩
 have e2 : Fr [] H1 (upd H1 p2 (.tup [])) := Fr.new hp2
 have hp2' : (upd H1 p2 (.tup [])) p2 = some (.tup []) := upd_same
 have hpp := e2.tup hp1
 generalize upd H1 p2 (.tup []) = H2 at *
 refine g_eqET ((e1.trans e2).tup hr3) (SqT.of hp2') ?_
 have en : decide (us = []) = decide (ps = []) := by
  have := (tda_get ht).1
  cases us with
  | nil => cases ps with
   | nil => rfl
   | cons => simp at this
  | cons => cases ps with
   | nil => simp at this
   | cons => rfl
 rw [en]
 repeat walk_at "fs"
 refine g_by (fun c => ?_) (fun c => ?_)
 ·walk_at "q"
  have z : Q (.str (ruleT hd as ps)) H2 := q _ (e1.trans e2)
  unfold ruleT at z
  rw [if_pos c] at z
  exact z
 ·repeat walk_at "fs"
  refine .inr ⟨_, ps, rfl, h3.fr (e1.trans e2), ha3, fun H3 e3 => ?_⟩
  repeat walk_at "fs"
  have z : Q (.str (ruleT hd as ps)) H3 := q _ ((e1.trans e2).trans e3)
  unfold ruleT at z
  rw [if_neg c] at z
  exact z
theorem ok__law_asking {f : Addr} {fd : FuncData} (F : FnP K "_law_asking" s__law_asking f fd) (C__law_listed : CalG P w K mg base 15 "_law_listed" (spListed K)) :
  FnG P w K mg base CX0 16 f fd ["_law_question"] (spTx K questD questG fun r => questT r.1 r.2) := by
 refine okG F sc__law_asking (fun vs H Q E h => ?_) (fun cdv A outer s H vs Q E hr h => ?_)
 ·obtain ⟨v, a, rfl, _⟩ := h
  rfl
 obtain ⟨v, ⟨as, ps⟩, rfl, hv, ha, q⟩ := h
 obtain ⟨p, y1, y2, rfl, hp, h1, h2⟩ := Td.t2 (show Td K H v (.tuple [argsD as, partsD ps]) from hv)
 refine ⟨_, PSs.nox (pss_one (ps_ret (pe_op (kOp (K := K) (r := uAdd) rfl opu_add) (pe_op (kOp (K := K) (r := uAdd) rfl opu_add) (pe_calG C__law_listed hr rfl (pa_cons (pe_ix (kIx (K := K) (r := rIx) rfl ix_seq) (pv 0) pe_int (fun _ _ => rfl)) (pa_cons pe_bl pa_nil))) pe_str) (pe_calG C__law_listed hr rfl (pa_cons (pe_ix (kIx (K := K) (r := rIx) rfl ix_seq) (pv 0) pe_int (fun _ _ => rfl)) (pa_cons pe_bl pa_nil)))))), rd_start (σ0 := [some (.ref p)]) rfl ?_⟩
 have l1 : (argsT as).length ≤ 344 := ha.1.tx.len
 have l2 : (partsT ps).length ≤ 1936 := ha.2.tx.len
 repeat walk_at "fs"
 refine .inl ⟨y1, as, rfl, h1, ha.1, fun H1 e1 => ?_⟩
 have hp1 := e1.tup hp
 repeat walk_at "fs"
 refine .inr ⟨y2, ps, rfl, h2.fr e1, ha.2, fun H2 e2 => ?_⟩
 repeat walk_at "fs"
 exact q _ (e1.trans e2)
theorem ok__law_full_parts {f : Addr} {fd : FuncData} (F : FnP K "_law_full_parts" s__law_full_parts f fd) (B : BiRD mg) : FnG P w K mg base CX0 16 f fd ["_law_parts"] (spFull K) := by
  refine okG F sc__law_full_parts (fun vs H Q E h => ?_) (fun cdv A outer s H vs Q E hr h => ?_)
  · obtain ⟨v, a, rfl, _⟩ := h
    rfl
  obtain ⟨v, ps, rfl, hv, hpl, hpw, q⟩ := h
  obtain ⟨r, us, rfl, hr3, ht⟩ := Td.tuple_inv (show Td K H v (.tuple (ps.map PartE.d)) from hv)
  obtain ⟨k1, k2⟩ := tda_get ht
  refine ⟨_, PSs.nox (pss_cons (ps_set (i := 1) sc__law_full_parts.nd rfl (.inl rfl) (pe_lst pa_nil))
  (pss_cons (ps_for PassesOwn.never rfl (pi_tupK (K := K) rfl (pv 0)) (pg_name (i := 2) sc__law_full_parts.nd rfl (by first | exact Or.inl rfl | exact Or.inr rfl)) (pss_cons (ps_if (PW.pt (pw_and (pt_cmpR (kOp (K := K) (r := uIn) rfl opu_in) (pe_ix (kIx (K := K) (r := rIx) rfl ix_seq) (pv 2) pe_int (fun _ _ => rfl)) (pe_tup (pa_cons pe_str (pa_cons pe_str pa_nil))) (by rfl)) (pw_and1 (pt_cmpR (kOp (K := K) (r := uNotIn) rfl opu_notIn) pe_str (pe_ix (kIx (K := K) (r := rIx) rfl ix_seq) (pv 2) pe_int (fun _ _ => rfl)) (by rfl))))) (pss_one (ps_set (i := 2) sc__law_full_parts.nd rfl (.inl rfl) (pe_tup (pa_cons (pe_ix (kIx (K := K) (r := rIx) rfl ix_seq) (pv 2) pe_int (fun _ _ => rfl)) (pa_cons (pe_op (kOp (K := K) (r := uAdd) rfl opu_add) pe_str (pe_ix (kIx (K := K) (r := rIx) rfl ix_seq) (pv 2) pe_int (fun _ _ => rfl))) (pa_cons (pe_ix (kIx (K := K) (r := rIx) rfl ix_seq) (pv 2) pe_int (fun _ _ => rfl)) pa_nil)))))) pss_nil)
  (pss_one (ps_expr (kBM (K := K) rfl (pe_bm PySem.F.plainAttrs_list PySem.F.slot_list_append PySem.F.type_list_append mt_append (pv 1) (pa_cons (pv 2) pa_nil)))))))
  (pss_one (ps_ret (pe_callTy (kCall (K := K) (r := uTuple) rfl callu_tuple) (by rfl) B.b_tuple (by decide +kernel) (pa_cons (pv 1) pa_nil)))))), rd_start (σ0 := [some (.ref r), none, none]) rfl ?_⟩
  walk_at "q"
  refine ⟨le_of (by simp), fun D hD => ?_⟩
  have hD0 : (upd H D (.lst [])) D = some (.lst []) := upd_same
  have e0 : Fr [] H (upd H D (.lst [])) := Fr.new hD
  generalize upd H D (.lst []) = H0 at *
  walk_at "q"
  refine ⟨r, rfl, ⟨_, e0.tup hr3⟩, for_tup (xs := us) (fun i σ H' => (∃ z, σ = [some (.ref r), some (.ref D), z]) ∧ Fr [] H H' ∧ ∃ ys, H' D = some (.lst ys) ∧ TdAll K H' ys ((ps.take i).map (fun p => (fullP p).d)) ∧ ys.length = i) ⟨⟨_, rfl⟩, e0, [], hD0, .nil, rfl⟩ (fun i σ H' _ h => h.2.1.tup hr3) (fun i x σ H1 hx h => ?_) (fun σ H1 h => ?_)⟩
  · obtain ⟨⟨z, rfl⟩, e1, ys, hy, hty, hyl⟩ := h
    obtain ⟨p, hp, htp⟩ := k2 i x hx
    have htp := htp.fr e1
    have fin : ∀ (H2 : Hp) (u : V), Fr [] H H2 → H2 D = some (.lst ys) → TdAll K H2 ys ((ps.take i).map (fun p => (fullP p).d)) → Td K H2 u (fullP p).d →
        Fr [] H (upd H2 D (.lst (ys ++ [u]))) ∧ ∃ ys', (upd H2 D (.lst (ys ++ [u]))) D = some (.lst ys') ∧ TdAll K (upd H2 D (.lst (ys ++ [u]))) ys' ((ps.take (i + 1)).map (fun p => (fullP p).d)) ∧ ys'.length = i + 1 := by
      intro H2 u e2 h2 h3 h4
      have eD : Fr [D] H2 (upd H2 D (.lst (ys ++ [u]))) := Fr.mut (List.mem_singleton.mpr rfl) h2 nofix_lst
      refine ⟨e2.over hD, ys ++ [u], upd_same, ?_, by rw [List.length_append, hyl]; rfl⟩
      rw [List.take_succ, hp, List.map_append]
      exact (tda_snoc h3 h4).fr eD
    have lty : ys.length < sizeLine := lt_of (by have := (List.getElem?_eq_some_iff.mp hx).1; omega)
    have hpw' := hpw p (List.mem_of_getElem? hp)
    have two : ∀ (H : Hp) (z : Str) (A : V → Hp → Prop), (∀ H', Fr [] H H' → A (.bl (decide (z ∈ (["atom", "not"] : List Str)))) H') → ∀ p, H p = none → uIn K (.str z) (.ref p) (upd H p (.tup [.str "atom", .str "not"])) A := fun H z A k p hp => by
      refine g_inT (xs := (["atom", "not"] : List Str).map V.str) (.inr (SqT.of upd_same)) (flat_strs _) ?_
      rw [inV_str]
      exact k _ (Fr.new hp)
    have other : ∀ (hd : Str) (rest : List PyData), p.d = .tuple (.str hd :: rest) → hd ∉ (["atom", "not"] : List Str) → fullP p = p → ∃ a xs, x = .ref a ∧ SqT K H1 a (.str hd :: xs) := fun hd rest e1 e2 e3 => by
      rw [e1] at htp
      obtain ⟨a, xs, rfl, ha, hxs⟩ := htp.tuple_inv
      obtain ⟨v, ws, rfl, hv1, hv2⟩ := hxs.cons_inv
      cases hv1.str_inv
      exact ⟨a, ws, rfl, ha⟩
    have plain : ∀ (hd : Str) (rest : List PyData), p.d = .tuple (.str hd :: rest) → hd ∉ (["atom", "not"] : List Str) → fullP p = p → True := fun _ _ _ _ _ => trivial
    cases hpw' with
    | @atom no y ts hy40 hyn h1 h4 htw =>
      obtain ⟨a, y1, y2, y3, rfl, ha, t1, t2, t3⟩ := Td.t3 (show Td K H1 x (.tuple [.str (if no then "not" else "atom"), .str y, .tuple (ts.map TermE.d)]) from htp)
      cases t1.str_inv
      cases t2.str_inv
      have hl := hy40.len
      walk_at "q"
      refine ⟨le_of (by simp), two _ _ _ fun H2 e2 => ?_⟩
      have ha2 := e2.tup ha
      have hy2 := e2.at hy (fun z => nomatch z)
      have hty2 := hty.fr e2
      rw [decide_eq_true (show (if no = true then ("not" : Str) else "atom") ∈ (["atom", "not"] : List Str) by cases no <;> decide +kernel)]
      walk_at "q"
      refine g_notInS ?_
      walk_at "q"
      have ef : fullP (.atom no y ts) = if (!(Builtin.Str.occurrences y "." 0 y.length 1).isEmpty) then .atom no y ts else .atom no ("q." ++ y) ts := rfl
      generalize (!(Builtin.Str.occurrences y "." 0 y.length 1).isEmpty) = bb at ef ⊢
      cases bb with
      | true =>
        walk_at "q"
        refine ⟨D, ys, _, rfl, rfl, hy2, lty, ?_⟩
        obtain ⟨a1, a2⟩ := fin H2 (.ref a) (e1.trans e2) hy2 hty2 (by rw [ef]; exact htp.fr e2)
        exact ⟨⟨_, rfl⟩, a1, a2⟩
      | false =>
        walk_at "q"
        refine g_addS (le_of (by have : ("q." : Str).length = 2 := by decide +kernel
                                 omega)) ?_
        walk_at "q"
        refine ⟨le_of (by simp), fun p3 hp3 => ?_⟩
        have e3 : Fr [] H2 (upd H2 p3 (.tup [.str (if no then "not" else "atom"), .str ("q." ++ y), y3])) := Fr.new hp3
        have hy3 := e3.at hy2 (fun z => nomatch z)
        have htx : Td K (upd H2 p3 (.tup [.str (if no then "not" else "atom"), .str ("q." ++ y), y3])) (.ref p3) (fullP (.atom no y ts)).d := by
          rw [ef]
          exact .tup (SqT.of upd_same) (.cons (.str _) (.cons (.str _) (.cons ((t3.fr e2).fr e3) .nil)))
        walk_at "q"
        refine ⟨D, ys, _, rfl, rfl, hy3, lty, ?_⟩
        obtain ⟨a1, a2⟩ := fin _ (.ref p3) ((e1.trans e2).trans e3) hy3 (hty2.fr e3) htx
        exact ⟨⟨_, rfl⟩, a1, a2⟩
    | @lt y e hy1 he =>
      obtain ⟨a, xs, rfl, ha⟩ := other "let" _ rfl (by decide +kernel) rfl
      walk_at "q"
      refine g_ixT ha (atI_nat (j := 0) rfl) ?_
      walk_at "q"
      refine ⟨le_of (by simp), two _ _ _ fun H2 e2 => ?_⟩
      have hy2 := e2.at hy (fun z => nomatch z)
      walk_at "q"
      refine ⟨D, ys, _, rfl, rfl, hy2, lty, ?_⟩
      obtain ⟨a1, a2⟩ := fin H2 (.ref a) (e1.trans e2) hy2 (hty.fr e2) (htp.fr e2)
      exact ⟨⟨_, rfl⟩, a1, a2⟩
    | @test sg x1 x2 hs h1 h2 =>
      obtain ⟨a, xs, rfl, ha⟩ := other "test" _ rfl (by decide +kernel) rfl
      walk_at "q"
      refine g_ixT ha (atI_nat (j := 0) rfl) ?_
      walk_at "q"
      refine ⟨le_of (by simp), two _ _ _ fun H2 e2 => ?_⟩
      have hy2 := e2.at hy (fun z => nomatch z)
      walk_at "q"
      refine ⟨D, ys, _, rfl, rfl, hy2, lty, ?_⟩
      obtain ⟨a1, a2⟩ := fin H2 (.ref a) (e1.trans e2) hy2 (hty.fr e2) (htp.fr e2)
      exact ⟨⟨_, rfl⟩, a1, a2⟩
  · obtain ⟨⟨z, rfl⟩, e1, ys, hy, hty, hyl⟩ := h
    walk_at "q"
    refine g_tupleL (SqL.of hy) fun p hp => ?_
    have ep : Fr [] H1 (upd H1 p (.tup ys)) := Fr.new hp
    rw [k1, List.take_length] at hty
    refine q _ _ (e1.trans ep) (.tup (SqT.of upd_same) ?_)
    rw [List.map_map]
    exact hty.fr ep
end
theorem PartW.full {p : PartE} (h : PartW p) : PartG (fullP p) := by
 cases h with
 | @atom no x ts hx _ _ hl h =>
  unfold fullP
  dsimp only
  split
  ·exact .atom (hx.mono (by decide)) hl fun t ht => (h t ht).g
  ·exact .atom (((Tx.lit (n := 2) (t := "q.") (by decide +kernel)).app hx).mono (by decide)) hl fun t ht => (h t ht).g
 | lt hx h => exact .lt hx.1.tx h.g
 | test hs h k => exact .test (testL_tx hs) h.g k.g
def vdA : List (Str × Str) := [("x", "number"), ("y", "number")]
theorem vdA_g : VdG vdA := ⟨by decide, fun p hp => by
 simp only [vdA, List.mem_cons, List.not_mem_nil, or_false] at hp
 rcases hp with rfl | rfl
 ·exact ⟨varB_ok (by decide +kernel), .inl rfl⟩
 ·exact ⟨varB_ok (by decide +kernel), .inl rfl⟩⟩
theorem vdA_merge : mergeK [] (kvOf vdA) = kvOf vdA := mergeK_nd (acc := []) (by
 show ([(Sum.inr "x" : Key), Sum.inr "y"]).Nodup
 decide +kernel)
theorem VdG.at_ {vd : List (Str × Str)} (h : VdG vd) {H : Hp} {d : Addr} (e : H d = some (.dK (kvOf vd))) : VarsAt H d vd := ⟨e, by have := h.len; omega, fun p hp => (h.ok p hp).1.ok⟩
structure BiX (mg : Str → Option Value) : Prop where
 b_ValueError : mg "ValueError" = none
abbrev s_LoreError_ini : Stmt := methS 1 0
theorem sc_LoreError_ini : FnScope ["self", "word"] ["self", "word"] (defScope s_LoreError_ini) := ⟨rfl, rfl, rfl, by decide +kernel, rfl, by decide +kernel, by decide +kernel⟩
theorem ok_LoreError_ini {P : Program} {w : World} {K : PySem.W.Frag} {mg : Str → Option Value} {base : Heap} {f : Addr} {fd : FuncData} (F : FnM K "LoreError.__init__" s_LoreError_ini f fd) (B : BiX mg) : FnG P w K mg base CX0 1 f fd ["self", "word"] (spL K) := by
 refine okG F sc_LoreError_ini (fun vs H Q E h => ?_) (fun cdv A outer s H vs Q E hr h => ?_)
 ·obtain ⟨a, C, y, rfl, _⟩ := h
  rfl
 obtain ⟨a, C, y, rfl, ⟨oe, hn, ha⟩, q⟩ := h
 refine ⟨_, PSs.nox (pss_cons (ps_expr (kVeI (K := K) rfl (pe_veinit (by rfl) B.b_ValueError (find_VE _) (pa_cons (pv 0) (pa_cons (pv 1) pa_nil)))))
 (pss_one (kOst (K := K) rfl (ps_ost (pv 0) (pv 1))))), rd_start (σ0 := [some (.ref a), some y]) rfl ?_⟩
 walk_at "q"
 refine ⟨a, C, [y], rfl, Nat.le_of_ble_eq_true rfl, oe, ha, ?_⟩
 walk_at "q"
 refine ⟨a, C, rfl, oe, hn, .inl ⟨ha, fun d hd hne => ?_⟩⟩
 exact q d _ hd hne (Fr.exd hd ha) upd_same (by rw [upd_ne hne]; exact upd_same)
abbrev s_BadText_ini : Stmt := methS 3 0
theorem sc_BadText_ini : FnScope ["self", "at"] ["self", "at"] (defScope s_BadText_ini) := ⟨rfl, rfl, rfl, by decide +kernel, rfl, by decide +kernel, by decide +kernel⟩
theorem ok_BadText_ini {P : Program} {w : World} {K : PySem.W.Frag} {mg : Str → Option Value} {base : Heap} {f a_TextError : Addr} {fd : FuncData} (F : FnM K "BadText.__init__" s_BadText_ini f fd) (G_TextError : ClG P w K mg base 1 "TextError" a_TextError (spL K)) : FnG P w K mg base CX0 2 f fd ["self", "at"] (spI1 K "badtext" "at") := by
 refine okG F sc_BadText_ini (fun vs H Q E h => ?_) (fun cdv A outer s H vs Q E hr h => ?_)
 ·obtain ⟨a, C, y, rfl, _⟩ := h
  rfl
 obtain ⟨a, C, y, rfl, ⟨oe, hn, ha⟩, hf, q⟩ := h
 refine ⟨_, PSs.nox (pss_cons (ps_expr (pe_fini G_TextError hr rfl (pa_cons (pv 0) (pa_cons pe_str pa_nil))))
 (pss_one (kOst (K := K) rfl (ps_ost (pv 0) (pv 1))))), rd_start (σ0 := [some (.ref a), some y]) rfl ?_⟩
 walk_at "q"
 refine ⟨a, C, _, rfl, ⟨oe, hn, ha⟩, fun d H1 hd hne fr e1 e2 => ?_⟩
 walk_at "q"
 refine ⟨a, C, rfl, oe, hf, .inr ⟨d, _, e1, e2, by decide, ?_⟩⟩
 exact q d _ hd hne (fr.over hd) (by rw [upd_ne (Ne.symm hne)]; exact e1) upd_same
theorem walk_sg {z : Str} : Walk (Its z) z.cps.toList.length (fun _ => True) (YAt (z.cps.toList.map fun c => V.str ⟨#[c]⟩)) := by
 have e : z.cps.toList.length = z.cps.size := Array.length_toList
 rw [e]
 refine ⟨walk_str.goes, walk_str.stops, fun i H v H' hi q y => ?_⟩
 obtain ⟨h1, c, h2, rfl⟩ := walk_str.yields i H v H' hi q y
 refine ⟨h1, ?_⟩
 rw [List.getElem?_map, Array.getElem?_toList, h2]
 rfl
theorem lc_sg {z : Str} {p : Nat → Bool} {g : TG} {te : TE} {vs : List Nat} {σ : L2.St} {H1 : Hp} {D : Addr} {Qd : Hp → Prop} (hz : z.length ≤ 10000) (hD : H1 D = none)
  (body : ∀ (c : Nat) (H' : Hp) (A : V → Hp → Prop), Fr [] H1 H' → (∀ H4, Fr [] H' H4 → A (.bl (p c)) H4) → g (.str ⟨#[c]⟩) (wipe σ vs) H' fun σ2 H2 => wipe σ2 vs = wipe σ vs ∧ te σ2 H2 A)
  (fin : ∀ H', Fr [] H1 H' → H' D = some (.lst ((z.cps.toList.map p).map V.bl)) → Qd H') :
  ∃ W : Nat → Nat → Hp → Prop, (∃ m, W 0 m (upd H1 D (.lst []))) ∧ ∀ i m H, W i m H →
   ((Its z).stop i H ∧ Qd H) ∨ ((Its z).go i H ∧ ∃ Nx : Hp → Prop, (∀ H', Nx H' → ∃ m', m' < m ∧ W (i + 1) m' H') ∧ ∀ x H', (Its z).yld i H x H' → g x (wipe σ vs) H' fun σ2 H2 => wipe σ2 vs = wipe σ vs ∧ tYes σ2 H2 fun b H3 =>
    if b = true then te σ2 H3 fun y H4 => ∃ acc, H4 D = some (.lst acc) ∧ acc.length < sizeLine ∧ Nx (upd H4 D (.lst (acc ++ [y]))) else Nx H3) := by
 have e : z.cps.toList.length = z.length := Array.length_toList
 refine lc_map walk_sg (ys := (z.cps.toList.map p).map V.bl) (fun _ _ => trivial) (by simp) (by simp) (by omega) hD (fun i x y H' A hx hy e k => ?_) fin
 rw [List.getElem?_map] at hx
 rw [List.getElem?_map, List.getElem?_map] at hy
 cases q : z.cps.toList[i]? with
 | none => rw [q] at hx; cases hx
 | some c =>
  rw [q] at hx hy
  cases hx
  cases hy
  exact body c H' A e k
abbrev z_LETTERS : Str := "abcdefghijklmnopqrstuvwxyz"
abbrev z_FIGURES : Str := "0123456789"
abbrev z_MOST_SIGNS : Int := 12
abbrev z_MOST_FIGURES : Int := 30
theorem in_let (c : Nat) : (!(Builtin.Str.occurrences z_LETTERS ⟨#[c]⟩ 0 z_LETTERS.length 1).isEmpty) = isLet c := by
 rw [StrLaws.found_one]
 have e : z_LETTERS.cps.toList = [97, 98, 99, 100, 101, 102, 103, 104, 105, 106, 107, 108, 109, 110, 111, 112, 113, 114, 115, 116, 117, 118, 119, 120, 121, 122] := by decide +kernel
 rw [e]
 unfold isLet
 refine decide_eq_decide.mpr ?_
 simp only [List.mem_cons, List.not_mem_nil, or_false]
 omega
theorem in_fig (c : Nat) : (!(Builtin.Str.occurrences z_FIGURES ⟨#[c]⟩ 0 z_FIGURES.length 1).isEmpty) = isFig c := by
 rw [StrLaws.found_one]
 have e : z_FIGURES.cps.toList = [48, 49, 50, 51, 52, 53, 54, 55, 56, 57] := by decide +kernel
 rw [e]
 unfold isFig
 refine decide_eq_decide.mpr ?_
 simp only [List.mem_cons, List.not_mem_nil, or_false]
 omega
def goodL (l : List Nat) : Bool := match l with
 | [] => false
 | c :: r => decide (r.length ≤ 11) && (isLet c && (c :: r).all (fun d => isLet d || isFig d))
def goodW (z : Str) : Bool := goodL z.cps.toList
def keptW : List Str := ["if", "not", "is", "count", "sum", "least", "most", "yes", "no", "me"]
structure GlV (K : PySem.W.Frag) (mg : Str → Option Value) (a_KEPT : Addr) : Prop where
 l : ∃ t, mg "LETTERS" = some (.str z_LETTERS t)
 f : ∃ t, mg "FIGURES" = some (.str z_FIGURES t)
 s : ∃ t, mg "MOST_SIGNS" = some (.int z_MOST_SIGNS t)
 n : ∃ t, mg "MOST_FIGURES" = some (.int z_MOST_FIGURES t)
 k : mg "KEPT" = some (.ref a_KEPT)
 kt : ∀ H, SqT K H a_KEPT (keptW.map V.str)
structure BiV (mg : Str → Option Value) : Prop where
 b_all : mg "all" = none
 b_len : mg "len" = none
 b_isinstance : mg "isinstance" = none
 b_bool : mg "bool" = none
 b_int : mg "int" = none
 b_str : mg "str" = none
 b_ValueError : mg "ValueError" = none
 b_list : mg "list" = none
 b_range : mg "range" = none
def spB (p : Str → Bool) : Sp := fun vs H Q _ => ∃ z, vs = [.str z] ∧ Tx 9000 z ∧ ∀ H', Fr [] H H' → Q (.bl (p z)) H'
theorem at0 {z : Str} {c : Nat} {r : List Nat} (e : z.cps.toList = c :: r) : atI z.cps.toList 0 = some c := by rw [e]; exact atI_nat (j := 0) rfl
theorem len_l (z : Str) : z.length = z.cps.toList.length := Array.length_toList.symm
abbrev s_is_word : Stmt := topS 10
theorem sc_is_word : FnScope ["text", "sign"] ["text"] (defScope s_is_word) := ⟨rfl, rfl, rfl, by decide +kernel, rfl, by decide +kernel, by decide +kernel⟩
abbrev s_is_name : Stmt := topS 11
theorem sc_is_name : FnScope ["text"] ["text"] (defScope s_is_name) := ⟨rfl, rfl, rfl, by decide +kernel, rfl, by decide +kernel, by decide +kernel⟩
section
variable {P : Program} {w : World} {K : PySem.W.Frag} {mg : Str → Option Value} {base : Heap} {a_KEPT : Addr}
theorem ok_is_word {f : Addr} {fd : FuncData} (F : FnP K "is_word" s_is_word f fd) (B : BiV mg) (G : GlV K mg a_KEPT) : FnG P w K mg base CX0 20 f fd ["text"] (spB goodW) := by
 refine okG F sc_is_word (fun vs H Q E h => ?_) (fun cdv A outer s H vs Q E hr h => ?_)
 ·obtain ⟨z, rfl, _⟩ := h
  rfl
 obtain ⟨z, rfl, hz, q⟩ := h
 obtain ⟨tL, g_LETTERS⟩ := G.l
 obtain ⟨tF, g_FIGURES⟩ := G.f
 obtain ⟨tS, g_MOST_SIGNS⟩ := G.s
 have zl := hz.len
 have zs : z.length ≤ sizeLine := le_of (by omega)
 have ll := len_l z
 refine ⟨_, PSs.nox (pss_cons (ps_if (PW.pt (pw_or (pt_not (pt_chain opu_le opu_le pe_int (pe_callB (kCall (K := K) (r := uLen) rfl callu_len) (by rfl) B.b_len (by decide +kernel) (pa_cons (pv 0) pa_nil)) (pe_glob (v := .int z_MOST_SIGNS) rfl g_MOST_SIGNS ⟨_, rfl⟩))) (pw_or1 (pt_cmpR (kOp (K := K) (r := uNotIn) rfl opu_notIn) (pe_ix (kIx (K := K) (r := rIx) rfl ix_seq) (pv 0) pe_int (fun _ _ => rfl)) (pe_glob (v := .str z_LETTERS) rfl g_LETTERS ⟨_, rfl⟩) (by rfl))))) (pss_one (ps_ret pe_bl)) pss_nil)
 (pss_one (ps_ret (pe_callB (kCall (K := K) (r := rAll) rfl (cr_all rfl)) (by rfl) B.b_all (by decide +kernel) (pa_cons (pe_lc (own := [("sign", 1)]) (g := gName 1) (tt := tYes) rfl sc_is_word.nd (pi_str (pv 0)) (blkOk_by (own := [("sign", 1)]) (N := ["text", "sign"]) (sc := defScope s_is_word) (by decide +kernel)) (fun _ _ _ _ _ => (by exact (pg_name (i := 1) sc_is_word.nd rfl (by first | exact Or.inl rfl | exact Or.inr rfl)))) (fun _ _ _ _ _ => pts_nil) (fun _ _ _ _ _ => (by exact (pe_orTK (K := K) rfl (pe_cmpR (kOp (K := K) (r := uIn) rfl opu_in) (pv 1) (pe_glob (v := .str z_LETTERS) rfl g_LETTERS ⟨_, rfl⟩) (by rfl)) (pe_one (pe_cmpR (kOp (K := K) (r := uIn) rfl opu_in) (pv 1) (pe_glob (v := .str z_FIGURES) rfl g_FIGURES ⟨_, rfl⟩) (by rfl))))))) pa_nil))))), rd_start (σ0 := [some (.str z), none]) rfl ?_⟩
 walk_at "q"
 refine g_lenS zs ?_
 walk_at "q"
 have no : goodW z = false → Q (.bl false) H := fun e => by
  have z1 := q H Fr.refl
  rw [e] at z1
  exact z1
 refine g_by (fun c1 => ?_) (fun c1 => ?_)
 ·obtain ⟨c, r, ez⟩ : ∃ c r, z.cps.toList = c :: r := by
   cases e : z.cps.toList with
   | nil => rw [e] at ll; simp at ll; omega
   | cons c r => exact ⟨c, r, rfl⟩
  have lr : r.length + 1 = z.length := by rw [ll, ez]; rfl
  have eg : goodW z = (decide (r.length ≤ 11) && (isLet c && (c :: r).all (fun d => isLet d || isFig d))) := by
   unfold goodW
   rw [ez]
   rfl
  walk_at "q"
  refine g_byN (fun c2 => ?_) (fun c2 => ?_)
  ·walk_at "q"
   refine no ?_
   have h : ¬ r.length ≤ 11 := fun h => c2 (by show (z.length : Int) ≤ 12; omega)
   rw [eg, decide_eq_false h]
   rfl
  ·walk_at "q"
   refine g_ixS zs (at0 ez) ?_
   walk_at "q"
   refine g_notInS ?_
   rw [in_let]
   have h : r.length ≤ 11 := by
    have c3 : (z.length : Int) ≤ 12 := c2
    omega
   rw [decide_eq_true h, Bool.true_and] at eg
   walk_at "q"
   cases hc : isLet c with
   | false =>
    refine g_tt rfl ?_
    walk_at "q"
    refine no ?_
    rw [eg, hc]
    rfl
   | true =>
    refine g_ff rfl ?_
    walk_at "q"
    refine ⟨z, rfl, fun D hD => lc_sg (p := fun d => isLet d || isFig d) (by omega) hD (fun d H' A e k => ?_) (fun H' e hl => ?_)⟩
    ·walk_at "q"
     refine ⟨rfl, ?_⟩
     walk_at "q"
     refine g_inS ?_
     rw [in_let]
     walk_at "q"
     cases hd : isLet d with
     | true =>
      refine g_tt rfl ?_
      have z1 := k H' Fr.refl
      simp only [hd, Bool.true_or] at z1
      exact z1
     | false =>
      refine g_ff rfl ?_
      walk_at "q"
      refine g_inS ?_
      rw [in_fig]
      have z1 := k H' Fr.refl
      simp only [hd, Bool.false_or] at z1
      exact z1
    ·walk_at "q"
     refine ⟨D, _, rfl, SqL.of hl, ?_⟩
     have z1 := q H' e
     rw [eg, hc, Bool.true_and, ← ez] at z1
     rw [List.all_map]
     exact z1
 ·walk_at "q"
  refine no ?_
  unfold goodW
  have e : z.cps.toList = [] := by
   cases e : z.cps.toList with
   | nil => rfl
   | cons c r => rw [e] at ll; simp at ll; omega
  rw [e]
  rfl
theorem ok_is_name {f : Addr} {fd : FuncData} (F : FnP K "is_name" s_is_name f fd) (G : GlV K mg a_KEPT) (C_is_word : CalG P w K mg base 20 "is_word" (spB goodW)) : FnG P w K mg base CX0 21 f fd ["text"] (spB fun z => goodW z && !decide (z ∈ keptW)) := by
 refine okG F sc_is_name (fun vs H Q E h => ?_) (fun cdv A outer s H vs Q E hr h => ?_)
 ·obtain ⟨z, rfl, _⟩ := h
  rfl
 obtain ⟨z, rfl, hz, q⟩ := h
 have g_KEPT := G.k
 refine ⟨_, PSs.nox (pss_one (ps_ret (pe_andTK (K := K) rfl (pe_calG C_is_word hr rfl (pa_cons (pv 0) pa_nil)) (pe_one (pe_cmpR (kOp (K := K) (r := uNotIn) rfl opu_notIn) (pv 0) (pe_glob (v := .ref a_KEPT) rfl g_KEPT rfl) (by rfl)))))), rd_start (σ0 := [some (.str z)]) rfl ?_⟩
 walk_at "q"
 refine ⟨z, rfl, hz, fun H1 f1 => ?_⟩
 walk_at "q"
 have z1 := q H1 f1
 refine g_byB (fun c => ?_) (fun c => ?_)
 ·walk_at "q"
  refine g_notInT (.inr (G.kt _)) (flat_strs _) ?_
  rw [inV_str]
  simp only [c, Bool.true_and] at z1
  exact z1
 ·simp only [c, Bool.false_and] at z1
  rw [c]
  exact z1
end
theorem str_ext {a b : Str} (h : a.cps.toList = b.cps.toList) : a = b := by
 obtain ⟨⟨a⟩⟩ := a
 obtain ⟨⟨b⟩⟩ := b
 have e : a = b := h
 rw [e]
theorem dec_str (a b : Str) : decide (a = b) = decide (a.cps.toList = b.cps.toList) := decide_eq_decide.mpr ⟨fun h => by rw [h], str_ext⟩
theorem cut_drop1 (z : Str) : (cutS z (some 1) none).cps.toList = z.cps.toList.drop 1 := by
 show ((z.cps.toList.drop (HT.sIx z.length 0 (some ((1 : Nat) : Int)))).take (HT.sIx z.length z.length none - HT.sIx z.length 0 (some ((1 : Nat) : Int)))).toArray.toList = _
 rw [HT.sIx_nat, HT.sIx_none, len_l]
 cases z.cps.toList with
 | nil => rfl
 | cons c r =>
  have e : min 1 (c :: r).length = 1 := by simp
  rw [e]
  simp
theorem cut_take1 (z : Str) : (cutS z none (some 1)).cps.toList = z.cps.toList.take 1 := by
 show ((z.cps.toList.drop (HT.sIx z.length 0 none)).take (HT.sIx z.length z.length (some ((1 : Nat) : Int)) - HT.sIx z.length 0 none)).toArray.toList = _
 rw [HT.sIx_nat, HT.sIx_none, len_l]
 cases z.cps.toList with
 | nil => rfl
 | cons c r =>
  have e : min 1 (c :: r).length = 1 := by simp
  rw [e]
  simp
theorem g_cutE {te : TE} {σ : L2.St} {H : Hp} {Q : VK} (Pv : V → Hp → Prop) (h1 : ∀ x H', Pv x H' → Q x H') (h2 : ∀ Q' : VK, (∀ x H', Pv x H' → Q' x H') → te σ H Q') : te σ H Q := h2 Q h1
theorem sg_eq (c d : Nat) : decide ((⟨#[c]⟩ : Str) = ⟨#[d]⟩) = decide (c = d) := by
 rw [dec_str]
 refine decide_eq_decide.mpr ?_
 show [c] = [d] ↔ c = d
 simp
def figL (l : List Nat) : List Nat := match l with
 | c :: r => if c = 45 then r else c :: r
 | [] => []
theorem figL_cons (c : Nat) (r : List Nat) : figL (c :: r) = if c = 45 then r else c :: r := rfl
def numB (z : Str) : Bool := decide (1 ≤ (figL z.cps.toList).length ∧ (figL z.cps.toList).length ≤ 30) && ((figL z.cps.toList).all isFig && (!decide (z = "-0") && (decide (figL z.cps.toList = [48]) || !decide ((figL z.cps.toList).head? = some 48))))
theorem minus_head (z : Str) : decide (cutS z none (some 1) = "-") = decide (z.cps.toList.head? = some 45) := by
 rw [dec_str, cut_take1]
 refine decide_eq_decide.mpr ?_
 rw [show ("-" : Str).cps.toList = [45] by decide +kernel]
 cases z.cps.toList with
 | nil => simp
 | cons c r => simp
theorem fig_dig {l : List Nat} (h : l.all isFig = true) : NumText.AllDigits l := fun c hc => by
 have z := List.all_eq_true.mp h c hc
 unfold isFig at z
 exact of_decide_eq_true z
theorem dig_lt {l : List Nat} (h : NumText.AllDigits l) : ∀ a : Nat, l.foldl (fun acc c => acc * 10 + (c - 48)) a < (a + 1) * 10 ^ l.length := by
 induction l with
 | nil => intro a; simp
 | cons c r ih =>
  intro a
  have z := ih h.tail (a * 10 + (c - 48))
  have hc := h.head
  rw [List.foldl_cons, List.length_cons, Nat.pow_succ]
  refine Nat.lt_of_lt_of_le z ?_
  rw [Nat.mul_comm (10 ^ r.length) 10, ← Nat.mul_assoc]
  exact Nat.mul_le_mul_right _ (by omega)
theorem num_int {z : Str} (h : numB z = true) : ∃ n : Int, intText? z = some n ∧ n.natAbs < 10 ^ 30 := by
 unfold numB at h
 simp only [Bool.and_eq_true, decide_eq_true_eq] at h
 obtain ⟨⟨h1, h2⟩, h3, _⟩ := h
 have hd := fig_dig h3
 have ll := len_l z
 have bnd := dig_lt hd 0
 have p : 10 ^ (figL z.cps.toList).length ≤ 10 ^ 30 := Nat.pow_le_pow_right (by decide) h2
 have b2 : NumText.digitsVal (figL z.cps.toList) < 10 ^ 30 := by
  unfold NumText.digitsVal
  omega
 cases e : z.cps.toList with
 | nil => rw [e] at h1; simp [figL] at h1
 | cons c r =>
  rw [e] at h1 h2 hd ll b2
  rw [figL_cons] at h1 h2 hd b2
  by_cases hc : c = 45
  ·subst hc
   simp only [if_true] at h1 h2 hd b2
   have ne : r ≠ [] := fun z => by rw [z] at h1; simp at h1
   refine ⟨_, PySem.intText_neg e hd ne (by simp only [List.length_cons] at ll; omega), ?_⟩
   rw [Int.natAbs_neg, Int.natAbs_natCast]
   exact b2
  ·simp only [if_neg hc] at h1 h2 hd b2
   refine ⟨_, PySem.intText_digits (by rw [e]; exact hd) (by rw [e]; simp) (by omega), ?_⟩
   rw [Int.natAbs_natCast, e]
   exact b2
abbrev s_is_number : Stmt := topS 12
theorem sc_is_number : FnScope ["text", "figures", "sign"] ["text"] (defScope s_is_number) := ⟨rfl, rfl, rfl, by decide +kernel, rfl, by decide +kernel, by decide +kernel⟩
section
variable {P : Program} {w : World} {K : PySem.W.Frag} {mg : Str → Option Value} {base : Heap} {a_KEPT : Addr}
theorem ok_is_number {f : Addr} {fd : FuncData} (F : FnP K "is_number" s_is_number f fd) (B : BiV mg) (G : GlV K mg a_KEPT) : FnG P w K mg base CX0 20 f fd ["text"] (spB numB) := by
 refine okG F sc_is_number (fun vs H Q E h => ?_) (fun cdv A outer s H vs Q E hr h => ?_)
 ·obtain ⟨z, rfl, _⟩ := h
  rfl
 obtain ⟨z, rfl, hz, q⟩ := h
 obtain ⟨tF, g_FIGURES⟩ := G.f
 obtain ⟨tS, g_MOST_FIGURES⟩ := G.n
 have zl := hz.len
 have zs : z.length ≤ sizeLine := le_of (by omega)
 have ll := len_l z
 refine ⟨_, PSs.nox (pss_cons (ps_set (i := 1) sc_is_number.nd rfl (.inl rfl) (pe_ifExp (pt_cmpR (kOp (K := K) (r := uEq) rfl (opu_eq hr.units)) (pe_slice sl_str (pv 0) po_none (po_some pe_int)) pe_str (nomark _)) (pe_slice sl_str (pv 0) (po_some pe_int) po_none) (pv 0)))
 (pss_cons (ps_if (PW.pt (pw_or (pt_not (pt_chain opu_le opu_le pe_int (pe_callB (kCall (K := K) (r := uLen) rfl callu_len) (by rfl) B.b_len (by decide +kernel) (pa_cons (pv 1) pa_nil)) (pe_glob (v := .int z_MOST_FIGURES) rfl g_MOST_FIGURES ⟨_, rfl⟩))) (pw_or1 (pt_not (pt_val (pe_callB (kCall (K := K) (r := rAll) rfl (cr_all rfl)) (by rfl) B.b_all (by decide +kernel) (pa_cons (pe_lc (own := [("sign", 2)]) (g := gName 2) (tt := tYes) rfl sc_is_number.nd (pi_str (pv 1)) (blkOk_by (own := [("sign", 2)]) (N := ["text", "figures", "sign"]) (sc := defScope s_is_number) (by decide +kernel)) (fun _ _ _ _ _ => (by exact (pg_name (i := 2) sc_is_number.nd rfl (by first | exact Or.inl rfl | exact Or.inr rfl)))) (fun _ _ _ _ _ => pts_nil) (fun _ _ _ _ _ => (by exact (pe_cmpR (kOp (K := K) (r := uIn) rfl opu_in) (pv 2) (pe_glob (v := .str z_FIGURES) rfl g_FIGURES ⟨_, rfl⟩) (by rfl))))) pa_nil))))))) (pss_one (ps_ret pe_bl)) pss_nil)
 (pss_one (ps_ret (pe_andTK (K := K) rfl (pe_cmpR (kOp (K := K) (r := uNe) rfl (opu_ne hr.units)) (pv 0) pe_str (nomark _)) (pe_one (pe_orTK (K := K) rfl (pe_cmpR (kOp (K := K) (r := uEq) rfl (opu_eq hr.units)) (pv 1) pe_str (nomark _)) (pe_one (pe_cmpR (kOp (K := K) (r := uNe) rfl (opu_ne hr.units)) (pe_ix (kIx (K := K) (r := rIx) rfl ix_seq) (pv 1) pe_int (fun _ _ => rfl)) pe_str (nomark _)))))))))), rd_start (σ0 := [some (.str z), none, none]) rfl ?_⟩
 refine g_seq (g_asg (g_cutE (fun x H' => H' = H ∧ ∃ y, x = .str y ∧ y.cps.toList = figL z.cps.toList) (fun x H' h => ?_) (fun Q' k => ?_)))
 rotate_left
 ·walk_at "q"
  refine g_slS zs ?_
  walk_at "q"
  rw [minus_head]
  refine g_by (fun c => ?_) (fun c => ?_)
  ·walk_at "q"
   refine g_slS zs ?_
   refine k _ _ ⟨rfl, _, rfl, ?_⟩
   rw [cut_drop1]
   cases e : z.cps.toList with
   | nil => rfl
   | cons d r =>
    rw [e] at c
    have c2 : d = 45 := by simpa using c
    subst c2
    rfl
  ·walk_at "q"
   refine k _ _ ⟨rfl, _, rfl, ?_⟩
   cases e : z.cps.toList with
   | nil => rfl
   | cons d r =>
    rw [e] at c
    have c2 : ¬ d = 45 := by simpa using c
    rw [figL_cons, if_neg c2]
 obtain ⟨rfl, y, rfl, hy⟩ := h
 have fl : (figL z.cps.toList).length ≤ z.cps.toList.length := by
  cases e : z.cps.toList with
  | nil => exact Nat.le_refl _
  | cons d r =>
   rw [figL_cons]
   by_cases c : d = 45
   ·rw [if_pos c]; simp
   ·rw [if_neg c]; exact Nat.le_refl _
 have yl : y.length = (figL z.cps.toList).length := by rw [len_l, hy]
 have ys : y.length ≤ sizeLine := le_of (by omega)
 have no : numB z = false → Q (.bl false) H' := fun e => by
  have z1 := q H' Fr.refl
  rw [e] at z1
  exact z1
 have en : numB z = (decide (1 ≤ y.length ∧ y.length ≤ 30) && (y.cps.toList.all isFig && (!decide (z = "-0") && (decide (y.cps.toList = [48]) || !decide (y.cps.toList.head? = some 48))))) := by
  unfold numB
  rw [← hy, ← len_l]
 walk_at "q"
 refine g_lenS ys ?_
 walk_at "q"
 refine g_by (fun c1 => ?_) (fun c1 => ?_)
 ·walk_at "q"
  refine g_byN (fun c2 => ?_) (fun c2 => ?_)
  ·walk_at "q"
   refine no ?_
   have h : ¬ (1 ≤ y.length ∧ y.length ≤ 30) := fun h => c2 (by show (y.length : Int) ≤ 30; omega)
   rw [en, decide_eq_false h]
   rfl
  ·have h : 1 ≤ y.length ∧ y.length ≤ 30 := by
    have c3 : (y.length : Int) ≤ 30 := c2
    omega
   rw [decide_eq_true h, Bool.true_and] at en
   walk_at "q"
   refine ⟨y, rfl, fun D hD => lc_sg (p := isFig) (by omega) hD (fun d H2 A e k => ?_) (fun H2 e hl => ?_)⟩
   ·walk_at "q"
    refine ⟨rfl, ?_⟩
    walk_at "q"
    refine g_inS ?_
    rw [in_fig]
    exact k _ Fr.refl
   ·walk_at "q"
    refine ⟨D, _, rfl, SqL.of hl, ?_⟩
    rw [List.all_map]
    have ef : ((id : Bool → Bool) ∘ isFig) = isFig := rfl
    rw [ef]
    have q2 := fun b (eb : numB z = b) => (eb ▸ q H2 e : Q (.bl b) H2)
    walk_at "q"
    cases hf : y.cps.toList.all isFig with
    | false =>
     refine g_tt rfl ?_
     walk_at "q"
     refine q2 _ ?_
     rw [en, hf]
     rfl
    | true =>
     refine g_ff rfl ?_
     rw [hf, Bool.true_and] at en
     walk_at "q"
     refine g_byN (fun c3 => ?_) (fun c3 => ?_)
     ·rw [decide_eq_false c3, Bool.not_false, Bool.true_and] at en
      walk_at "q"
      have e0 : decide (y = "0") = decide (y.cps.toList = [48]) := by rw [dec_str]; rfl
      rw [e0]
      refine g_by (fun c4 => ?_) (fun c4 => ?_)
      ·have z1 := q2 true (by rw [en, decide_eq_true c4]; rfl)
       rw [decide_eq_true c4]
       exact z1
      ·obtain ⟨c, r, ey⟩ : ∃ c r, y.cps.toList = c :: r := by
        cases e : y.cps.toList with
        | nil => have := len_l y; rw [e] at this; simp at this; omega
        | cons c r => exact ⟨c, r, rfl⟩
       walk_at "q"
       refine g_ixS ys (at0 ey) ?_
       walk_at "q"
       have e5 : decide ((⟨#[c]⟩ : Str) = "0") = decide (c = 48) := by rw [dec_str]; exact decide_eq_decide.mpr (by show [c] = [48] ↔ c = 48; simp)
       rw [e5]
       refine q2 _ ?_
       rw [en, decide_eq_false c4, Bool.false_or, ey]
       simp
     ·have c4 := q2 false (by rw [en, decide_eq_true c3]; rfl)
      rw [decide_eq_true c3]
      exact c4
 ·walk_at "q"
  refine no ?_
  have h : ¬ (1 ≤ y.length ∧ y.length ≤ 30) := fun h => c1 (by show (1 : Int) ≤ y.length; omega)
  rw [en, decide_eq_false h]
  rfl
end
def isRun (c : Nat) : Bool := isLet c || isFig c || decide (c = 46)
def runE (l : List Nat) (n : Nat) : Nat := n + ((l.drop n).takeWhile isRun).length
abbrev z_RUN : Str := "abcdefghijklmnopqrstuvwxyz0123456789."
abbrev z_SIGNS : Str := "(),_+-*=<>"
theorem in_run (c : Nat) : (!(Builtin.Str.occurrences z_RUN ⟨#[c]⟩ 0 z_RUN.length 1).isEmpty) = isRun c := by
 rw [StrLaws.found_one]
 have e : z_RUN.cps.toList = [97, 98, 99, 100, 101, 102, 103, 104, 105, 106, 107, 108, 109, 110, 111, 112, 113, 114, 115, 116, 117, 118, 119, 120, 121, 122, 48, 49, 50, 51, 52, 53, 54, 55, 56, 57, 46] := by decide +kernel
 rw [e]
 unfold isRun isLet isFig
 rw [Bool.eq_iff_iff]
 simp only [List.mem_cons, List.not_mem_nil, or_false, decide_eq_true_eq, Bool.or_eq_true]
 omega
def nameB (z : Str) : Bool := goodW z && !decide (z ∈ keptW)
def fullB (z : Str) : Bool := decide ((Txt.split z ".").length = 2 ∨ (Txt.split z ".").length = 3) && (Txt.split z ".").all nameB
def runT (z : Str) : Option (Str × V) := if z = "yes" ∨ z = "no" then some ("value", .bl (decide (z = "yes"))) else if z ∈ keptW then some ("kept", .str z) else if nameB z = true then some ("name", .str z) else if fullB z = true then some ("full", .str z)
 else if numB z = true then some ("value", .int ((intText? z).getD 0)) else none
theorem join_mem {sep : Str} : ∀ {ys : List Str} {y : Str} {c : Nat}, y ∈ ys → c ∈ y.cps.toList → c ∈ (Txt.join sep ys).cps.toList
 | [], _, _, h, _ => nomatch h
 | [a], y, c, h, k => by
  rw [List.mem_singleton.mp h] at k
  rw [TL.join_eq]
  exact k
 | a :: b :: r, y, c, h, k => by
  rw [join_cons]
  show c ∈ (a.cps ++ sep.cps ++ (Txt.join sep (b :: r)).cps).toList
  rw [Array.toList_append, Array.toList_append]
  rcases List.mem_cons.mp h with rfl | h
  ·exact List.mem_append_left _ (List.mem_append_left _ k)
  ·exact List.mem_append_right _ (join_mem h k)
theorem le_sum : ∀ {l : List Nat} {n : Nat}, n ∈ l → n ≤ l.sum
 | a :: r, n, h => by
  rw [List.sum_cons]
  rcases List.mem_cons.mp h with rfl | h
  ·exact Nat.le_add_right _ _
  ·exact Nat.le_trans (le_sum h) (Nat.le_add_left _ _)
theorem split_tx {z y : Str} (hz : Tx 9000 z) (h : y ∈ Txt.split z ".") : Tx 9000 y := by
 have w := PyProof.Rows.split_weight z "." (by decide)
 have l : y.length ≤ ((Txt.split z ".").map (·.length)).sum := le_sum (List.mem_map.mpr ⟨y, h, rfl⟩)
 have hl := hz.len
 have hp : 1 ≤ (Txt.split z ".").length := by
  cases e : Txt.split z "." with
  | nil => rw [e] at h; exact nomatch h
  | cons a r => simp
 refine ⟨by omega, fun c hc => hz.ok c ?_⟩
 have j := join_mem (sep := ".") h hc
 rwa [show Txt.join "." (Txt.split z ".") = z from (TL.join_eq _ _).trans (StrLaws.join_split z ".")] at j
structure BiR (mg : Str → Option Value) : Prop where
 b_len : mg "len" = none
 b_all : mg "all" = none
 b_int : mg "int" = none
 b_min : mg "min" = none
abbrev s_run_end : Stmt := topS 17
theorem sc_run_end : FnScope ["text", "at"] ["text", "at"] (defScope s_run_end) := ⟨rfl, rfl, rfl, by decide +kernel, rfl, by decide +kernel, by decide +kernel⟩
abbrev s_is_full : Stmt := topS 18
theorem sc_is_full : FnScope ["text", "names", "name"] ["text"] (defScope s_is_full) := ⟨rfl, rfl, rfl, by decide +kernel, rfl, by decide +kernel, by decide +kernel⟩
abbrev s_run_thing : Stmt := topS 19
theorem sc_run_thing : FnScope ["run", "at"] ["run", "at"] (defScope s_run_thing) := ⟨rfl, rfl, rfl, by decide +kernel, rfl, by decide +kernel, by decide +kernel⟩
def spRunE : Sp := fun vs H Q _ => ∃ (z : Str) (n : Nat), vs = [.str z, .int (n : Int)] ∧ Tx 9000 z ∧ Q (.int (runE z.cps.toList n : Nat)) H
theorem runE_step {l : List Nat} {n c : Nat} (h : l[n]? = some c) : runE l n = if isRun c = true then runE l (n + 1) else n := by
 unfold runE
 have hn : n < l.length := (List.getElem?_eq_some_iff.mp h).1
 have e : l.drop n = c :: l.drop (n + 1) := by
  rw [List.drop_eq_getElem_cons hn]
  congr 1
  exact (List.getElem?_eq_some_iff.mp h).2
 rw [e, List.takeWhile_cons]
 by_cases k : isRun c = true
 ·rw [if_pos k, if_pos k, List.length_cons]; omega
 ·rw [if_neg k, if_neg k]; rfl
theorem runE_end {l : List Nat} {n : Nat} (h : l.length ≤ n) : runE l n = n := by
 unfold runE
 rw [List.drop_eq_nil_of_le h]
 rfl
section
variable {P : Program} {w : World} {K : PySem.W.Frag} {mg : Str → Option Value} {base : Heap} {a_KEPT a_BadText : Addr}
theorem ok_run_end {f : Addr} {fd : FuncData} (F : FnP K "run_end" s_run_end f fd) (B : BiR mg) (G : ∃ t, mg "RUN" = some (.str z_RUN t)) : FnG P w K mg base CX0 3 f fd ["text", "at"] spRunE := by
 refine okG F sc_run_end (fun vs H Q E h => ?_) (fun cdv A outer s H vs Q E hr h => ?_)
 ·obtain ⟨z, n, rfl, _⟩ := h
  rfl
 obtain ⟨z, n, rfl, hz, q⟩ := h
 obtain ⟨tR, g_RUN⟩ := G
 have zl := hz.len
 have zs : z.length ≤ sizeLine := le_of (by omega)
 have ll := len_l z
 refine ⟨_, PSs.nox (pss_cons (ps_while PassesOwn.never (PW.pt (pw_and (pt_cmpR (kOp (K := K) (r := uLt) rfl opu_lt) (pv 1) (pe_callB (kCall (K := K) (r := uLen) rfl callu_len) (by rfl) B.b_len (by decide +kernel) (pa_cons (pv 0) pa_nil)) (nomark _)) (pw_and1 (pt_cmpR (kOp (K := K) (r := uIn) rfl opu_in) (pe_ix (kIx (K := K) (r := rIx) rfl ix_seq) (pv 0) (pv 1) (fun _ _ => rfl)) (pe_glob (v := .str z_RUN) rfl g_RUN ⟨_, rfl⟩) (by rfl))))) (pss_one (ps_aug (i := 1) sc_run_end.nd rfl (.inl rfl) pe_int ip_add)))
 (pss_one (ps_ret (pv 1)))), rd_start (σ0 := [some (.str z), some (.int (n : Int))]) rfl ?_⟩
 walk_at "q"
 refine g_while2 (fun σ H' => ∃ m : Nat, σ = [some (.str z), some (.int (m : Int))] ∧ H' = H ∧ runE z.cps.toList m = runE z.cps.toList n) (fun σ H' => match σ with | [_, some (.int m)] => z.length - m.toNat | _ => 0) ⟨n, rfl, rfl, rfl⟩ (fun σ H' h => ?_)
 obtain ⟨m, rfl, rfl, e⟩ := h
 walk_at "q"
 refine g_lenS zs ?_
 walk_at "q"
 refine g_by (fun c => ?_) (fun c => ?_)
 ·have hm : m < z.cps.toList.length := by omega
  have hc : z.cps.toList[m]? = some z.cps.toList[m] := List.getElem?_eq_getElem hm
  have st := runE_step hc
  walk_at "q"
  refine g_ixS zs (atI_nat hc) ?_
  walk_at "q"
  refine g_inS ?_
  rw [in_run]
  generalize z.cps.toList[m] = d at *
  walk_at "q"
  refine g_byB (fun k => ?_) (fun k => ?_)
  ·rw [if_pos k] at st
   refine g_wt ?_
   refine g_aug1 rfl ⟨⟨m + 1, rfl, rfl, st.symm.trans e⟩, ?_⟩
   show z.length - ((m : Int) + 1).toNat < z.length - ((m : Int)).toNat
   omega
  ·rw [if_neg (by rw [k]; exact Bool.false_ne_true)] at st
   walk_at "q"
   rw [← e, st] at q
   exact q
 ·walk_at "q"
  rw [← e, runE_end (by omega)] at q
  exact q
theorem ok_is_full {f : Addr} {fd : FuncData} (F : FnP K "is_full" s_is_full f fd) (B : BiR mg) (C_is_name : CalG P w K mg base 21 "is_name" (spB fun z => goodW z && !decide (z ∈ keptW))) : FnG P w K mg base CX0 22 f fd ["text"] (spB fullB) := by
 refine okG F sc_is_full (fun vs H Q E h => ?_) (fun cdv A outer s H vs Q E hr h => ?_)
 ·obtain ⟨z, rfl, _⟩ := h
  rfl
 obtain ⟨z, rfl, hz, q⟩ := h
 have zl := hz.len
 have zs : z.length + 2 ≤ sizeLine := le_of (by omega)
 refine ⟨_, PSs.nox (pss_cons (ps_set (i := 1) sc_is_full.nd rfl (.inl rfl) (kBM (K := K) rfl (pe_bm PySem.F.plainAttrs_str PySem.F.slot_str_split PySem.F.type_str_split mt_split (pv 0) (pa_cons pe_str pa_nil))))
 (pss_one (ps_ret (pe_andTK (K := K) rfl (pe_cmpR (kOp (K := K) (r := uIn) rfl opu_in) (pe_callB (kCall (K := K) (r := uLen) rfl callu_len) (by rfl) B.b_len (by decide +kernel) (pa_cons (pv 1) pa_nil)) (pe_tup (pa_cons pe_int (pa_cons pe_int pa_nil))) (by rfl)) (pe_one (pe_callB (kCall (K := K) (r := rAll) rfl (cr_all rfl)) (by rfl) B.b_all (by decide +kernel) (pa_cons (pe_lc (own := [("name", 2)]) (g := gName 2) (tt := tYes) rfl sc_is_full.nd (pi_listK (K := K) rfl (pv 1)) (blkOk_by (own := [("name", 2)]) (N := ["text", "names", "name"]) (sc := defScope s_is_full) (by decide +kernel)) (fun _ _ _ _ _ => (by exact (pg_name (i := 2) sc_is_full.nd rfl (by first | exact Or.inl rfl | exact Or.inr rfl)))) (fun _ _ _ _ _ => pts_nil) (fun _ _ _ _ _ => (by exact (pe_calG C_is_name hr rfl (pa_cons (pv 2) pa_nil))))) pa_nil))))))), rd_start (σ0 := [some (.str z), none, none]) rfl ?_⟩
 walk_at "q"
 refine ⟨z, ".", rfl, rfl, by decide +kernel, zs, fun p hp => ?_⟩
 have e1 : Fr [] H (upd H p (.lst ((Txt.split z ".").map V.str))) := Fr.new hp
 have h1 : (upd H p (.lst ((Txt.split z ".").map V.str))) p = some (.lst ((Txt.split z ".").map V.str)) := upd_same
 have sx := fun y (h : y ∈ Txt.split z ".") => split_tx hz h
 have sl := PyProof.Rows.split_le z "."
 have ef : fullB z = (decide ((Txt.split z ".").length = 2 ∨ (Txt.split z ".").length = 3) && (Txt.split z ".").all nameB) := rfl
 generalize upd H p (.lst ((Txt.split z ".").map V.str)) = H1 at *
 generalize Txt.split z "." = ys at *
 walk_at "q"
 refine ⟨le_of (by simp), fun p2 hp2 => ?_⟩
 have e2 : Fr [] H1 (upd H1 p2 (.tup [.int 2, .int 3])) := Fr.new hp2
 have h2 : SqT K (upd H1 p2 (.tup [.int 2, .int 3])) p2 [.int 2, .int 3] := SqT.of upd_same
 have h12 := e2.at h1 (fun z => nomatch z)
 generalize upd H1 p2 (.tup [.int 2, .int 3]) = H2 at *
 have ei : inV (.int ((ys.map V.str).length : Nat)) [.int 2, .int 3] = decide (ys.length = 2 ∨ ys.length = 3) := by
  rw [List.length_map]
  unfold inV
  simp only [List.any_cons, List.any_nil, eqV, Bool.or_false]
  by_cases h2 : ys.length = 2
  ·rw [h2]; rfl
  ·by_cases h3 : ys.length = 3
   ·rw [h3]; rfl
   ·rw [decide_eq_false (by omega : ¬ (ys.length = 2 ∨ ys.length = 3)), Bool.or_eq_false_iff]
    refine ⟨?_, ?_⟩ <;> (simp [eqV]; omega)
 refine ⟨p2, [.int 2, .int 3], rfl, .inr h2, rfl, rfl, ?_⟩
 rw [ei]
 have E2 := e1.trans e2
 cases hd : decide (ys.length = 2 ∨ ys.length = 3) with
 | false =>
  walk_at "q"
  have z1 := q H2 E2
  rw [ef, hd] at z1
  exact z1
 | true =>
  walk_at "q"
  have yl : ys.length ≤ 3 := by have := of_decide_eq_true hd; omega
  refine ⟨p, rfl, ⟨_, SqL.of h12⟩, fun D hD => lc_it (walk_list (xs := ys.map V.str)) (fun i H' => Fr [] H2 H' ∧ H' D = some (.lst (((ys.take i).map nameB).map V.bl))) ⟨Fr.new hD, upd_same⟩ (fun i H' _ h => SqL.of (h.1.at h12 (fun z => nomatch z))) (fun i y H3 H4 hi h yy => ?_) (fun H3 h => ?_)⟩
  ·obtain ⟨rfl, hy⟩ := yy
   obtain ⟨e3, h3⟩ := h
   rw [List.getElem?_map] at hy
   cases hq : ys[i]? with
   | none => rw [hq] at hy; cases hy
   | some x =>
    rw [hq] at hy
    cases hy
    walk_at "q"
    refine ⟨rfl, ?_⟩
    walk_at "q"
    refine ⟨x, rfl, sx x (List.mem_of_getElem? hq), fun H5 e5 => ?_⟩
    refine ⟨_, e5.at h3 (fun z => nomatch z), lt_of (by rw [List.length_map, List.length_map, List.length_take]; omega), (e3.trans e5).over hD, ?_⟩
    rw [upd_same, List.take_add_one, hq, List.map_append, List.map_append]
    rfl
  ·obtain ⟨e3, h3⟩ := h
   rw [List.length_map, List.take_length] at h3
   walk_at "q"
   refine ⟨D, _, rfl, SqL.of h3, ?_⟩
   have z1 := q H3 (E2.trans e3)
   rw [ef, hd, Bool.true_and] at z1
   rw [List.all_map]
   exact z1
theorem two_in {K : PySem.W.Frag} (H : Hp) (z a b : Str) (A : V → Hp → Prop) (k : ∀ H', Fr [] H H' → A (.bl (decide (z ∈ ([a, b] : List Str)))) H') : ∀ p, H p = none → uIn K (.str z) (.ref p) (upd H p (.tup [.str a, .str b])) A := fun p hp => by
 refine g_inT (xs := ([a, b] : List Str).map V.str) (.inr (SqT.of upd_same)) (flat_strs _) ?_
 rw [inV_str]
 exact k _ (Fr.new hp)
theorem num_len {z : Str} (h : numB z = true) : z.length ≤ 31 := by
 unfold numB at h
 have h1 := of_decide_eq_true (Bool.and_eq_true_iff.mp h).1
 have ll := len_l z
 cases e : z.cps.toList with
 | nil => rw [ll, e]; simp
 | cons c r =>
  rw [e, figL_cons] at h1
  rw [ll, e, List.length_cons]
  split at h1
  ·omega
  ·rw [List.length_cons] at h1; omega
def spRunT (C : Addr) (K : PySem.W.Frag) : Sp := fun vs H Q E => ∃ (z : Str) (n : Nat), vs = [.str z, .int (n : Int)] ∧ Tx 9000 z ∧ (∀ s v p H', runT z = some (s, v) → Fr [] H H' → SqT K H' p [.str s, v, .int (n : Int)] → Q (.ref p) H') ∧
 ∀ d H', runT z = none → Fr [] H H' → H' d = some (.xd [("at", .int (n : Int)), ("word", .str "badtext")]) → E (.ref C) (some d) H'
theorem ok_run_thing {f : Addr} {fd : FuncData} (F : FnP K "run_thing" s_run_thing f fd) (B : BiR mg) (G : GlV K mg a_KEPT) (C_is_name : CalG P w K mg base 21 "is_name" (spB fun z => goodW z && !decide (z ∈ keptW))) (C_is_full : CalG P w K mg base 22 "is_full" (spB fullB)) (C_is_number : CalG P w K mg base 20 "is_number" (spB numB))
  (G_BadText : ClG P w K mg base 2 "BadText" a_BadText (spI1 K "badtext" "at")) (n1 : PySem.W.findIn K (.ref a_BadText) "word" = some none) (n2 : PySem.W.findIn K (.ref a_BadText) "at" = some none) : FnG P w K mg base (L2.CX P w) 24 f fd ["run", "at"] (spRunT a_BadText K) := by
 refine okX F sc_run_thing (fun vs H Q E h => ?_) (fun cdv A outer s H vs Q E hr h tk => ?_)
 ·obtain ⟨z, n, rfl, _⟩ := h
  rfl
 obtain ⟨z, n, rfl, hz, q, qe⟩ := h
 have g_KEPT := G.k
 refine ⟨_, (pss_cons (ps_if (pt_cmpR (kOp (K := K) (r := uIn) rfl opu_in) (pv 0) (pe_tup (pa_cons pe_str (pa_cons pe_str pa_nil))) (by rfl)) (pss_one (ps_ret (pe_tup (pa_cons pe_str (pa_cons (pe_cmpR (kOp (K := K) (r := uEq) rfl (opu_eq hr.units)) (pv 0) pe_str (nomark _)) (pa_cons (pv 1) pa_nil)))))) pss_nil)
 (pss_cons (ps_if (pt_cmpR (kOp (K := K) (r := uIn) rfl opu_in) (pv 0) (pe_glob (v := .ref a_KEPT) rfl g_KEPT rfl) (by rfl)) (pss_one (ps_ret (pe_tup (pa_cons pe_str (pa_cons (pv 0) (pa_cons (pv 1) pa_nil)))))) pss_nil)
 (pss_cons (ps_if (pt_val (pe_calG C_is_name hr rfl (pa_cons (pv 0) pa_nil))) (pss_one (ps_ret (pe_tup (pa_cons pe_str (pa_cons (pv 0) (pa_cons (pv 1) pa_nil)))))) pss_nil)
 (pss_cons (ps_if (pt_val (pe_calG C_is_full hr rfl (pa_cons (pv 0) pa_nil))) (pss_one (ps_ret (pe_tup (pa_cons pe_str (pa_cons (pv 0) (pa_cons (pv 1) pa_nil)))))) pss_nil)
 (pss_cons (ps_if (pt_val (pe_calG C_is_number hr rfl (pa_cons (pv 0) pa_nil))) (pss_one (ps_ret (pe_tup (pa_cons pe_str (pa_cons (pe_callTy call_int_str (by rfl) B.b_int (by decide +kernel) (pa_cons (pv 0) pa_nil)) (pa_cons (pv 1) pa_nil)))))) pss_nil)
 (pss_one (ps_rs rfl tk (pmk_mkX G_BadText hr rfl (pa_cons (pv 1) pa_nil))))))))), rd_start (σ0 := [some (.str z), some (.int (n : Int))]) rfl ?_⟩
 walk_at "q"
 refine ⟨le_of (by simp), two_in _ _ _ _ _ fun H1 e1 => ?_⟩
 have fin : ∀ (H2 : Hp) (p : Addr) (s : Str) (v : V), runT z = some (s, v) → Fr [] H1 H2 → H2 p = none → Q (.ref p) (upd H2 p (.tup [.str s, v, .int (n : Int)])) := fun H2 p s v hv e2 hp => q s v p _ hv ((e1.trans e2).trans (Fr.new hp)) (SqT.of upd_same)
 walk_at "q"
 refine g_by (fun c => ?_) (fun c => ?_)
 ·walk_at "q"
  have c2 : z = "yes" ∨ z = "no" := by simpa using c
  refine ⟨le_of (by simp), fun p hp => ?_⟩
  exact fin _ p "value" _ (by unfold runT; rw [if_pos c2]) Fr.refl hp
 ·have c2 : ¬ (z = "yes" ∨ z = "no") := by simpa using c
  walk_at "q"
  refine g_inT (.inr (G.kt _)) (flat_strs _) ?_
  rw [inV_str]
  walk_at "q"
  refine g_by (fun c3 => ?_) (fun c3 => ?_)
  ·walk_at "q"
   refine ⟨le_of (by simp), fun p hp => ?_⟩
   exact fin _ p "kept" _ (by unfold runT; rw [if_neg c2, if_pos c3]) Fr.refl hp
  ·walk_at "q"
   refine ⟨z, rfl, hz, fun H2 e2 => ?_⟩
   walk_at "q"
   refine g_byB (fun c4 => ?_) (fun c4 => ?_)
   ·walk_at "q"
    refine ⟨le_of (by simp), fun p hp => ?_⟩
    exact fin _ p "name" _ (by unfold runT; rw [if_neg c2, if_neg c3, if_pos (show nameB z = true from c4)]) e2 hp
   ·have c4' : ¬ nameB z = true := by rw [show nameB z = false from c4]; exact Bool.false_ne_true
    walk_at "q"
    refine ⟨z, rfl, hz, fun H3 e3 => ?_⟩
    walk_at "q"
    refine g_byB (fun c5 => ?_) (fun c5 => ?_)
    ·walk_at "q"
     refine ⟨le_of (by simp), fun p hp => ?_⟩
     exact fin _ p "full" _ (by unfold runT; rw [if_neg c2, if_neg c3, if_neg c4', if_pos c5]) (e2.trans e3) hp
    ·have c5' : ¬ fullB z = true := by rw [c5]; exact Bool.false_ne_true
     walk_at "q"
     refine ⟨z, rfl, hz, fun H4 e4 => ?_⟩
     walk_at "q"
     refine g_byB (fun c6 => ?_) (fun c6 => ?_)
     ·walk_at "q"
      obtain ⟨i, hi, _⟩ := num_int c6
      refine ⟨z, i, rfl, hi, by have := num_len c6; omega, ?_⟩
      walk_at "q"
      refine ⟨le_of (by simp), fun p hp => ?_⟩
      exact fin _ p "value" _ (by unfold runT; rw [if_neg c2, if_neg c3, if_neg c4', if_neg c5', if_pos c6, hi]; rfl) ((e2.trans e3).trans e4) hp
     ·walk_at "q"
      refine mkX_I1 G_BadText.ec n1 n2 fun d H' fr e => qe d H' ?_ ((((e1.trans e2).trans e3).trans e4).trans fr) e
      unfold runT
      rw [if_neg c2, if_neg c3, if_neg c4', if_neg c5', if_neg (by rw [c6]; exact Bool.false_ne_true)]
end
theorem occ_mem (s sub : Str) (hi limit lo : Nat) : ∀ (l : List Nat) (st : Array Nat × Nat), (∀ a ∈ l, lo ≤ a) → (∀ k ∈ st.fst.toList, lo ≤ k ∧ k + sub.length ≤ hi) → ∀ k ∈ (forIn l st (StrLaws.occBody s sub hi limit)).run.fst.toList, lo ≤ k ∧ k + sub.length ≤ hi
 | [], st, _, h => h
 | a :: l, st, hl, h => by
  rw [List.forIn_cons]
  unfold StrLaws.occBody
  split
  ·rename_i hc
   refine occ_mem s sub hi limit lo l _ (fun x hx => hl x (List.mem_cons_of_mem _ hx)) fun k hk => ?_
   rw [Array.toList_push] at hk
   rcases List.mem_append.mp hk with hk | hk
   ·exact h k hk
   ·rw [List.mem_singleton.mp hk]; exact ⟨hl a List.mem_cons_self, hc.1.2⟩
  ·exact occ_mem s sub hi limit lo l _ (fun x hx => hl x (List.mem_cons_of_mem _ hx)) h
theorem find3_ge {z y : Str} {n : Nat} (h : 0 ≤ Txt.find3 z y (n : Int)) : ∃ e : Nat, Txt.find3 z y (n : Int) = (e : Int) ∧ n ≤ e ∧ e + y.length ≤ z.length := by
 unfold Txt.find3 at h ⊢
 have ef : fromIndex z.length (n : Int) = n := by unfold fromIndex; rw [if_neg (by omega)]; omega
 rw [ef] at h ⊢
 have oe := StrLaws.occ_eq z y n z.length 1
 cases e : Builtin.Str.occurrences z y n z.length 1 with
 | nil => rw [e] at h; exact absurd h (by decide)
 | cons k r =>
  rw [e] at oe
  have m := occ_mem z y z.length 1 n (List.range' n (z.length + 1 - n)) (#[], n) (fun a ha => (List.mem_range'_1.mp ha).1) (fun k hk => by simp at hk) k (by rw [← oe]; exact List.mem_cons_self)
  exact ⟨k, rfl, m⟩
def wordT (z : Str) (n : Nat) : Option (Str × Nat) := if Txt.find3 z "'" ((n : Int) + 1) < 0 then none else if goodW (cutS z (some ((n : Int) + 1)) (some (Txt.find3 z "'" ((n : Int) + 1)))) = true then some (cutS z (some ((n : Int) + 1)) (some (Txt.find3 z "'" ((n : Int) + 1))), (Txt.find3 z "'" ((n : Int) + 1)).toNat + 1) else none
theorem wordT_lt {z x : Str} {n m : Nat} (h : wordT z n = some (x, m)) : n < m ∧ m ≤ z.length := by
 have e1 : ((n + 1 : Nat) : Int) = (n : Int) + 1 := by omega
 have y1 : ("'" : Str).length = 1 := by decide +kernel
 unfold wordT at h
 split at h
 ·cases h
 ·rename_i c
  split at h
  ·obtain ⟨e, he, h1, h2⟩ := find3_ge (z := z) (y := "'") (n := n + 1) (by rw [e1]; omega)
   rw [e1] at he
   cases h
   rw [he]
   rw [y1] at h2
   omega
  ·cases h
abbrev s_word_thing : Stmt := topS 20
theorem sc_word_thing : FnScope ["text", "at", "end"] ["text", "at"] (defScope s_word_thing) := ⟨rfl, rfl, rfl, by decide +kernel, rfl, by decide +kernel, by decide +kernel⟩
def badAt (n : Nat) : List (Str × V) := [("at", .int (n : Int)), ("word", .str "badtext")]
def PairAt (K : PySem.W.Frag) (H : Hp) (p : Addr) (s : Str) (v : V) (n m : Nat) : Prop := ∃ t, SqT K H p [.ref t, .int (m : Int)] ∧ SqT K H t [.str s, v, .int (n : Int)]
def spWordT (C : Addr) (K : PySem.W.Frag) : Sp := fun vs H Q E => ∃ (z : Str) (n : Nat), vs = [.str z, .int (n : Int)] ∧ Tx 9000 z ∧ (∀ x m p H', wordT z n = some (x, m) → Fr [] H H' → PairAt K H' p "value" (.str x) n m → Q (.ref p) H') ∧
 ∀ d H', wordT z n = none → Fr [] H H' → H' d = some (.xd (badAt n)) → E (.ref C) (some d) H'
theorem Tx.cut {n : Nat} {z : Str} (h : Tx n z) {lo hi : Option Int} : Tx n (cutS z lo hi) := ⟨Nat.le_trans (cutS_length z lo hi) h.len, fun c hc => by
 unfold cutS at hc
 exact h.ok c (List.mem_of_mem_drop (List.mem_of_mem_take hc))⟩
section
variable {P : Program} {w : World} {K : PySem.W.Frag} {mg : Str → Option Value} {base : Heap} {a_KEPT a_BadText : Addr}
theorem ok_word_thing {f : Addr} {fd : FuncData} (F : FnP K "word_thing" s_word_thing f fd) (C_is_word : CalG P w K mg base 20 "is_word" (spB goodW))
  (G_BadText : ClG P w K mg base 2 "BadText" a_BadText (spI1 K "badtext" "at")) (n1 : PySem.W.findIn K (.ref a_BadText) "word" = some none) (n2 : PySem.W.findIn K (.ref a_BadText) "at" = some none) : FnG P w K mg base (L2.CX P w) 22 f fd ["text", "at"] (spWordT a_BadText K) := by
 refine okX F sc_word_thing (fun vs H Q E h => ?_) (fun cdv A outer s H vs Q E hr h tk => ?_)
 ·obtain ⟨z, n, rfl, _⟩ := h
  rfl
 obtain ⟨z, n, rfl, hz, q, qe⟩ := h
 have zl := hz.len
 have zs : z.length ≤ sizeLine := le_of (by omega)
 refine ⟨_, (pss_cons (ps_set (i := 2) sc_word_thing.nd rfl (.inl rfl) (kBM (K := K) rfl (pe_bm PySem.F.plainAttrs_str PySem.F.slot_str_find PySem.F.type_str_find mt_find3 (pv 0) (pa_cons pe_str (pa_cons (pe_op (kOp (K := K) (r := uAdd) rfl opu_add) (pv 1) pe_int) pa_nil)))))
 (pss_cons (ps_if (PW.pt (pw_or (pt_cmpR (kOp (K := K) (r := uLt) rfl opu_lt) (pv 2) pe_int (nomark _)) (pw_or1 (pt_not (pt_val (pe_calG C_is_word hr rfl (pa_cons (pe_slice sl_str (pv 0) (po_some (pe_op (kOp (K := K) (r := uAdd) rfl opu_add) (pv 1) pe_int)) (po_some (pv 2))) pa_nil))))))) (pss_one (ps_rs rfl tk (pmk_mkX G_BadText hr rfl (pa_cons (pv 1) pa_nil)))) pss_nil)
 (pss_one (ps_ret (pe_tup (pa_cons (pe_tup (pa_cons pe_str (pa_cons (pe_slice sl_str (pv 0) (po_some (pe_op (kOp (K := K) (r := uAdd) rfl opu_add) (pv 1) pe_int)) (po_some (pv 2))) (pa_cons (pv 1) pa_nil)))) (pa_cons (pe_op (kOp (K := K) (r := uAdd) rfl opu_add) (pv 2) pe_int) pa_nil))))))), rd_start (σ0 := [some (.str z), some (.int (n : Int)), none]) rfl ?_⟩
 walk_at "q"
 refine ⟨z, "'", (n : Int) + 1, rfl, rfl, ?_⟩
 walk_at "q"
 refine g_by (fun c => ?_) (fun c => ?_)
 ·walk_at "q"
  refine mkX_I1 G_BadText.ec n1 n2 fun d H' fr e => qe d H' (by unfold wordT; rw [if_pos c]) fr e
 ·walk_at "q"
  refine g_slS zs ?_
  refine ⟨_, rfl, hz.cut, fun H1 e1 => ?_⟩
  walk_at "q"
  cases hg : goodW (cutS z (some ((n : Int) + 1)) (some (Txt.find3 z "'" ((n : Int) + 1)))) with
  | false =>
   refine g_tt rfl ?_
   walk_at "q"
   refine mkX_I1 G_BadText.ec n1 n2 fun d H' fr e => qe d H' (by unfold wordT; rw [if_neg c, if_neg (by rw [hg]; exact Bool.false_ne_true)]) (e1.trans fr) e
  | true =>
   refine g_ff rfl ?_
   walk_at "q"
   refine g_slS zs ?_
   walk_at "q"
   refine ⟨le_of (by simp), fun t ht => ?_⟩
   have e2 : Fr [] H1 (upd H1 t (.tup [.str "value", .str (cutS z (some ((n : Int) + 1)) (some (Txt.find3 z "'" ((n : Int) + 1)))), .int (n : Int)])) := Fr.new ht
   have h2 : SqT K (upd H1 t (.tup [.str "value", .str (cutS z (some ((n : Int) + 1)) (some (Txt.find3 z "'" ((n : Int) + 1)))), .int (n : Int)])) t [.str "value", .str (cutS z (some ((n : Int) + 1)) (some (Txt.find3 z "'" ((n : Int) + 1)))), .int (n : Int)] := SqT.of upd_same
   walk_at "q"
   refine ⟨le_of (by simp), fun p hp => ?_⟩
   have e3 := Fr.new (M := []) (o := .tup [.ref t, .int (Txt.find3 z "'" ((n : Int) + 1) + 1)]) hp
   refine q _ ((Txt.find3 z "'" ((n : Int) + 1)).toNat + 1) p _ (by unfold wordT; rw [if_neg c, if_pos hg]) ((e1.trans e2).trans e3) ⟨t, ?_, e3.tup h2⟩
   have ei : (((Txt.find3 z "'" ((n : Int) + 1)).toNat + 1 : Nat) : Int) = Txt.find3 z "'" ((n : Int) + 1) + 1 := by omega
   rw [ei]
   exact SqT.of upd_same
end
structure Th where
 s : Str
 v : V
 n : Nat
def Th.d (t : Th) : PyData := .tuple [.str t.s, scD t.v, .int (t.n : Int)]
def ThsAt (K : PySem.W.Frag) (H : Hp) (p : Addr) (ts : List Th) : Prop := ∃ us, H p = some (.lst us) ∧ TdAll K H us (ts.map Th.d)
theorem sc_back {K : PySem.W.Frag} {H : Hp} {u v : V} (h : isSc v = true) (t : Td K H u (scD v)) : u = v := by
 cases v <;> first | (cases h; done) | (cases t; rfl)
theorem th_at {K : PySem.W.Frag} {H : Hp} {y : V} {t : Th} (h : isSc t.v = true) (d : Td K H y t.d) : ∃ r, y = .ref r ∧ SqT K H r [.str t.s, t.v, .int (t.n : Int)] := by
 obtain ⟨r, a, b, c, rfl, hr, h1, h2, h3⟩ := Td.t3 (show Td K H y (.tuple [.str t.s, scD t.v, .int (t.n : Int)]) from d)
 cases h1.str_inv
 cases h3.int_inv
 cases sc_back h h2
 exact ⟨r, rfl, hr⟩
theorem sc_td {K : PySem.W.Frag} {H : Hp} {v : V} (h : isSc v = true) : Td K H v (scD v) := by
 cases v <;> first | (cases h; done) | constructor
theorem g_eqSc {K : PySem.W.Frag} {H : Hp} {Q : VK} {v : V} {z : Str} (hz : PyData.strOk z = true) (h : isSc v = true) (q : Q (.bl (decide (v = .str z))) H) : uEq K v (.str z) H Q := by
 cases v with
 | str a => exact .inl ⟨rfl, q⟩
 | int i => exact g_eqD (.int i) (.str z) (by simp [SeqAt.shaped, PyData.canLay0, PyData.depth, hz]) (by simp [SeqAt.shaped, PyData.canLay0, PyData.depth, hz]) (by rw [decide_eq_false (fun e => nomatch e)] at q; exact q)
 | bl b => exact g_eqD (.bl b) (.str z) (by simp [SeqAt.shaped, PyData.canLay0, PyData.depth, hz]) (by simp [SeqAt.shaped, PyData.canLay0, PyData.depth, hz]) (by rw [decide_eq_false (fun e => nomatch e)] at q; exact q)
 | non => exact g_eqD .non (.str z) (by simp [SeqAt.shaped, PyData.canLay0, PyData.depth, hz]) (by simp [SeqAt.shaped, PyData.canLay0, PyData.depth, hz]) (by rw [decide_eq_false (fun e => nomatch e)] at q; exact q)
 | _ => cases h
theorem g_notInSc {K : PySem.W.Frag} {H : Hp} {Q : VK} {v : V} {ws : List Str} {p : Addr} (h : isSc v = true) (hp : SqL K H p (ws.map V.str) ∨ SqT K H p (ws.map V.str)) (q : Q (.bl (!decide (v ∈ ws.map V.str))) H) : uNotIn K v (.ref p) H Q := by
 have key : inV v (ws.map V.str) = decide (v ∈ ws.map V.str) := by
  cases v with
  | str a => rw [inV_str]; exact decide_eq_decide.mpr (by simp)
  | int i => rw [decide_eq_false (by simp)]; unfold inV; rw [List.any_map]; simp [eqV]
  | bl i => rw [decide_eq_false (by simp)]; unfold inV; rw [List.any_map]; simp [eqV]
  | non => rw [decide_eq_false (by simp)]; unfold inV; rw [List.any_map]; simp [eqV]
  | _ => cases h
 have fl : flatV v = true := by cases v <;> first | rfl | cases h
 cases v <;> first | (cases h; done) | exact ⟨p, _, rfl, hp, fl, flat_strs _, by rw [key]; exact q⟩
theorem atI_lastA {α : Type} {l : List α} {c : α} (h : l.getLast? = some c) : atI l (-1) = some c := by
 have hl : 0 < l.length := by
  cases l with
  | nil => cases h
  | cons a r => simp
 rw [List.getLast?_eq_getElem?] at h
 unfold atI ixN
 rw [if_neg (by decide), if_pos (by omega)]
 have e : ((-1 : Int) + (l.length : Int)).toNat = l.length - 1 := by omega
 first
  | (rw [Option.bind_some, e]; exact h)
  | (simp only [Option.bind_some]; rw [e]; exact h)
theorem tda_last {K : PySem.W.Frag} {H : Hp} {us : List V} {ts : List Th} (h : TdAll K H us (ts.map Th.d)) (hs : ∀ t ∈ ts, isSc t.v = true) (hn : us ≠ []) : ∃ t r, ts.getLast? = some t ∧ us.getLast? = some (.ref r) ∧ SqT K H r [.str t.s, t.v, .int (t.n : Int)] ∧ isSc t.v = true := by
 obtain ⟨k1, k2⟩ := tda_get h
 have hl : us.length ≠ 0 := fun e => hn (List.length_eq_zero_iff.mp e)
 have e1 : us[us.length - 1]? = some us[us.length - 1] := List.getElem?_eq_getElem (by omega)
 obtain ⟨t, ht, td⟩ := k2 _ _ e1
 have hm := hs t (List.mem_of_getElem? ht)
 obtain ⟨r, er, hr⟩ := th_at hm td
 refine ⟨t, r, by rw [List.getLast?_eq_getElem?, ← k1]; exact ht, by rw [List.getLast?_eq_getElem?, e1, er], hr, hm⟩
def begB (l : List Nat) (n : Nat) (last : Option Th) : Bool := decide (l[n]? = some 45) && ((match l[n + 1]? with | some c => isFig c | none => false) && match last with
 | none => true
 | some t => !decide (t.s ∈ (["value", "name"] : List Str)) && !decide (t.v ∈ ([")", "me"] : List Str).map V.str))
theorem sg_lit {c d : Nat} {t : Str} (h : t.cps.toList = [d]) : decide ((⟨#[c]⟩ : Str) = t) = decide (c = d) := by
 rw [dec_str, h]
 exact decide_eq_decide.mpr (by show [c] = [d] ↔ c = d; simp)
theorem cut_nn (z : Str) (a b : Nat) : (cutS z (some (a : Int)) (some (b : Int))).cps.toList = (z.cps.toList.drop a).take (b - a) := by
 have hl : z.length = z.cps.toList.length := len_l z
 show ((z.cps.toList.drop (HT.sIx z.length 0 (some (a : Int)))).take (HT.sIx z.length z.length (some (b : Int)) - HT.sIx z.length 0 (some (a : Int)))).toArray.toList = _
 rw [HT.sIx_nat, HT.sIx_nat, hl]
 show (z.cps.toList.drop (min a z.cps.toList.length)).take (min b z.cps.toList.length - min a z.cps.toList.length) = _
 generalize z.cps.toList = l
 by_cases h : a ≤ l.length
 ·rw [Nat.min_eq_left h]
  by_cases h2 : b ≤ l.length
  ·rw [Nat.min_eq_left h2]
  ·rw [show min b l.length = l.length from Nat.min_eq_right (by omega), List.take_of_length_le (by rw [List.length_drop]; omega), List.take_of_length_le (by rw [List.length_drop]; omega)]
 ·rw [show min a l.length = l.length from Nat.min_eq_right (by omega), List.drop_length, List.drop_eq_nil_of_le (by omega)]
  simp
theorem cut_one {z : Str} {n c : Nat} (h : z.cps.toList[n]? = some c) : cutS z (some (n : Int)) (some ((n : Int) + 1)) = ⟨#[c]⟩ := by
 have e : (n : Int) + 1 = ((n + 1 : Nat) : Int) := by omega
 rw [e]
 refine str_ext ?_
 rw [cut_nn]
 have hn := (List.getElem?_eq_some_iff.mp h)
 obtain ⟨hl, he⟩ := hn
 rw [List.drop_eq_getElem_cons hl, he, show n + 1 - n = 1 by omega]
 rfl
theorem cut_none {z : Str} {n : Nat} (h : z.cps.toList[n]? = none) : cutS z (some (n : Int)) (some ((n : Int) + 1)) = "" := by
 have e : (n : Int) + 1 = ((n + 1 : Nat) : Int) := by omega
 rw [e]
 refine str_ext ?_
 rw [cut_nn, List.drop_eq_nil_of_le (List.getElem?_eq_none_iff.mp h), List.take_nil]
 rfl
def spBeg (K : PySem.W.Frag) : Sp := fun vs H Q _ => ∃ (z : Str) (n : Nat) (p : Addr) (ts : List Th), vs = [.str z, .int (n : Int), .ref p] ∧ Tx 9000 z ∧ n < z.length ∧ ThsAt K H p ts ∧ (∀ t ∈ ts, isSc t.v = true) ∧ ∀ H', Fr [] H H' → Q (.bl (begB z.cps.toList n ts.getLast?)) H'
abbrev s_begins_number : Stmt := topS 21
theorem sc_begins_number : FnScope ["text", "at", "things"] ["text", "at", "things"] (defScope s_begins_number) := ⟨rfl, rfl, rfl, by decide +kernel, rfl, by decide +kernel, by decide +kernel⟩
section
variable {P : Program} {w : World} {K : PySem.W.Frag} {mg : Str → Option Value} {base : Heap} {a_KEPT a_BadText : Addr}
theorem ok_begins_number {f : Addr} {fd : FuncData} (F : FnP K "begins_number" s_begins_number f fd) (G : GlV K mg a_KEPT) : FnG P w K mg base CX0 3 f fd ["text", "at", "things"] (spBeg K) := by
 refine okG F sc_begins_number (fun vs H Q E h => ?_) (fun cdv A outer s H vs Q E hr h => ?_)
 ·obtain ⟨z, n, p, ts, rfl, _⟩ := h
  rfl
 obtain ⟨z, n, p, ts, rfl, hz, hn, hts, hsc, q⟩ := h
 have zl := hz.len
 have zs : z.length ≤ sizeLine := le_of (by omega)
 have ll := len_l z
 obtain ⟨tF, g_FIGURES⟩ := G.f
 refine ⟨_, PSs.nox (pss_cons (ps_if (PW.pt (pw_or (pt_cmpR (kOp (K := K) (r := uNe) rfl (opu_ne hr.units)) (pe_ix (kIx (K := K) (r := rIx) rfl ix_seq) (pv 0) (pv 1) (fun _ _ => rfl)) pe_str (nomark _)) (pw_or (pt_cmpR (kOp (K := K) (r := uEq) rfl (opu_eq hr.units)) (pe_slice sl_str (pv 0) (po_some (pe_op (kOp (K := K) (r := uAdd) rfl opu_add) (pv 1) pe_int)) (po_some (pe_op (kOp (K := K) (r := uAdd) rfl opu_add) (pv 1) pe_int))) pe_str (nomark _)) (pw_or1 (pt_cmpR (kOp (K := K) (r := uNotIn) rfl opu_notIn) (pe_ix (kIx (K := K) (r := rIx) rfl ix_seq) (pv 0) (pe_op (kOp (K := K) (r := uAdd) rfl opu_add) (pv 1) pe_int) (fun _ _ => rfl)) (pe_glob (v := .str z_FIGURES) rfl g_FIGURES ⟨_, rfl⟩) (by rfl)))))) (pss_one (ps_ret pe_bl)) pss_nil)
 (pss_cons (ps_if (pt_cmpR (kOp (K := K) (r := uEq) rfl (opu_eq hr.units)) (pv 2) (pe_lst pa_nil) (nomark _)) (pss_one (ps_ret pe_bl)) pss_nil)
 (pss_one (ps_ret (pe_andTK (K := K) rfl (pe_cmpR (kOp (K := K) (r := uNotIn) rfl opu_notIn) (pe_ix (kIx (K := K) (r := rIx) rfl ix_seq) (pe_ix (kIx (K := K) (r := rIx) rfl ix_seq) (pv 2) (pe_un un_neg pe_int) (fun _ _ => rfl)) pe_int (fun _ _ => rfl)) (pe_tup (pa_cons pe_str (pa_cons pe_str pa_nil))) (by rfl)) (pe_one (pe_cmpR (kOp (K := K) (r := uNotIn) rfl opu_notIn) (pe_ix (kIx (K := K) (r := rIx) rfl ix_seq) (pe_ix (kIx (K := K) (r := rIx) rfl ix_seq) (pv 2) (pe_un un_neg pe_int) (fun _ _ => rfl)) pe_int (fun _ _ => rfl)) (pe_tup (pa_cons pe_str (pa_cons pe_str pa_nil))) (by rfl)))))))), rd_start (σ0 := [some (.str z), some (.int (n : Int)), some (.ref p)]) rfl ?_⟩
 walk_at "q"
 have hc : z.cps.toList[n]? = some z.cps.toList[n] := List.getElem?_eq_getElem (by omega)
 refine g_ixS zs (atI_nat hc) ?_
 walk_at "q"
 rw [sg_lit (t := "-") (d := 45) rfl]
 have eb : begB z.cps.toList n ts.getLast? = (decide (z.cps.toList[n]? = some 45) && ((match z.cps.toList[n + 1]? with | some c => isFig c | none => false) && match ts.getLast? with
  | none => true
  | some t => !decide (t.s ∈ (["value", "name"] : List Str)) && !decide (t.v ∈ ([")", "me"] : List Str).map V.str))) := rfl
 have ed : decide (z.cps.toList[n]? = some 45) = decide (z.cps.toList[n] = 45) := by rw [hc]; exact decide_eq_decide.mpr (by simp)
 rw [ed] at eb
 have no : begB z.cps.toList n ts.getLast? = false → ∀ H', Fr [] H H' → Q (.bl false) H' := fun e H' e' => by
  have z1 := q H' e'
  rw [e] at z1
  exact z1
 cases h0 : decide (z.cps.toList[n] = 45) with
 | false =>
  rw [h0] at eb
  walk_at "q"
  exact no eb _ Fr.refl
 | true =>
  rw [h0, Bool.true_and] at eb
  walk_at "q"
  refine g_slS zs ?_
  walk_at "q"
  have en : ((n : Int) + 1) = ((n + 1 : Nat) : Int) := by omega
  rw [show (n : Int) + 2 = ((n : Int) + 1) + 1 by omega, en]
  cases h1 : z.cps.toList[n + 1]? with
  | none =>
   rw [h1] at eb
   rw [cut_none h1]
   refine g_tt (by rw [decide_eq_true rfl]) ?_
   walk_at "q"
   exact no eb _ Fr.refl
  | some c =>
   rw [h1] at eb
   rw [cut_one h1]
   refine g_ff (by rw [decide_eq_false (fun e => by have := congrArg (fun s : Str => s.cps.toList) e; exact absurd this (by intro h; cases h))]) ?_
   walk_at "q"
   rw [en]
   refine g_ixS zs (atI_nat h1) ?_
   walk_at "q"
   refine g_notInS ?_
   rw [in_fig]
   walk_at "q"
   cases hf : isFig c with
   | false =>
    refine g_tt rfl ?_
    walk_at "q"
    refine no ?_ _ Fr.refl
    rw [eb]
    show (isFig c && _) = false
    rw [hf]
    rfl
   | true =>
    refine g_ff rfl ?_
    have eb2 : begB z.cps.toList n ts.getLast? = match ts.getLast? with
      | none => true
      | some t => !decide (t.s ∈ (["value", "name"] : List Str)) && !decide (t.v ∈ ([")", "me"] : List Str).map V.str) := by
     rw [eb]
     show (isFig c && _) = _
     rw [hf, Bool.true_and]
    obtain ⟨us, hus, htd⟩ := hts
    have ul := (tda_get htd).1
    walk_at "q"
    refine ⟨le_of (by simp), fun p2 hp2 => ?_⟩
    have e2 : Fr [] H (upd H p2 (.lst [])) := Fr.new hp2
    have h2 : (upd H p2 (.lst [])) p2 = some (.lst []) := upd_same
    have hus2 := e2.at hus (fun z => nomatch z)
    have htd2 := htd.fr e2
    generalize upd H p2 (.lst []) = H2 at *
    refine g_eqEL (SqL.of hus2) (SqL.of h2) ?_
    walk_at "q"
    refine g_by (fun c3 => ?_) (fun c3 => ?_)
    ·walk_at "q"
     have et : ts = [] := by
      rw [c3] at ul
      exact List.length_eq_zero_iff.mp ul.symm
     have z1 := q H2 e2
     rw [eb2, et] at z1
     exact z1
    ·obtain ⟨t, r, h3, h4, h5, h6⟩ := tda_last htd2 hsc c3
     rw [h3] at eb2
     have z1 : ∀ H', Fr [] H2 H' → Q (.bl (!decide (t.s ∈ (["value", "name"] : List Str)) && !decide (t.v ∈ ([")", "me"] : List Str).map V.str))) H' := fun H' e => by
      have z := q H' (e2.trans e)
      rw [h3, eb2] at z
      exact z
     walk_at "q"
     refine g_ixL (SqL.of hus2) (atI_lastA h4) ?_
     walk_at "q"
     refine ⟨le_of (by simp), fun p3 hp3 => ?_⟩
     refine g_notInT (xs := (["value", "name"] : List Str).map V.str) (.inr (SqT.of upd_same)) (flat_strs _) ?_
     have e4 : Fr [] H2 (upd H2 p3 (.tup [.str "value", .str "name"])) := Fr.new hp3
     have h54 := e4.tup h5
     have hus4 := e4.at hus2 (fun z => nomatch z)
     generalize upd H2 p3 (.tup [.str "value", .str "name"]) = H4 at *
     rw [inV_str]
     cases h7 : decide (t.s ∈ (["value", "name"] : List Str)) with
     | true =>
      rw [h7] at z1
      walk_at "q"
      exact z1 _ e4
     | false =>
      rw [h7] at z1
      walk_at "q"
      refine g_ixL (SqL.of hus4) (atI_lastA h4) ?_
      walk_at "q"
      refine ⟨le_of (by simp), fun p5 hp5 => ?_⟩
      refine g_notInSc (ws := [")", "me"]) h6 (.inr (SqT.of upd_same)) ?_
      exact z1 _ (e4.trans (Fr.new hp5))
end
def sgnL : List Nat := [40, 41, 44, 95, 43, 45, 42, 61, 60, 62]
theorem in_sgn (c : Nat) : (!(Builtin.Str.occurrences z_SIGNS ⟨#[c]⟩ 0 z_SIGNS.length 1).isEmpty) = decide (c ∈ sgnL) := by
 rw [StrLaws.found_one]
 have e : z_SIGNS.cps.toList = sgnL := by decide +kernel
 rw [e]
def nextT (z : Str) (n : Nat) (last : Option Th) : Option (Th × Nat) := match z.cps.toList[n]? with
 | none => none
 | some c => if c = 39 then (wordT z n).map fun q => (⟨"value", .str q.1, n⟩, q.2)
  else if isRun c = true ∨ begB z.cps.toList n last = true then (runT (cutS z (some (n : Int)) (some ((runE z.cps.toList (n + 1) : Nat) : Int)))).map fun q => (⟨q.1, q.2, n⟩, runE z.cps.toList (n + 1))
  else if cutS z (some (n : Int)) (some ((n : Int) + 2)) ∈ (["!=", "<=", ">="] : List Str) then some (⟨"sign", .str (cutS z (some (n : Int)) (some ((n : Int) + 2))), n⟩, n + 2)
  else if c ∈ sgnL then some (⟨"sign", .str ⟨#[c]⟩, n⟩, n + 1) else none
theorem runE_le (l : List Nat) (n : Nat) (h : n ≤ l.length) : n ≤ runE l n ∧ runE l n ≤ l.length := by
 unfold runE
 have := (List.takeWhile_sublist isRun (l := l.drop n)).length_le
 rw [List.length_drop] at this
 omega
def spNext (C : Addr) (K : PySem.W.Frag) : Sp := fun vs H Q E => ∃ (z : Str) (n : Nat) (p : Addr) (ts : List Th), vs = [.str z, .int (n : Int), .ref p] ∧ Tx 9000 z ∧ n < z.length ∧ ThsAt K H p ts ∧ (∀ t ∈ ts, isSc t.v = true) ∧
 (∀ t m pr H', nextT z n ts.getLast? = some (t, m) → Fr [] H H' → PairAt K H' pr t.s t.v t.n m → Q (.ref pr) H') ∧ ∀ d H', nextT z n ts.getLast? = none → Fr [] H H' → H' d = some (.xd (badAt n)) → E (.ref C) (some d) H'
abbrev s_next_thing : Stmt := topS 22
theorem sc_next_thing : FnScope ["text", "at", "things", "end"] ["text", "at", "things"] (defScope s_next_thing) := ⟨rfl, rfl, rfl, by decide +kernel, rfl, by decide +kernel, by decide +kernel⟩
theorem ThsAt.fr {K : PySem.W.Frag} {M : List Addr} {H H' : Hp} {p : Addr} {ts : List Th} (h : ThsAt K H p ts) (e : Fr M H H') (n : p ∉ M) : ThsAt K H' p ts := by
 obtain ⟨us, h1, h2⟩ := h
 exact ⟨us, e.at h1 n, h2.fr e⟩
section
variable {P : Program} {w : World} {K : PySem.W.Frag} {mg : Str → Option Value} {base : Heap} {a_KEPT a_BadText : Addr}
theorem ok_next_thing {f : Addr} {fd : FuncData} (F : FnP K "next_thing" s_next_thing f fd) (GR : ∃ t, mg "RUN" = some (.str z_RUN t)) (GS : ∃ t, mg "SIGNS" = some (.str z_SIGNS t)) (C_word_thing : CalX P w K mg base 22 "word_thing" (spWordT a_BadText K)) (C_run_thing : CalX P w K mg base 24 "run_thing" (spRunT a_BadText K)) (C_run_end : CalG P w K mg base 3 "run_end" spRunE) (C_begins_number : CalG P w K mg base 3 "begins_number" (spBeg K))
  (G_BadText : ClG P w K mg base 2 "BadText" a_BadText (spI1 K "badtext" "at")) (n1 : PySem.W.findIn K (.ref a_BadText) "word" = some none) (n2 : PySem.W.findIn K (.ref a_BadText) "at" = some none) : FnG P w K mg base (L2.CX P w) 26 f fd ["text", "at", "things"] (spNext a_BadText K) := by
 refine okX F sc_next_thing (fun vs H Q E h => ?_) (fun cdv A outer s H vs Q E hr h tk => ?_)
 ·obtain ⟨z, n, p, ts, rfl, _⟩ := h
  rfl
 obtain ⟨z, n, p, ts, rfl, hz, hn, hts, hsc, q, qe⟩ := h
 have zl := hz.len
 have zs : z.length ≤ sizeLine := le_of (by omega)
 have ll := len_l z
 obtain ⟨tR, g_RUN⟩ := GR
 obtain ⟨tS, g_SIGNS⟩ := GS
 refine ⟨_, (pss_cons (ps_if (pt_cmpR (kOp (K := K) (r := uEq) rfl (opu_eq hr.units)) (pe_ix (kIx (K := K) (r := rIx) rfl ix_seq) (pv 0) (pv 1) (fun _ _ => rfl)) pe_str (nomark _)) (pss_one (ps_ret (pe_calX C_word_thing tk hr rfl (pa_cons (pv 0) (pa_cons (pv 1) pa_nil))))) pss_nil)
 (pss_cons (ps_if (PW.pt (pw_or (pt_cmpR (kOp (K := K) (r := uIn) rfl opu_in) (pe_ix (kIx (K := K) (r := rIx) rfl ix_seq) (pv 0) (pv 1) (fun _ _ => rfl)) (pe_glob (v := .str z_RUN) rfl g_RUN ⟨_, rfl⟩) (by rfl)) (pw_or1 (pt_val (pe_calG C_begins_number hr rfl (pa_cons (pv 0) (pa_cons (pv 1) (pa_cons (pv 2) pa_nil)))))))) (pss_cons (ps_set (i := 3) sc_next_thing.nd rfl (.inl rfl) (pe_calG C_run_end hr rfl (pa_cons (pv 0) (pa_cons (pe_op (kOp (K := K) (r := uAdd) rfl opu_add) (pv 1) pe_int) pa_nil))))
 (pss_one (ps_ret (pe_tup (pa_cons (pe_calX C_run_thing tk hr rfl (pa_cons (pe_slice sl_str (pv 0) (po_some (pv 1)) (po_some (pv 3))) (pa_cons (pv 1) pa_nil))) (pa_cons (pv 3) pa_nil)))))) pss_nil)
 (pss_cons (ps_if (pt_cmpR (kOp (K := K) (r := uIn) rfl opu_in) (pe_slice sl_str (pv 0) (po_some (pv 1)) (po_some (pe_op (kOp (K := K) (r := uAdd) rfl opu_add) (pv 1) pe_int))) (pe_tup (pa_cons pe_str (pa_cons pe_str (pa_cons pe_str pa_nil)))) (by rfl)) (pss_one (ps_ret (pe_tup (pa_cons (pe_tup (pa_cons pe_str (pa_cons (pe_slice sl_str (pv 0) (po_some (pv 1)) (po_some (pe_op (kOp (K := K) (r := uAdd) rfl opu_add) (pv 1) pe_int))) (pa_cons (pv 1) pa_nil)))) (pa_cons (pe_op (kOp (K := K) (r := uAdd) rfl opu_add) (pv 1) pe_int) pa_nil))))) pss_nil)
 (pss_cons (ps_if (pt_cmpR (kOp (K := K) (r := uNotIn) rfl opu_notIn) (pe_ix (kIx (K := K) (r := rIx) rfl ix_seq) (pv 0) (pv 1) (fun _ _ => rfl)) (pe_glob (v := .str z_SIGNS) rfl g_SIGNS ⟨_, rfl⟩) (by rfl)) (pss_one (ps_rs rfl tk (pmk_mkX G_BadText hr rfl (pa_cons (pv 1) pa_nil)))) pss_nil)
 (pss_one (ps_ret (pe_tup (pa_cons (pe_tup (pa_cons pe_str (pa_cons (pe_ix (kIx (K := K) (r := rIx) rfl ix_seq) (pv 0) (pv 1) (fun _ _ => rfl)) (pa_cons (pv 1) pa_nil)))) (pa_cons (pe_op (kOp (K := K) (r := uAdd) rfl opu_add) (pv 1) pe_int) pa_nil))))))))), rd_start (σ0 := [some (.str z), some (.int (n : Int)), some (.ref p), none]) rfl ?_⟩
 obtain ⟨c, hc⟩ : ∃ c, z.cps.toList[n]? = some c := ⟨_, List.getElem?_eq_getElem (by omega)⟩
 have en : nextT z n ts.getLast? = if c = 39 then (wordT z n).map fun q => (⟨"value", .str q.1, n⟩, q.2)
  else if isRun c = true ∨ begB z.cps.toList n ts.getLast? = true then (runT (cutS z (some (n : Int)) (some ((runE z.cps.toList (n + 1) : Nat) : Int)))).map fun q => (⟨q.1, q.2, n⟩, runE z.cps.toList (n + 1))
  else if cutS z (some (n : Int)) (some ((n : Int) + 2)) ∈ (["!=", "<=", ">="] : List Str) then some (⟨"sign", .str (cutS z (some (n : Int)) (some ((n : Int) + 2))), n⟩, n + 2)
  else if c ∈ sgnL then some (⟨"sign", .str ⟨#[c]⟩, n⟩, n + 1) else none := by unfold nextT; rw [hc]
 walk_at "q"
 refine g_ixS zs (atI_nat hc) ?_
 walk_at "q"
 rw [sg_lit (t := "'") (d := 39) rfl]
 refine g_by (fun c1 => ?_) (fun c1 => ?_)
 ·rw [if_pos c1] at en
  walk_at "q"
  refine ⟨z, n, rfl, hz, fun x m pr H1 hw e1 hp => ?_, fun d H1 hw e1 hd => ?_⟩
  ·exact q ⟨"value", .str x, n⟩ m pr H1 (by rw [en, hw]; rfl) e1 hp
  ·exact qe d H1 (by rw [en, hw]; rfl) e1 hd
 ·rw [if_neg c1] at en
  walk_at "q"
  refine g_ixS zs (atI_nat hc) ?_
  walk_at "q"
  refine g_inS ?_
  rw [in_run]
  walk_at "q"
  refine g_byB (fun c2 => ?_) (fun c2 => ?_)
  ·have cd : isRun c = true ∨ begB z.cps.toList n ts.getLast? = true := .inl c2
   walk_at "q"
   refine ⟨z, n + 1, by simp, hz, ?_⟩
   have hle := runE_le z.cps.toList (n + 1) (by omega)
   walk_at "q"
   refine g_slS zs ?_
   walk_at "q"
   refine ⟨_, n, rfl, hz.cut, fun s v t H2 hrt e2 ht => ?_, fun d H2 hrt e2 hd => ?_⟩
   ·walk_at "q"
    refine ⟨le_of (by simp), fun pr hpr => ?_⟩
    have e3 := Fr.new (M := []) (o := .tup [.ref t, .int ((runE z.cps.toList (n + 1) : Nat) : Int)]) hpr
    exact q ⟨s, v, n⟩ _ pr _ (by rw [en, if_pos cd, hrt]; rfl) ((Fr.refl.trans e2).trans e3) ⟨t, SqT.of upd_same, e3.tup ht⟩
   ·exact qe d H2 (by rw [en, if_pos cd, hrt]; rfl) (Fr.refl.trans e2) hd
  ·walk_at "q"
   refine ⟨z, n, p, ts, rfl, hz, hn, hts, hsc, fun H1 e1 => ?_⟩
   walk_at "q"
   refine g_byB (fun c3 => ?_) (fun c3 => ?_)
   ·have cd : isRun c = true ∨ begB z.cps.toList n ts.getLast? = true := .inr c3
    walk_at "q"
    refine ⟨z, n + 1, by simp, hz, ?_⟩
    have hle := runE_le z.cps.toList (n + 1) (by omega)
    walk_at "q"
    refine g_slS zs ?_
    walk_at "q"
    refine ⟨_, n, rfl, hz.cut, fun s v t H2 hrt e2 ht => ?_, fun d H2 hrt e2 hd => ?_⟩
    ·walk_at "q"
     refine ⟨le_of (by simp), fun pr hpr => ?_⟩
     have e3 := Fr.new (M := []) (o := .tup [.ref t, .int ((runE z.cps.toList (n + 1) : Nat) : Int)]) hpr
     exact q ⟨s, v, n⟩ _ pr _ (by rw [en, if_pos cd, hrt]; rfl) ((e1.trans e2).trans e3) ⟨t, SqT.of upd_same, e3.tup ht⟩
    ·exact qe d H2 (by rw [en, if_pos cd, hrt]; rfl) (e1.trans e2) hd
   ·have cd : ¬ (isRun c = true ∨ begB z.cps.toList n ts.getLast? = true) := by rw [c2, c3]; decide
    rw [if_neg cd] at en
    walk_at "q"
    refine g_slS zs ?_
    walk_at "q"
    refine ⟨le_of (by simp), fun p2 hp2 => ?_⟩
    refine g_inT (xs := (["!=", "<=", ">="] : List Str).map V.str) (.inr (SqT.of upd_same)) (flat_strs _) ?_
    have e2 : Fr [] H1 (upd H1 p2 (.tup [.str "!=", .str "<=", .str ">="])) := Fr.new hp2
    have e12 := e1.trans e2
    generalize upd H1 p2 (.tup [.str "!=", .str "<=", .str ">="]) = H2 at *
    rw [inV_str]
    walk_at "q"
    refine g_by (fun c4 => ?_) (fun c4 => ?_)
    ·walk_at "q"
     refine g_slS zs ?_
     walk_at "q"
     refine ⟨le_of (by simp), fun t ht => ?_⟩
     have e3 : Fr [] H2 (upd H2 t (.tup [.str "sign", .str (cutS z (some (n : Int)) (some ((n : Int) + 2))), .int (n : Int)])) := Fr.new ht
     have h3 : SqT K (upd H2 t (.tup [.str "sign", .str (cutS z (some (n : Int)) (some ((n : Int) + 2))), .int (n : Int)])) t [.str "sign", .str (cutS z (some (n : Int)) (some ((n : Int) + 2))), .int (n : Int)] := SqT.of upd_same
     walk_at "q"
     refine ⟨le_of (by simp), fun pr hpr => ?_⟩
     have e4 := Fr.new (M := []) (o := .tup [.ref t, .int ((n : Int) + 2)]) hpr
     exact q ⟨"sign", .str _, n⟩ (n + 2) pr _ (by rw [en, if_pos c4]) ((e12.trans e3).trans e4) ⟨t, SqT.of upd_same, e4.tup h3⟩
    ·rw [if_neg c4] at en
     walk_at "q"
     refine g_ixS zs (atI_nat hc) ?_
     walk_at "q"
     refine g_notInS ?_
     rw [in_sgn]
     walk_at "q"
     refine g_byN (fun c5 => ?_) (fun c5 => ?_)
     ·walk_at "q"
      exact mkX_I1 G_BadText.ec n1 n2 fun d H' fr e => qe d H' (by rw [en, if_neg c5]) (e12.trans fr) e
     ·walk_at "q"
      refine g_ixS zs (atI_nat hc) ?_
      walk_at "q"
      refine ⟨le_of (by simp), fun t ht => ?_⟩
      have e3 : Fr [] H2 (upd H2 t (.tup [.str "sign", .str ⟨#[c]⟩, .int (n : Int)])) := Fr.new ht
      have h3 : SqT K (upd H2 t (.tup [.str "sign", .str ⟨#[c]⟩, .int (n : Int)])) t [.str "sign", .str ⟨#[c]⟩, .int (n : Int)] := SqT.of upd_same
      walk_at "q"
      refine ⟨le_of (by simp), fun pr hpr => ?_⟩
      have e4 := Fr.new (M := []) (o := .tup [.ref t, .int ((n : Int) + 1)]) hpr
      exact q ⟨"sign", .str _, n⟩ (n + 1) pr _ (by rw [en, if_pos c5]) ((e12.trans e3).trans e4) ⟨t, SqT.of upd_same, e4.tup h3⟩
end
def endT (z : Str) : Th := ⟨"end", .str "", z.length⟩
inductive Cuts (z : Str) : Nat → List Th → Except Nat (List Th) → Prop
 | stop {n : Nat} {ts : List Th} : z.length ≤ n → Cuts z n ts (.ok (ts ++ [endT z]))
 | skip {n : Nat} {ts : List Th} {r : Except Nat (List Th)} : n < z.length → z.cps.toList[n]? = some 32 → Cuts z (n + 1) ts r → Cuts z n ts r
 | bad {n : Nat} {ts : List Th} : n < z.length → z.cps.toList[n]? ≠ some 32 → nextT z n ts.getLast? = none → Cuts z n ts (.error n)
 | step {n m : Nat} {t : Th} {ts : List Th} {r : Except Nat (List Th)} : n < z.length → z.cps.toList[n]? ≠ some 32 → nextT z n ts.getLast? = some (t, m) → Cuts z m (ts ++ [t]) r → Cuts z n ts r
theorem Cuts.det {z : Str} {n : Nat} {ts : List Th} {r r' : Except Nat (List Th)} (h : Cuts z n ts r) (h' : Cuts z n ts r') : r = r' := by
 induction h generalizing r' with
 | stop l =>
  cases h' with
  | stop _ => rfl
  | skip a => omega
  | bad a => omega
  | step a => omega
 | skip a b c ih =>
  cases h' with
  | stop l => omega
  | skip _ _ k => exact ih k
  | bad _ k => exact absurd b k
  | step _ k => exact absurd b k
 | bad a b c =>
  cases h' with
  | stop l => omega
  | skip _ k => exact absurd k b
  | bad _ _ _ => rfl
  | step _ _ k => rw [c] at k; cases k
 | step a b c d ih =>
  cases h' with
  | stop l => omega
  | skip _ k => exact absurd k b
  | bad _ _ k => rw [c] at k; cases k
  | step _ _ k l =>
   rw [c] at k
   cases k
   exact ih l
theorem runT_sc {z s : Str} {v : V} (h : runT z = some (s, v)) : isSc v = true ∧ s ≠ "end" := by
 unfold runT at h
 have d : ∀ s ∈ (["value", "kept", "name", "full"] : List Str), s ≠ "end" := by decide +kernel
 repeat' (split at h)
 all_goals first
  | (cases h; done)
  | (cases h; exact ⟨rfl, d _ (by simp)⟩)
theorem nextT_sc {z : Str} {n m : Nat} {l : Option Th} {t : Th} (h : nextT z n l = some (t, m)) : isSc t.v = true ∧ t.s ≠ "end" := by
 unfold nextT at h
 have d : ∀ s ∈ (["value", "sign"] : List Str), s ≠ "end" := by decide +kernel
 split at h
 ·cases h
 ·split at h
  ·cases hw : wordT z n with
   | none => rw [hw] at h; cases h
   | some q => rw [hw] at h; cases h; exact ⟨rfl, d _ (by simp)⟩
  ·split at h
   ·cases hw : runT (cutS z (some (n : Int)) (some ((runE z.cps.toList (n + 1) : Nat) : Int))) with
    | none => rw [hw] at h; cases h
    | some q => rw [hw] at h; cases h; exact runT_sc hw
   ·split at h
    ·cases h; exact ⟨rfl, d _ (by simp)⟩
    ·split at h
     ·cases h; exact ⟨rfl, d _ (by simp)⟩
     ·cases h
theorem nextT_lt {z : Str} {n m : Nat} {l : Option Th} {t : Th} (h : nextT z n l = some (t, m)) : n < m ∧ m ≤ z.length + 1 := by
 have ll := len_l z
 unfold nextT at h
 split at h
 ·cases h
 ·rename_i c hc
  have hn := (List.getElem?_eq_some_iff.mp hc).1
  split at h
  ·cases hw : wordT z n with
   | none => rw [hw] at h; cases h
   | some q =>
    rw [hw] at h
    cases h
    have := wordT_lt (x := q.1) (m := q.2) hw
    omega
  ·split at h
   ·cases hw : runT (cutS z (some (n : Int)) (some ((runE z.cps.toList (n + 1) : Nat) : Int))) with
    | none => rw [hw] at h; cases h
    | some q =>
     rw [hw] at h
     cases h
     have := runE_le z.cps.toList (n + 1) (by omega)
     omega
   ·split at h
    ·cases h; omega
    ·split at h
     ·cases h; omega
     ·cases h
theorem Cuts.good {z : Str} {n : Nat} {ts ts' : List Th} {r : Except Nat (List Th)} (h : Cuts z n ts r) (e : r = .ok ts') (hs : ∀ t ∈ ts, isSc t.v = true ∧ t.s ≠ "end") : ∃ b, ts' = b ++ [endT z] ∧ ∀ t ∈ b, isSc t.v = true ∧ t.s ≠ "end" := by
 induction h with
 | stop l => cases e; exact ⟨_, rfl, hs⟩
 | skip a b c ih => exact ih e hs
 | bad a b c => cases e
 | step a b c d ih =>
  refine ih e fun t ht => ?_
  rcases List.mem_append.mp ht with ht | ht
  ·exact hs t ht
  ·rw [List.mem_singleton.mp ht]; exact nextT_sc c
theorem tda_snoc4 {K : PySem.W.Frag} {H : Hp} : ∀ {vs : List V} {ds : List PyData} {v : V} {d : PyData}, TdAll K H vs ds → Td K H v d → TdAll K H (vs ++ [v]) (ds ++ [d])
 | _, _, _, _, .nil, h => .cons h .nil
 | _, _, _, _, .cons a b, h => .cons a (tda_snoc4 b h)
def spThings (C : Addr) (K : PySem.W.Frag) : Sp := fun vs H Q E => ∃ z : Str, vs = [.str z] ∧ Tx 9000 z ∧ (∀ ts p H', Cuts z 0 [] (.ok ts) → Fr [] H H' → H p = none → ThsAt K H' p ts → Q (.ref p) H') ∧ ∀ n d H', Cuts z 0 [] (.error n) → Fr [] H H' → H' d = some (.xd (badAt n)) → E (.ref C) (some d) H'
abbrev s_things_of : Stmt := topS 23
theorem sc_things_of : FnScope ["text", "found", "at", "thing"] ["text"] (defScope s_things_of) := ⟨rfl, rfl, rfl, by decide +kernel, rfl, by decide +kernel, by decide +kernel⟩
section
variable {P : Program} {w : World} {K : PySem.W.Frag} {mg : Str → Option Value} {base : Heap} {a_KEPT a_BadText : Addr}
theorem ok_things_of {f : Addr} {fd : FuncData} (F : FnP K "things_of" s_things_of f fd) (B : BiR mg) (C_next_thing : CalX P w K mg base 26 "next_thing" (spNext a_BadText K)) : FnG P w K mg base (L2.CX P w) 28 f fd ["text"] (spThings a_BadText K) := by
 refine okX F sc_things_of (fun vs H Q E h => ?_) (fun cdv A outer s H vs Q E hr h tk => ?_)
 ·obtain ⟨z, rfl, _⟩ := h
  rfl
 obtain ⟨z, rfl, hz, q, qe⟩ := h
 have zl := hz.len
 have zs : z.length ≤ sizeLine := le_of (by omega)
 have ll := len_l z
 refine ⟨_, (pss_cons (ps_set (i := 1) sc_things_of.nd rfl (.inl rfl) (pe_lst pa_nil))
 (pss_cons (ps_set (i := 2) sc_things_of.nd rfl (.inl rfl) pe_int)
 (pss_cons (ps_while (L2.passes_of rfl) (pt_cmpR (kOp (K := K) (r := uLt) rfl opu_lt) (pv 2) (pe_callB (kCall (K := K) (r := uLen) rfl callu_len) (by rfl) B.b_len (by decide +kernel) (pa_cons (pv 0) pa_nil)) (nomark _)) (pss_one (ps_if (pt_cmpR (kOp (K := K) (r := uEq) rfl (opu_eq hr.units)) (pe_ix (kIx (K := K) (r := rIx) rfl ix_seq) (pv 0) (pv 2) (fun _ _ => rfl)) pe_str (nomark _)) (pss_one (ps_aug (i := 2) sc_things_of.nd rfl (.inl rfl) pe_int ip_add)) (pss_cons (ps_asg (pe_calX C_next_thing tk hr rfl (pa_cons (pv 0) (pa_cons (pv 2) (pa_cons (pv 1) pa_nil)))) (pg_tupK (K := K) rfl rfl (pgs_cons (pg_name (i := 3) sc_things_of.nd rfl (by first | exact Or.inl rfl | exact Or.inr rfl)) (pgs_cons (pg_name (i := 2) sc_things_of.nd rfl (by first | exact Or.inl rfl | exact Or.inr rfl)) pgs_nil))))
 (pss_one (ps_expr (kBM (K := K) rfl (pe_bm PySem.F.plainAttrs_list PySem.F.slot_list_append PySem.F.type_list_append mt_append (pv 1) (pa_cons (pv 3) pa_nil)))))))))
 (pss_cons (ps_expr (kBM (K := K) rfl (pe_bm PySem.F.plainAttrs_list PySem.F.slot_list_append PySem.F.type_list_append mt_append (pv 1) (pa_cons (pe_tup (pa_cons pe_str (pa_cons pe_str (pa_cons (pe_callB (kCall (K := K) (r := uLen) rfl callu_len) (by rfl) B.b_len (by decide +kernel) (pa_cons (pv 0) pa_nil)) pa_nil)))) pa_nil))))
 (pss_one (ps_ret (pv 1))))))), rd_start (σ0 := [some (.str z), none, none, none]) rfl ?_⟩
 walk_at "q"
 refine ⟨le_of (by simp), fun p hp => ?_⟩
 have e1 : Fr [] H (upd H p (.lst [])) := Fr.new hp
 have h1 : (upd H p (.lst [])) p = some (.lst []) := upd_same
 generalize upd H p (.lst []) = H1 at *
 walk_at "q"
 refine g_while2 (fun σ H' => ∃ (n : Nat) (ts : List Th) (us : List V) (z3 : Option V), σ = [some (.str z), some (.ref p), some (.int (n : Int)), z3] ∧ H' p = some (.lst us) ∧ TdAll K H' us (ts.map Th.d) ∧ (∀ t ∈ ts, isSc t.v = true ∧ t.s ≠ "end") ∧ Fr [] H H' ∧ us.length ≤ n ∧ n ≤ z.length + 1 ∧ ∀ r, Cuts z n ts r → Cuts z 0 [] r)
  (fun σ H' => match σ with | [_, _, some (.int m), _] => z.length - m.toNat | _ => 0) ⟨0, [], [], _, rfl, h1, .nil, (fun _ z => nomatch z), e1, by simp, by omega, fun r h => h⟩ (fun σ H2 h => ?_)
 obtain ⟨n, ts, us, z3, rfl, h2, ht2, hs, e2, hul, hn9, hcut⟩ := h
 walk_at "q"
 refine g_lenS zs ?_
 walk_at "q"
 refine g_by (fun c1 => ?_) (fun c1 => ?_)
 ·have hn : n < z.cps.toList.length := by omega
  have hc : z.cps.toList[n]? = some z.cps.toList[n] := List.getElem?_eq_getElem hn
  generalize z.cps.toList[n] = c at *
  refine g_wt ?_
  walk_at "q"
  refine g_ixS zs (atI_nat hc) ?_
  walk_at "q"
  rw [sg_lit (t := " ") (d := 32) rfl]
  refine g_by (fun c2 => ?_) (fun c2 => ?_)
  ·subst c2
   refine g_aug1 rfl ⟨⟨n + 1, ts, us, z3, rfl, h2, ht2, hs, e2, by omega, by omega, fun r h => hcut r (.skip (by omega) hc h)⟩, ?_⟩
   show z.length - ((n : Int) + 1).toNat < z.length - ((n : Int)).toNat
   omega
  ·have hc2 : z.cps.toList[n]? ≠ some 32 := by rw [hc]; intro e; exact c2 (Option.some.inj e)
   walk_at "q"
   refine ⟨z, n, p, ts, rfl, hz, by omega, ⟨us, h2, ht2⟩, fun t ht => (hs t ht).1, fun t m pr H3 hnt e3 hpr => ?_, fun d H3 hnt e3 hd => ?_⟩
   ·obtain ⟨r, hpr1, hr1⟩ := hpr
    have h3 := e3.at h2 (fun z => nomatch z)
    have ht3 := ht2.fr e3
    have hm := nextT_lt hnt
    have hsc := nextT_sc hnt
    walk_at "q"
    refine g_app h3 (by omega) ?_
    have e4 : Fr [p] H3 (upd H3 p (.lst (us ++ [.ref r]))) := Fr.mut (List.mem_singleton.mpr rfl) h3 nofix_lst
    refine ⟨⟨m, ts ++ [t], us ++ [.ref r], _, rfl, upd_same, ?_, fun x hx => ?_, (e2.trans e3).over hp, by rw [List.length_append]; simp; omega, hm.2, fun r h => hcut r (.step (by omega) hc2 hnt h)⟩, ?_⟩
    ·rw [List.map_append]
     exact (tda_snoc4 ht3 (show Td K H3 (.ref r) t.d from .tup hr1 (.cons (.str _) (.cons (sc_td hsc.1) (.cons (.int _) .nil))))).fr e4
    ·rcases List.mem_append.mp hx with hx | hx
     ·exact hs x hx
     ·rw [List.mem_singleton.mp hx]; exact hsc
    ·show z.length - ((m : Int)).toNat < z.length - ((n : Int)).toNat
     omega
   ·exact qe n d H3 (hcut _ (.bad (by omega) hc2 hnt)) (e2.trans e3) hd
 ·walk_at "q"
  refine g_lenS zs ?_
  walk_at "q"
  refine ⟨le_of (by simp), fun r hr0 => ?_⟩
  have e3 : Fr [] H2 (upd H2 r (.tup [.str "end", .str "", .int (z.length : Nat)])) := Fr.new hr0
  have hr3 : SqT K (upd H2 r (.tup [.str "end", .str "", .int (z.length : Nat)])) r [.str "end", .str "", .int (z.length : Nat)] := SqT.of upd_same
  have h3 := e3.at h2 (fun z => nomatch z)
  have ht3 := ht2.fr e3
  generalize upd H2 r (.tup [.str "end", .str "", .int (z.length : Nat)]) = H3 at *
  walk_at "q"
  refine g_app h3 (by omega) ?_
  have e4 : Fr [p] H3 (upd H3 p (.lst (us ++ [.ref r]))) := Fr.mut (List.mem_singleton.mpr rfl) h3 nofix_lst
  walk_at "q"
  refine q (ts ++ [endT z]) p _ (hcut _ (.stop (by omega))) ((e2.trans e3).over hp) hp ⟨us ++ [.ref r], upd_same, ?_⟩
  rw [List.map_append]
  exact (tda_snoc4 ht3 (show Td K H3 (.ref r) (endT z).d from .tup hr3 (.cons (.str _) (.cons (.str _) (.cons (.int _) .nil))))).fr e4
end
def rowFs (p : Addr) (i : Nat) (m pl : Bool) : List (Str × V) := [("things", .ref p), ("spot", .int (i : Int)), ("mine", .bl m), ("plain", .bl pl)]
structure RowAt (K : PySem.W.Frag) (C : Addr) (H : Hp) (r tq : Addr) (ts : List Th) (i : Nat) (m pl : Bool) : Prop where
 ex : ∃ dx p us, H r = some (.ins C dx (rowFs p i m pl)) ∧ H p = some (.lst us) ∧ TdAll K H us (ts.map Th.d)
 sq : ∀ dx p i m pl, H r = some (.ins C dx (rowFs p i m pl)) → p = tq
theorem rowFs_inj {p p' : Addr} {i i' : Nat} {m m' pl pl' : Bool} (h : rowFs p i m pl = rowFs p' i' m' pl') : p = p' := by
 unfold rowFs at h
 have h1 := (List.cons.inj h).1
 have h2 := congrArg Prod.snd h1
 exact V.ref.inj h2
structure GoodTs (ts : List Th) : Prop where
 sc : ∀ t ∈ ts, isSc t.v = true
 ne : 0 < ts.length
 en : ∀ (i : Nat) (t : Th), ts[i]? = some t → (t.s = "end" ↔ i + 1 = ts.length)
 sz : ts.length ≤ 9001
def tkn (ts : List Th) (i : Nat) : Th := ts.getD i ⟨"end", .str "", 0⟩
def th (ts : List Th) (i : Nat) : Th := tkn ts (min i (ts.length - 1))
def isT (ts : List Th) (i : Nat) (s z : Str) : Bool := decide ((th ts i).s = s) && decide ((th ts i).v = .str z)
theorem th_tk {ts : List Th} {i : Nat} (h : i < ts.length) : th ts i = tkn ts i := by unfold th; rw [Nat.min_eq_left (by omega)]
structure RowC (K : PySem.W.Frag) (C : Addr) : Prop where
 cls : Cls K C
 a1 : NoAttr K C "things"
 a2 : NoAttr K C "spot"
 a3 : NoAttr K C "mine"
 a4 : NoAttr K C "plain"
theorem RowAt.fr {K : PySem.W.Frag} {C : Addr} {M : List Addr} {H H' : Hp} {r tq : Addr} {ts : List Th} {i : Nat} {m pl : Bool} (h : RowAt K C H r tq ts i m pl) (e : Fr [] H H') : RowAt K C H' r tq ts i m pl := by
 obtain ⟨dx, p, us, h1, h2, h3⟩ := h.ex
 refine ⟨⟨dx, p, us, e.at h1 (fun z => nomatch z), e.at h2 (fun z => nomatch z), h3.fr e⟩, fun dx' p' i' m' pl' h' => ?_⟩
 rw [e.at h1 (fun z => nomatch z)] at h'
 cases h'
 exact h.sq _ _ _ _ _ h1
theorem RowAt.frL {K : PySem.W.Frag} {C : Addr} {H H' : Hp} {r tq q : Addr} {ts : List Th} {i : Nat} {m pl : Bool} (h : RowAt K C H r tq ts i m pl) (e : Fr [q] H H') (h1 : q ≠ r) (h2 : q ≠ tq) : RowAt K C H' r tq ts i m pl := by
 obtain ⟨dx, p, us, g1, g2, g3⟩ := h.ex
 have hp := h.sq _ _ _ _ _ g1
 have nm : ∀ {x : Addr}, q ≠ x → x ∉ [q] := fun h z => h (List.mem_singleton.mp z).symm
 refine ⟨⟨dx, p, us, e.at g1 (nm h1), e.at g2 (nm (by rw [hp]; exact h2)), g3.fr e⟩, fun dx' p' i' m' pl' h' => ?_⟩
 rw [e.at g1 (nm h1)] at h'
 cases h'
 exact hp
theorem RowAt.off {K : PySem.W.Frag} {C : Addr} {H : Hp} {r tq q : Addr} {ts : List Th} {i : Nat} {m pl : Bool} (h : RowAt K C H r tq ts i m pl) (hq : H q = none) : q ≠ r ∧ q ≠ tq := by
 obtain ⟨dx, p, us, g1, g2, g3⟩ := h.ex
 have hp := h.sq _ _ _ _ _ g1
 refine ⟨fun z => ?_, fun z => ?_⟩
 ·rw [z, g1] at hq; cases hq
 ·rw [z, ← hp, g2] at hq; cases hq
theorem ths_at {K : PySem.W.Frag} {H : Hp} {us : List V} {ts : List Th} {i : Nat} (g : GoodTs ts) (h : TdAll K H us (ts.map Th.d)) (hi : i < ts.length) : ∃ q, atI us (i : Int) = some (.ref q) ∧ SqT K H q [.str (tkn ts i).s, (tkn ts i).v, .int ((tkn ts i).n : Int)] ∧ isSc (tkn ts i).v = true := by
 obtain ⟨k1, k2⟩ := tda_get h
 have e1 : us[i]? = some us[i] := List.getElem?_eq_getElem (by omega)
 obtain ⟨t, ht, td⟩ := k2 i _ e1
 have hm := g.sc t (List.mem_of_getElem? ht)
 obtain ⟨q, er, hq⟩ := th_at hm td
 have et : tkn ts i = t := by unfold tkn; rw [List.getD_eq_getElem?_getD, ht]; rfl
 rw [et]
 exact ⟨q, by rw [← er]; exact atI_nat e1, hq, hm⟩
def spSort (K : PySem.W.Frag) (C : Addr) : Sp := fun vs H Q _ => ∃ (r tq : Addr) (ts : List Th) (i a : Nat) (m pl : Bool), vs = [.ref r, .int (a : Int)] ∧ RowAt K C H r tq ts i m pl ∧ GoodTs ts ∧ i ≤ 20000 ∧ a ≤ 5 ∧ Q (.str (th ts (i + a)).s) H
def spThing (K : PySem.W.Frag) (C : Addr) : Sp := fun vs H Q _ => ∃ (r tq : Addr) (ts : List Th) (i a : Nat) (m pl : Bool), vs = [.ref r, .int (a : Int)] ∧ RowAt K C H r tq ts i m pl ∧ GoodTs ts ∧ i ≤ 20000 ∧ a ≤ 5 ∧ Q (th ts (i + a)).v H
def spIs (K : PySem.W.Frag) (C : Addr) (s : Str) : Sp := fun vs H Q _ => ∃ (r tq : Addr) (z : Str) (ts : List Th) (i a : Nat) (m pl : Bool), vs = [.ref r, .str z, .int (a : Int)] ∧ PyData.strOk z = true ∧ RowAt K C H r tq ts i m pl ∧ GoodTs ts ∧ i ≤ 20000 ∧ a ≤ 5 ∧ Q (.bl (isT ts (i + a) s z)) H
def spWrong (K : PySem.W.Frag) (C B : Addr) : Sp := fun vs H _ E => ∃ (r tq : Addr) (ts : List Th) (i : Nat) (m pl : Bool), vs = [.ref r] ∧ RowAt K C H r tq ts i m pl ∧ GoodTs ts ∧ i < ts.length ∧ ∀ d H', Fr [] H H' → H' d = some (.xd (badAt (tkn ts i).n)) → E (.ref B) (some d) H'
def spStep (K : PySem.W.Frag) (C : Addr) : Sp := fun vs H Q _ => ∃ (r tq : Addr) (ts : List Th) (i : Nat) (m pl : Bool), vs = [.ref r] ∧ RowAt K C H r tq ts i m pl ∧ GoodTs ts ∧ i < ts.length ∧ ∀ H', Fr [r] H H' → RowAt K C H' r tq ts (i + 1) m pl → Q (tkn ts i).v H'
def spNeedS (K : PySem.W.Frag) (C B : Addr) : Sp := fun vs H Q E => ∃ (r tq : Addr) (z : Str) (ts : List Th) (i : Nat) (m pl : Bool), vs = [.ref r, .str z] ∧ PyData.strOk z = true ∧ RowAt K C H r tq ts i m pl ∧ GoodTs ts ∧ i < ts.length ∧ (∀ H', isT ts i "sign" z = true → Fr [r] H H' → RowAt K C H' r tq ts (i + 1) m pl → Q .non H') ∧
 ∀ d H', isT ts i "sign" z = false → Fr [] H H' → H' d = some (.xd (badAt (tkn ts i).n)) → E (.ref B) (some d) H'
def spNeedN (K : PySem.W.Frag) (C B : Addr) : Sp := fun vs H Q E => ∃ (r tq : Addr) (ts : List Th) (i : Nat) (m pl : Bool), vs = [.ref r] ∧ RowAt K C H r tq ts i m pl ∧ GoodTs ts ∧ i < ts.length ∧ (∀ H', (tkn ts i).s = "name" → Fr [r] H H' → RowAt K C H' r tq ts (i + 1) m pl → Q (tkn ts i).v H') ∧
 ∀ d H', (tkn ts i).s ≠ "name" → Fr [] H H' → H' d = some (.xd (badAt (tkn ts i).n)) → E (.ref B) (some d) H'
def spNeedE (K : PySem.W.Frag) (C B : Addr) : Sp := fun vs H Q E => ∃ (r tq : Addr) (ts : List Th) (i : Nat) (m pl : Bool), vs = [.ref r] ∧ RowAt K C H r tq ts i m pl ∧ GoodTs ts ∧ i < ts.length ∧ (∀ H', (tkn ts i).s = "end" → Fr [] H H' → Q .non H') ∧
 ∀ d H', (tkn ts i).s ≠ "end" → Fr [] H H' → H' d = some (.xd (badAt (tkn ts i).n)) → E (.ref B) (some d) H'
theorem row_step {K : PySem.W.Frag} {C : Addr} {H : Hp} {r tq dx p : Addr} {us : List V} {ts : List Th} {i : Nat} {m pl : Bool} (hR : RowAt K C H r tq ts i m pl) (h1 : H r = some (.ins C dx (rowFs p i m pl))) (h2 : H p = some (.lst us)) (h3 : TdAll K H us (ts.map Th.d)) :
  Fr [r] H (upd H r (.ins C dx (putF "spot" (.int ((i : Int) + 1)) (rowFs p i m pl)))) ∧ RowAt K C (upd H r (.ins C dx (putF "spot" (.int ((i : Int) + 1)) (rowFs p i m pl)))) r tq ts (i + 1) m pl := by
 have e : Fr [r] H (upd H r (.ins C dx (putF "spot" (.int ((i : Int) + 1)) (rowFs p i m pl)))) := Fr.mut (List.mem_singleton.mpr rfl) h1 (fun z => z)
 have hp : p ≠ r := fun z => by rw [z, h1] at h2; cases h2
 have hq := hR.sq _ _ _ _ _ h1
 refine ⟨e, ⟨dx, p, us, upd_same, e.at h2 (fun z => hp (List.mem_singleton.mp z)), h3.fr e⟩, fun dx' p' i' m' pl' h' => ?_⟩
 rw [upd_same] at h'
 injection h' with h'
 injection h' with _ _ h'
 rw [← hq]
 exact (rowFs_inj (i := i + 1) (m := m) (pl := pl) h').symm
abbrev s_Row_sort_here : Stmt := methS 31 1
theorem sc_Row_sort_here : FnScope ["self", "ahead"] ["self", "ahead"] (defScope s_Row_sort_here) := ⟨rfl, rfl, rfl, by decide +kernel, rfl, by decide +kernel, by decide +kernel⟩
abbrev s_Row_thing : Stmt := methS 31 2
theorem sc_Row_thing : FnScope ["self", "ahead"] ["self", "ahead"] (defScope s_Row_thing) := ⟨rfl, rfl, rfl, by decide +kernel, rfl, by decide +kernel, by decide +kernel⟩
abbrev s_Row_is_sign : Stmt := methS 31 3
theorem sc_Row_is_sign : FnScope ["self", "sign", "ahead"] ["self", "sign", "ahead"] (defScope s_Row_is_sign) := ⟨rfl, rfl, rfl, by decide +kernel, rfl, by decide +kernel, by decide +kernel⟩
abbrev s_Row_is_kept : Stmt := methS 31 4
theorem sc_Row_is_kept : FnScope ["self", "word", "ahead"] ["self", "word", "ahead"] (defScope s_Row_is_kept) := ⟨rfl, rfl, rfl, by decide +kernel, rfl, by decide +kernel, by decide +kernel⟩
abbrev s_Row_wrong : Stmt := methS 31 5
theorem sc_Row_wrong : FnScope ["self"] ["self"] (defScope s_Row_wrong) := ⟨rfl, rfl, rfl, by decide +kernel, rfl, by decide +kernel, by decide +kernel⟩
abbrev s_Row_step : Stmt := methS 31 6
theorem sc_Row_step : FnScope ["self", "found"] ["self"] (defScope s_Row_step) := ⟨rfl, rfl, rfl, by decide +kernel, rfl, by decide +kernel, by decide +kernel⟩
abbrev s_Row_need_sign : Stmt := methS 31 7
theorem sc_Row_need_sign : FnScope ["self", "sign"] ["self", "sign"] (defScope s_Row_need_sign) := ⟨rfl, rfl, rfl, by decide +kernel, rfl, by decide +kernel, by decide +kernel⟩
abbrev s_Row_need_name : Stmt := methS 31 8
theorem sc_Row_need_name : FnScope ["self"] ["self"] (defScope s_Row_need_name) := ⟨rfl, rfl, rfl, by decide +kernel, rfl, by decide +kernel, by decide +kernel⟩
abbrev s_Row_need_end : Stmt := methS 31 9
theorem sc_Row_need_end : FnScope ["self"] ["self"] (defScope s_Row_need_end) := ⟨rfl, rfl, rfl, by decide +kernel, rfl, by decide +kernel, by decide +kernel⟩
section
variable {P : Program} {w : World} {K : PySem.W.Frag} {mg : Str → Option Value} {base : Heap} {a_BadText C : Addr} {f : Addr} {fd : FuncData}
theorem ok_sort_here (F : FnMd K "sort_here" "Row.sort_here" s_Row_sort_here [.int 0] [] f fd) (B : BiR mg) (R : RowC K C) : FnG P w K mg base CX0 2 f fd ["self", "ahead"] (spSort K C) := by
 refine okG F sc_Row_sort_here (fun vs H Q E h => ?_) (fun cdv A outer s H vs Q E hr h => ?_)
 ·obtain ⟨r, tq, ts, i, a, m, pl, rfl, _⟩ := h
  rfl
 obtain ⟨r, tq, ts, i, a, m, pl, rfl, hR, g, hi, ha, q⟩ := h
 obtain ⟨dx, p, us, h1, h2, h3⟩ := hR.ex
 have ul := (tda_get h3).1
 have g0 := g.ne
 refine ⟨_, PSs.nox (pss_one (ps_ret (pe_ix (kIx (K := K) (r := rIx) rfl ix_seq) (pe_ix (kIx (K := K) (r := rIx) rfl ix_seq) (kFld (K := K) rfl (pe_fld (pv 0) (by rfl))) (pe_callB (call_min2 rfl) (by rfl) B.b_min (by decide +kernel) (pa_cons (pe_op (kOp (K := K) (r := uAdd) rfl opu_add) (kFld (K := K) rfl (pe_fld (pv 0) (by rfl))) (pv 1)) (pa_cons (pe_op opu_sub (pe_callB (kCall (K := K) (r := uLen) rfl callu_len) (by rfl) B.b_len (by decide +kernel) (pa_cons (kFld (K := K) rfl (pe_fld (pv 0) (by rfl))) pa_nil)) pe_int) pa_nil))) (fun _ _ => rfl)) pe_int (fun _ _ => rfl)))), rd_start (σ0 := [some (.ref r), some (.int (a : Int))]) rfl ?_⟩
 walk_at "q"
 refine ⟨r, C, dx, _, _, rfl, h1, R.cls, R.a1, rfl, ?_⟩
 walk_at "q"
 refine ⟨r, C, dx, _, _, rfl, h1, R.cls, R.a2, rfl, ?_⟩
 walk_at "q"
 refine ⟨r, C, dx, _, _, rfl, h1, R.cls, R.a1, rfl, ?_⟩
 walk_at "q"
 refine ⟨_, _, rfl, ?_⟩
 have em : (if ((us.length : Nat) : Int) - 1 < (i : Int) + (a : Int) then ((us.length : Nat) : Int) - 1 else (i : Int) + (a : Int)) = ((min (i + a) (ts.length - 1) : Nat) : Int) := by split <;> omega
 rw [em]
 obtain ⟨q0, e0, hq0, _⟩ := ths_at g h3 (i := min (i + a) (ts.length - 1)) (by omega)
 walk_at "q"
 refine g_ixL (SqL.of h2) e0 ?_
 walk_at "q"
 exact q
theorem ok_thing (F : FnMd K "thing" "Row.thing" s_Row_thing [.int 0] [] f fd) (B : BiR mg) (R : RowC K C) : FnG P w K mg base CX0 2 f fd ["self", "ahead"] (spThing K C) := by
 refine okG F sc_Row_thing (fun vs H Q E h => ?_) (fun cdv A outer s H vs Q E hr h => ?_)
 ·obtain ⟨r, tq, ts, i, a, m, pl, rfl, _⟩ := h
  rfl
 obtain ⟨r, tq, ts, i, a, m, pl, rfl, hR, g, hi, ha, q⟩ := h
 obtain ⟨dx, p, us, h1, h2, h3⟩ := hR.ex
 have ul := (tda_get h3).1
 have g0 := g.ne
 refine ⟨_, PSs.nox (pss_one (ps_ret (pe_ix (kIx (K := K) (r := rIx) rfl ix_seq) (pe_ix (kIx (K := K) (r := rIx) rfl ix_seq) (kFld (K := K) rfl (pe_fld (pv 0) (by rfl))) (pe_callB (call_min2 rfl) (by rfl) B.b_min (by decide +kernel) (pa_cons (pe_op (kOp (K := K) (r := uAdd) rfl opu_add) (kFld (K := K) rfl (pe_fld (pv 0) (by rfl))) (pv 1)) (pa_cons (pe_op opu_sub (pe_callB (kCall (K := K) (r := uLen) rfl callu_len) (by rfl) B.b_len (by decide +kernel) (pa_cons (kFld (K := K) rfl (pe_fld (pv 0) (by rfl))) pa_nil)) pe_int) pa_nil))) (fun _ _ => rfl)) pe_int (fun _ _ => rfl)))), rd_start (σ0 := [some (.ref r), some (.int (a : Int))]) rfl ?_⟩
 walk_at "q"
 refine ⟨r, C, dx, _, _, rfl, h1, R.cls, R.a1, rfl, ?_⟩
 walk_at "q"
 refine ⟨r, C, dx, _, _, rfl, h1, R.cls, R.a2, rfl, ?_⟩
 walk_at "q"
 refine ⟨r, C, dx, _, _, rfl, h1, R.cls, R.a1, rfl, ?_⟩
 walk_at "q"
 refine ⟨_, _, rfl, ?_⟩
 have em : (if ((us.length : Nat) : Int) - 1 < (i : Int) + (a : Int) then ((us.length : Nat) : Int) - 1 else (i : Int) + (a : Int)) = ((min (i + a) (ts.length - 1) : Nat) : Int) := by split <;> omega
 rw [em]
 obtain ⟨q0, e0, hq0, _⟩ := ths_at g h3 (i := min (i + a) (ts.length - 1)) (by omega)
 walk_at "q"
 refine g_ixL (SqL.of h2) e0 ?_
 walk_at "q"
 exact q
theorem ok_is_sign (F : FnMd K "is_sign" "Row.is_sign" s_Row_is_sign [.int 0] [] f fd) (M_sort_here_1 : MetG P w K mg base CX0 2 C "sort_here" [] (spSort K C)) (M_thing_1 : MetG P w K mg base CX0 2 C "thing" [] (spThing K C)) : FnG P w K mg base CX0 4 f fd ["self", "sign", "ahead"] (spIs K C "sign") := by
 refine okG F sc_Row_is_sign (fun vs H Q E h => ?_) (fun cdv A outer s H vs Q E hr h => ?_)
 ·obtain ⟨r, tq, z, ts, i, a, m, pl, rfl, _⟩ := h
  rfl
 obtain ⟨r, tq, z, ts, i, a, m, pl, rfl, hz, hR, g, hi, ha, q⟩ := h
 obtain ⟨dx, p, us, h1, h2, h3⟩ := hR.ex
 refine ⟨_, PSs.nox (pss_one (ps_ret (pe_andTK (K := K) rfl (pe_cmpR (kOp (K := K) (r := uEq) rfl (opu_eq hr.units)) (pe_metG M_sort_here_1 hr (pv 0) (pa_cons (pv 2) pa_nil)) pe_str (nomark _)) (pe_one (pe_cmpR (kOp (K := K) (r := uEq) rfl (opu_eq hr.units)) (pe_metG M_thing_1 hr (pv 0) (pa_cons (pv 2) pa_nil)) (pv 1) (nomark _)))))), rd_start (σ0 := [some (.ref r), some (.str z), some (.int (a : Int))]) rfl ?_⟩
 walk_at "q"
 refine ⟨r, dx, _, rfl, h1, rfl, ?_⟩
 walk_at "q"
 refine ⟨r, tq, ts, i, a, m, pl, rfl, hR, g, hi, ha, ?_⟩
 walk_at "q"
 have ei : isT ts (i + a) "sign" z = (decide ((th ts (i + a)).s = "sign") && decide ((th ts (i + a)).v = .str z)) := rfl
 rw [ei] at q
 have g0 := g.ne
 obtain ⟨_, _, _, hsc⟩ := ths_at g h3 (i := min (i + a) (ts.length - 1)) (by omega)
 cases h7 : decide ((th ts (i + a)).s = "sign") with
 | false =>
  rw [h7] at q
  exact q
 | true =>
  rw [h7, Bool.true_and] at q
  rw [if_pos rfl]
  walk_at "q"
  refine ⟨r, dx, _, rfl, h1, rfl, ?_⟩
  walk_at "q"
  refine ⟨r, tq, ts, i, a, m, pl, rfl, hR, g, hi, ha, ?_⟩
  walk_at "q"
  exact g_eqSc hz hsc q
theorem ok_is_kept (F : FnMd K "is_kept" "Row.is_kept" s_Row_is_kept [.int 0] [] f fd) (M_sort_here_1 : MetG P w K mg base CX0 2 C "sort_here" [] (spSort K C)) (M_thing_1 : MetG P w K mg base CX0 2 C "thing" [] (spThing K C)) : FnG P w K mg base CX0 4 f fd ["self", "word", "ahead"] (spIs K C "kept") := by
 refine okG F sc_Row_is_kept (fun vs H Q E h => ?_) (fun cdv A outer s H vs Q E hr h => ?_)
 ·obtain ⟨r, tq, z, ts, i, a, m, pl, rfl, _⟩ := h
  rfl
 obtain ⟨r, tq, z, ts, i, a, m, pl, rfl, hz, hR, g, hi, ha, q⟩ := h
 obtain ⟨dx, p, us, h1, h2, h3⟩ := hR.ex
 refine ⟨_, PSs.nox (pss_one (ps_ret (pe_andTK (K := K) rfl (pe_cmpR (kOp (K := K) (r := uEq) rfl (opu_eq hr.units)) (pe_metG M_sort_here_1 hr (pv 0) (pa_cons (pv 2) pa_nil)) pe_str (nomark _)) (pe_one (pe_cmpR (kOp (K := K) (r := uEq) rfl (opu_eq hr.units)) (pe_metG M_thing_1 hr (pv 0) (pa_cons (pv 2) pa_nil)) (pv 1) (nomark _)))))), rd_start (σ0 := [some (.ref r), some (.str z), some (.int (a : Int))]) rfl ?_⟩
 walk_at "q"
 refine ⟨r, dx, _, rfl, h1, rfl, ?_⟩
 walk_at "q"
 refine ⟨r, tq, ts, i, a, m, pl, rfl, hR, g, hi, ha, ?_⟩
 walk_at "q"
 have ei : isT ts (i + a) "kept" z = (decide ((th ts (i + a)).s = "kept") && decide ((th ts (i + a)).v = .str z)) := rfl
 rw [ei] at q
 have g0 := g.ne
 obtain ⟨_, _, _, hsc⟩ := ths_at g h3 (i := min (i + a) (ts.length - 1)) (by omega)
 cases h7 : decide ((th ts (i + a)).s = "kept") with
 | false =>
  rw [h7] at q
  exact q
 | true =>
  rw [h7, Bool.true_and] at q
  rw [if_pos rfl]
  walk_at "q"
  refine ⟨r, dx, _, rfl, h1, rfl, ?_⟩
  walk_at "q"
  refine ⟨r, tq, ts, i, a, m, pl, rfl, hR, g, hi, ha, ?_⟩
  walk_at "q"
  exact g_eqSc hz hsc q
theorem ok_wrong (F : FnMd K "wrong" "Row.wrong" s_Row_wrong [] [] f fd) (R : RowC K C) (G_BadText : ClG P w K mg base 2 "BadText" a_BadText (spI1 K "badtext" "at")) (n1 : PySem.W.findIn K (.ref a_BadText) "word" = some none) (n2 : PySem.W.findIn K (.ref a_BadText) "at" = some none) : FnG P w K mg base (L2.CX P w) 4 f fd ["self"] (spWrong K C a_BadText) := by
 refine okX F sc_Row_wrong (fun vs H Q E h => ?_) (fun cdv A outer s H vs Q E hr h tk => ?_)
 ·obtain ⟨r, tq, ts, i, m, pl, rfl, _⟩ := h
  rfl
 obtain ⟨r, tq, ts, i, m, pl, rfl, hR, g, hi, q⟩ := h
 obtain ⟨dx, p, us, h1, h2, h3⟩ := hR.ex
 obtain ⟨q0, e0, hq0, _⟩ := ths_at g h3 hi
 refine ⟨_, (pss_one (ps_rs rfl tk (pmk_mkX G_BadText hr rfl (pa_cons (pe_ix (kIx (K := K) (r := rIx) rfl ix_seq) (pe_ix (kIx (K := K) (r := rIx) rfl ix_seq) (kFld (K := K) rfl (pe_fld (pv 0) (by rfl))) (kFld (K := K) rfl (pe_fld (pv 0) (by rfl))) (fun _ _ => rfl)) pe_int (fun _ _ => rfl)) pa_nil)))), rd_start (σ0 := [some (.ref r)]) rfl ?_⟩
 walk_at "q"
 refine ⟨r, C, dx, _, _, rfl, h1, R.cls, R.a1, rfl, ?_⟩
 walk_at "q"
 refine ⟨r, C, dx, _, _, rfl, h1, R.cls, R.a2, rfl, ?_⟩
 refine g_ixL (SqL.of h2) e0 ?_
 walk_at "q"
 exact mkX_I1 G_BadText.ec n1 n2 fun d H' fr e => q d H' fr e
theorem ok_step (F : FnMd K "step" "Row.step" s_Row_step [] [] f fd) (R : RowC K C) : FnG P w K mg base CX0 4 f fd ["self"] (spStep K C) := by
 refine okG F sc_Row_step (fun vs H Q E h => ?_) (fun cdv A outer s H vs Q E hr h => ?_)
 ·obtain ⟨r, tq, ts, i, m, pl, rfl, _⟩ := h
  rfl
 obtain ⟨r, tq, ts, i, m, pl, rfl, hR, g, hi, q⟩ := h
 obtain ⟨dx, p, us, h1, h2, h3⟩ := hR.ex
 obtain ⟨q0, e0, hq0, _⟩ := ths_at g h3 hi
 refine ⟨_, PSs.nox (pss_cons (ps_set (i := 1) sc_Row_step.nd rfl (.inl rfl) (pe_ix (kIx (K := K) (r := rIx) rfl ix_seq) (pe_ix (kIx (K := K) (r := rIx) rfl ix_seq) (kFld (K := K) rfl (pe_fld (pv 0) (by rfl))) (kFld (K := K) rfl (pe_fld (pv 0) (by rfl))) (fun _ _ => rfl)) pe_int (fun _ _ => rfl)))
 (pss_cons (kFldAug (K := K) rfl (ps_fldaug (pv 0) pe_int in_add))
 (pss_one (ps_ret (pv 1))))), rd_start (σ0 := [some (.ref r), none]) rfl ?_⟩
 walk_at "q"
 refine ⟨r, C, dx, _, _, rfl, h1, R.cls, R.a1, rfl, ?_⟩
 walk_at "q"
 refine ⟨r, C, dx, _, _, rfl, h1, R.cls, R.a2, rfl, ?_⟩
 refine g_ixL (SqL.of h2) e0 ?_
 walk_at "q"
 refine ⟨r, C, dx, _, _, rfl, h1, R.cls, R.a2, rfl, ?_⟩
 walk_at "q"
 refine ⟨(i : Int), 1, rfl, rfl, dx, _, h1, by show 4 < 1000; decide, ?_⟩
 walk_at "q"
 obtain ⟨e1, r1⟩ := row_step hR h1 h2 h3
 exact q _ e1 r1
theorem ok_need_sign (F : FnMd K "need_sign" "Row.need_sign" s_Row_need_sign [] [] f fd) (R : RowC K C) (M_is_sign_1 : MetG P w K mg base CX0 4 C "is_sign" [.int 0] (spIs K C "sign")) (M_wrong_0 : MetG P w K mg base (L2.CX P w) 4 C "wrong" [] (spWrong K C a_BadText)) : FnG P w K mg base (L2.CX P w) 6 f fd ["self", "sign"] (spNeedS K C a_BadText) := by
 refine okX F sc_Row_need_sign (fun vs H Q E h => ?_) (fun cdv A outer s H vs Q E hr h tk => ?_)
 ·obtain ⟨r, tq, z, ts, i, m, pl, rfl, _⟩ := h
  rfl
 obtain ⟨r, tq, z, ts, i, m, pl, rfl, hz, hR, g, hi, q, qe⟩ := h
 obtain ⟨dx, p, us, h1, h2, h3⟩ := hR.ex
 have gz := g.sz
 refine ⟨_, (pss_cons (ps_if (pt_not (pt_val (pe_metG M_is_sign_1 hr (pv 0) (pa_cons (pv 1) pa_nil)))) (pss_one (ps_expr (pe_metX0 M_wrong_0 tk hr (pv 0)))) pss_nil)
 (pss_one (kFldAug (K := K) rfl (ps_fldaug (pv 0) pe_int in_add)))), rd_start (σ0 := [some (.ref r), some (.str z)]) rfl ?_⟩
 walk_at "q"
 refine ⟨r, dx, _, rfl, h1, rfl, ?_⟩
 walk_at "q"
 refine ⟨r, tq, z, ts, i, 0, m, pl, rfl, hz, hR, g, by omega, by omega, ?_⟩
 rw [Nat.add_zero]
 walk_at "q"
 cases hs : isT ts i "sign" z with
 | false =>
  refine g_tt rfl ?_
  walk_at "q"
  refine ⟨r, dx, _, rfl, h1, rfl, ?_⟩
  walk_at "q"
  exact ⟨r, tq, ts, i, m, pl, rfl, hR, g, hi, fun d H' e hd => qe d H' hs e hd⟩
 | true =>
  refine g_ff rfl ?_
  walk_at "q"
  refine ⟨r, C, dx, _, _, rfl, h1, R.cls, R.a2, rfl, ?_⟩
  walk_at "q"
  refine ⟨(i : Int), 1, rfl, rfl, dx, _, h1, by show 4 < 1000; decide, ?_⟩
  obtain ⟨e1, r1⟩ := row_step hR h1 h2 h3
  exact q _ hs e1 r1
theorem ok_need_name (F : FnMd K "need_name" "Row.need_name" s_Row_need_name [] [] f fd) (R : RowC K C) (M_sort_here_0 : MetG P w K mg base CX0 2 C "sort_here" [.int 0] (spSort K C)) (M_wrong_0 : MetG P w K mg base (L2.CX P w) 4 C "wrong" [] (spWrong K C a_BadText)) (M_step_0 : MetG P w K mg base CX0 4 C "step" [] (spStep K C)) : FnG P w K mg base (L2.CX P w) 6 f fd ["self"] (spNeedN K C a_BadText) := by
 refine okX F sc_Row_need_name (fun vs H Q E h => ?_) (fun cdv A outer s H vs Q E hr h tk => ?_)
 ·obtain ⟨r, tq, ts, i, m, pl, rfl, _⟩ := h
  rfl
 obtain ⟨r, tq, ts, i, m, pl, rfl, hR, g, hi, q, qe⟩ := h
 obtain ⟨dx, p, us, h1, h2, h3⟩ := hR.ex
 have gz := g.sz
 refine ⟨_, (pss_cons (ps_if (pt_cmpR (kOp (K := K) (r := uNe) rfl (opu_ne hr.units)) (pe_metG0 M_sort_here_0 hr (pv 0)) pe_str (nomark _)) (pss_one (ps_expr (pe_metX0 M_wrong_0 tk hr (pv 0)))) pss_nil)
 (pss_one (ps_ret (pe_metG0 M_step_0 hr (pv 0))))), rd_start (σ0 := [some (.ref r)]) rfl ?_⟩
 walk_at "q"
 refine ⟨r, dx, _, rfl, h1, rfl, ?_⟩
 walk_at "q"
 refine ⟨r, tq, ts, i, 0, m, pl, rfl, hR, g, by omega, by omega, ?_⟩
 rw [Nat.add_zero, th_tk hi]
 walk_at "q"
 refine g_byN (fun c => ?_) (fun c => ?_)
 ·walk_at "q"
  refine ⟨r, dx, _, rfl, h1, rfl, ?_⟩
  walk_at "q"
  exact ⟨r, tq, ts, i, m, pl, rfl, hR, g, hi, fun d H' e hd => qe d H' c e hd⟩
 ·walk_at "q"
  refine ⟨r, dx, _, rfl, h1, rfl, ?_⟩
  walk_at "q"
  exact ⟨r, tq, ts, i, m, pl, rfl, hR, g, hi, fun H' e hR' => q H' c e hR'⟩
theorem ok_need_end (F : FnMd K "need_end" "Row.need_end" s_Row_need_end [] [] f fd) (R : RowC K C) (M_sort_here_0 : MetG P w K mg base CX0 2 C "sort_here" [.int 0] (spSort K C)) (M_wrong_0 : MetG P w K mg base (L2.CX P w) 4 C "wrong" [] (spWrong K C a_BadText)) : FnG P w K mg base (L2.CX P w) 6 f fd ["self"] (spNeedE K C a_BadText) := by
 refine okX F sc_Row_need_end (fun vs H Q E h => ?_) (fun cdv A outer s H vs Q E hr h tk => ?_)
 ·obtain ⟨r, tq, ts, i, m, pl, rfl, _⟩ := h
  rfl
 obtain ⟨r, tq, ts, i, m, pl, rfl, hR, g, hi, q, qe⟩ := h
 obtain ⟨dx, p, us, h1, h2, h3⟩ := hR.ex
 have gz := g.sz
 refine ⟨_, (pss_one (ps_if (pt_cmpR (kOp (K := K) (r := uNe) rfl (opu_ne hr.units)) (pe_metG0 M_sort_here_0 hr (pv 0)) pe_str (nomark _)) (pss_one (ps_expr (pe_metX0 M_wrong_0 tk hr (pv 0)))) pss_nil)), rd_start (σ0 := [some (.ref r)]) rfl ?_⟩
 walk_at "q"
 refine ⟨r, dx, _, rfl, h1, rfl, ?_⟩
 walk_at "q"
 refine ⟨r, tq, ts, i, 0, m, pl, rfl, hR, g, by omega, by omega, ?_⟩
 rw [Nat.add_zero, th_tk hi]
 walk_at "q"
 refine g_byN (fun c => ?_) (fun c => ?_)
 ·walk_at "q"
  refine ⟨r, dx, _, rfl, h1, rfl, ?_⟩
  walk_at "q"
  exact ⟨r, tq, ts, i, m, pl, rfl, hR, g, hi, fun d H' e hd => qe d H' c e hd⟩
 ·walk_at "q"
  exact q _ c Fr.refl
end
abbrev Res := Except Nat (PyData × Nat)
def valD (t : Th) : PyData := .tuple [.str "value", scD t.v]
def varD (t : Th) : PyData := .tuple [.str "var", scD t.v]
def LeafR (ts : List Th) (mine ok : Bool) (rc : Nat → Res → Prop) (i : Nat) (r : Res) : Prop :=
 if (tkn ts i).s = "value" then r = .ok (valD (tkn ts i), i + 1)
 else if (tkn ts i).s = "name" ∨ (mine = true ∧ isT ts i "kept" "me" = true) then r = .ok (varD (tkn ts i), i + 1)
 else if isT ts i "sign" "(" = false ∨ ok = false then r = .error i
 else (∃ e, rc (i + 1) (.error e) ∧ r = .error e) ∨ ∃ d j, rc (i + 1) (.ok (d, j)) ∧ r = if isT ts j "sign" ")" = true then .ok (d, j + 1) else .error j
inductive LoopR (ts : List Th) (sg : List Str) (lf : Nat → Res → Prop) : PyData → Nat → Res → Prop
 | stop {d : PyData} {i : Nat} : (∀ s ∈ sg, isT ts i "sign" s = false) → LoopR ts sg lf d i (.ok (d, i))
 | bad {d : PyData} {i e : Nat} {s : Str} : s ∈ sg → isT ts i "sign" s = true → lf (i + 1) (.error e) → LoopR ts sg lf d i (.error e)
 | step {d d2 : PyData} {i j : Nat} {s : Str} {r : Res} : s ∈ sg → isT ts i "sign" s = true → lf (i + 1) (.ok (d2, j)) → LoopR ts sg lf (.tuple [.str s, d, d2]) j r → LoopR ts sg lf d i r
def ChainR (ts : List Th) (sg : List Str) (lf : Nat → Res → Prop) (i : Nat) (r : Res) : Prop := (∃ e, lf i (.error e) ∧ r = .error e) ∨ ∃ d j, lf i (.ok (d, j)) ∧ LoopR ts sg lf d j r
def ProdR (ts : List Th) (lf : Nat → Res → Prop) : Nat → Res → Prop := ChainR ts ["*"] lf
def SumR (ts : List Th) (lf : Nat → Res → Prop) : Nat → Res → Prop := ChainR ts ["+", "-"] (ProdR ts lf)
def SumN (ts : List Th) (m : Bool) : Nat → Nat → Res → Prop
 | 0 => SumR ts (LeafR ts m false fun _ _ => False)
 | n + 1 => SumR ts (LeafR ts m true (SumN ts m n))
def LeafN (ts : List Th) (m : Bool) : Nat → Nat → Res → Prop
 | 0 => LeafR ts m false fun _ _ => False
 | n + 1 => LeafR ts m true (SumN ts m n)
theorem sumN_eq (ts : List Th) (m : Bool) (n : Nat) : SumN ts m n = SumR ts (LeafN ts m n) := by cases n <;> rfl
theorem GoodTs.next {ts : List Th} (g : GoodTs ts) {i : Nat} (hi : i < ts.length) (h : (tkn ts i).s ≠ "end") : i + 1 < ts.length := by
 have e1 : ts[i]? = some ts[i] := List.getElem?_eq_getElem hi
 have et : tkn ts i = ts[i] := by unfold tkn; rw [List.getD_eq_getElem?_getD, e1]; rfl
 have : ¬ (i + 1 = ts.length) := fun z => h (by rw [et]; exact (g.en i _ e1).mpr z)
 omega
def RdOk (K : PySem.W.Frag) (C B : Addr) (R : Nat → Res → Prop) (H : Hp) (r tq : Addr) (ts : List Th) (i : Nat) (m pl : Bool) (Q : VK) (E : XK) : Prop :=
 (∀ d j v H', R i (.ok (d, j)) → j < ts.length → Fr [r] H H' → RowAt K C H' r tq ts j m pl → Td K H' v d → Q v H') ∧ ∀ e dd H', R i (.error e) → e < ts.length → Fr [r] H H' → H' dd = some (.xd (badAt (tkn ts e).n)) → E (.ref B) (some dd) H'
def spRdN (K : PySem.W.Frag) (C B : Addr) (R : List Th → Bool → Nat → Nat → Res → Prop) (n : Nat) : Sp := fun vs H Q E => ∃ (r tq : Addr) (ts : List Th) (i : Nat) (m pl : Bool), vs = [.ref r, .int ((12 : Int) - n)] ∧ RowAt K C H r tq ts i m pl ∧ GoodTs ts ∧ i < ts.length ∧ RdOk K C B (R ts m n) H r tq ts i m pl Q E
def spPrev (K : PySem.W.Frag) (C B : Addr) : Nat → Sp
 | 0 => fun _ _ _ _ => False
 | n + 1 => spRdN K C B SumN n
abbrev z_MOST_DEEP : Int := 12
abbrev s_read_leaf : Stmt := topS 32
theorem sc_read_leaf : FnScope ["row", "deep", "found"] ["row", "deep"] (defScope s_read_leaf) := ⟨rfl, rfl, rfl, by decide +kernel, rfl, by decide +kernel, by decide +kernel⟩
abbrev s_read_product : Stmt := topS 33
theorem sc_read_product : FnScope ["row", "deep", "found"] ["row", "deep"] (defScope s_read_product) := ⟨rfl, rfl, rfl, by decide +kernel, rfl, by decide +kernel, by decide +kernel⟩
abbrev s_read_sum : Stmt := topS 34
theorem sc_read_sum : FnScope ["row", "deep", "found", "sign"] ["row", "deep"] (defScope s_read_sum) := ⟨rfl, rfl, rfl, by decide +kernel, rfl, by decide +kernel, by decide +kernel⟩
structure RowM (P : Program) (w : World) (K : PySem.W.Frag) (mg : Str → Option Value) (base : Heap) (C B : Addr) : Prop where
 sh0 : MetG P w K mg base CX0 2 C "sort_here" [.int 0] (spSort K C)
 th0 : MetG P w K mg base CX0 2 C "thing" [.int 0] (spThing K C)
 is1 : MetG P w K mg base CX0 4 C "is_sign" [.int 0] (spIs K C "sign")
 is2 : MetG P w K mg base CX0 4 C "is_sign" [] (spIs K C "sign")
 ik1 : MetG P w K mg base CX0 4 C "is_kept" [.int 0] (spIs K C "kept")
 ik2 : MetG P w K mg base CX0 4 C "is_kept" [] (spIs K C "kept")
 wr : MetG P w K mg base (L2.CX P w) 4 C "wrong" [] (spWrong K C B)
 st : MetG P w K mg base CX0 4 C "step" [] (spStep K C)
 ns : MetG P w K mg base (L2.CX P w) 6 C "need_sign" [] (spNeedS K C B)
 nn : MetG P w K mg base (L2.CX P w) 6 C "need_name" [] (spNeedN K C B)
 ne : MetG P w K mg base (L2.CX P w) 6 C "need_end" [] (spNeedE K C B)
section
variable {K : PySem.W.Frag} {C B : Addr} {H : Hp} {σ : L2.St} {r tq : Addr} {ts : List Th} {i i0 : Nat} {m pl : Bool} {Q : VK} {z : Str} {W : WX}
theorem m_sh0 (h0 : σ[i0]? = some (some (.ref r))) (hR : RowAt K C H r tq ts i m pl) (g : GoodTs ts) (hi : i < ts.length) (q : Q (.str (tkn ts i).s) H) : tMetX C "sort_here" (spSort K C) [.int 0] (fun _ => E0) (tVar i0) tNil σ H Q := by
 obtain ⟨dx, p, us, h1, _⟩ := hR.ex
 have gz := g.sz
 exact g_met (g_var h0 ⟨r, dx, _, rfl, h1, rfl, g_nil ⟨r, tq, ts, i, 0, m, pl, rfl, hR, g, by omega, by omega, by rw [Nat.add_zero, th_tk hi]; exact q⟩⟩)
theorem m_th0 (h0 : σ[i0]? = some (some (.ref r))) (hR : RowAt K C H r tq ts i m pl) (g : GoodTs ts) (hi : i < ts.length) (q : Q (tkn ts i).v H) : tMetX C "thing" (spThing K C) [.int 0] (fun _ => E0) (tVar i0) tNil σ H Q := by
 obtain ⟨dx, p, us, h1, _⟩ := hR.ex
 have gz := g.sz
 exact g_met (g_var h0 ⟨r, dx, _, rfl, h1, rfl, g_nil ⟨r, tq, ts, i, 0, m, pl, rfl, hR, g, by omega, by omega, by rw [Nat.add_zero, th_tk hi]; exact q⟩⟩)
theorem m_is1 (h0 : σ[i0]? = some (some (.ref r))) (hz : PyData.strOk z = true) (hR : RowAt K C H r tq ts i m pl) (g : GoodTs ts) (hi : i < ts.length) (q : Q (.bl (isT ts i "sign" z)) H) : tMetX C "is_sign" (spIs K C "sign") [.int 0] (fun _ => E0) (tVar i0) (tCons (tC (.str z)) tNil) σ H Q := by
 obtain ⟨dx, p, us, h1, _⟩ := hR.ex
 have gz := g.sz
 exact g_met (g_var h0 ⟨r, dx, _, rfl, h1, rfl, g_cons (g_c (g_nil ⟨r, tq, z, ts, i, 0, m, pl, rfl, hz, hR, g, by omega, by omega, by rw [Nat.add_zero]; exact q⟩))⟩)
theorem m_ik1 (h0 : σ[i0]? = some (some (.ref r))) (hz : PyData.strOk z = true) (hR : RowAt K C H r tq ts i m pl) (g : GoodTs ts) (hi : i < ts.length) (q : Q (.bl (isT ts i "kept" z)) H) : tMetX C "is_kept" (spIs K C "kept") [.int 0] (fun _ => E0) (tVar i0) (tCons (tC (.str z)) tNil) σ H Q := by
 obtain ⟨dx, p, us, h1, _⟩ := hR.ex
 have gz := g.sz
 exact g_met (g_var h0 ⟨r, dx, _, rfl, h1, rfl, g_cons (g_c (g_nil ⟨r, tq, z, ts, i, 0, m, pl, rfl, hz, hR, g, by omega, by omega, by rw [Nat.add_zero]; exact q⟩))⟩)
theorem m_is2 (h0 : σ[i0]? = some (some (.ref r))) (hz : PyData.strOk z = true) (hR : RowAt K C H r tq ts i m pl) (g : GoodTs ts) (hi : i < ts.length) (q : Q (.bl (isT ts (i + 1) "sign" z)) H) : tMetX C "is_sign" (spIs K C "sign") [] (fun _ => E0) (tVar i0) (tCons (tC (.str z)) (tCons (tC (.int 1)) tNil)) σ H Q := by
 obtain ⟨dx, p, us, h1, _⟩ := hR.ex
 have gz := g.sz
 exact g_met (g_var h0 ⟨r, dx, _, rfl, h1, rfl, g_cons (g_c (g_cons (g_c (g_nil ⟨r, tq, z, ts, i, 1, m, pl, rfl, hz, hR, g, by omega, by omega, q⟩))))⟩)
theorem m_ik2 (h0 : σ[i0]? = some (some (.ref r))) (hz : PyData.strOk z = true) (hR : RowAt K C H r tq ts i m pl) (g : GoodTs ts) (hi : i < ts.length) (q : Q (.bl (isT ts (i + 1) "kept" z)) H) : tMetX C "is_kept" (spIs K C "kept") [] (fun _ => E0) (tVar i0) (tCons (tC (.str z)) (tCons (tC (.int 1)) tNil)) σ H Q := by
 obtain ⟨dx, p, us, h1, _⟩ := hR.ex
 have gz := g.sz
 exact g_met (g_var h0 ⟨r, dx, _, rfl, h1, rfl, g_cons (g_c (g_cons (g_c (g_nil ⟨r, tq, z, ts, i, 1, m, pl, rfl, hz, hR, g, by omega, by omega, q⟩))))⟩)
theorem m_st (h0 : σ[i0]? = some (some (.ref r))) (hR : RowAt K C H r tq ts i m pl) (g : GoodTs ts) (hi : i < ts.length) (q : ∀ H', Fr [r] H H' → RowAt K C H' r tq ts (i + 1) m pl → Q (tkn ts i).v H') : tMetX C "step" (spStep K C) [] (fun _ => E0) (tVar i0) tNil σ H Q := by
 obtain ⟨dx, p, us, h1, _⟩ := hR.ex
 exact g_met (g_var h0 ⟨r, dx, _, rfl, h1, rfl, g_nil ⟨r, tq, ts, i, m, pl, rfl, hR, g, hi, q⟩⟩)
theorem m_wr (h0 : σ[i0]? = some (some (.ref r))) (hR : RowAt K C H r tq ts i m pl) (g : GoodTs ts) (hi : i < ts.length) (q : ∀ d H', Fr [] H H' → H' d = some (.xd (badAt (tkn ts i).n)) → WE W σ (.ref B) (some d) H') : tMetX C "wrong" (spWrong K C B) [] (WE W) (tVar i0) tNil σ H Q := by
 obtain ⟨dx, p, us, h1, _⟩ := hR.ex
 exact g_met (g_var h0 ⟨r, dx, _, rfl, h1, rfl, g_nil ⟨r, tq, ts, i, m, pl, rfl, hR, g, hi, q⟩⟩)
theorem m_ns (h0 : σ[i0]? = some (some (.ref r))) (hz : PyData.strOk z = true) (hR : RowAt K C H r tq ts i m pl) (g : GoodTs ts) (hi : i < ts.length) (q : ∀ H', isT ts i "sign" z = true → Fr [r] H H' → RowAt K C H' r tq ts (i + 1) m pl → Q .non H')
  (qe : ∀ d H', isT ts i "sign" z = false → Fr [] H H' → H' d = some (.xd (badAt (tkn ts i).n)) → WE W σ (.ref B) (some d) H') : tMetX C "need_sign" (spNeedS K C B) [] (WE W) (tVar i0) (tCons (tC (.str z)) tNil) σ H Q := by
 obtain ⟨dx, p, us, h1, _⟩ := hR.ex
 exact g_met (g_var h0 ⟨r, dx, _, rfl, h1, rfl, g_cons (g_c (g_nil ⟨r, tq, z, ts, i, m, pl, rfl, hz, hR, g, hi, q, qe⟩))⟩)
theorem m_nn (h0 : σ[i0]? = some (some (.ref r))) (hR : RowAt K C H r tq ts i m pl) (g : GoodTs ts) (hi : i < ts.length) (q : ∀ H', (tkn ts i).s = "name" → Fr [r] H H' → RowAt K C H' r tq ts (i + 1) m pl → Q (tkn ts i).v H')
  (qe : ∀ d H', (tkn ts i).s ≠ "name" → Fr [] H H' → H' d = some (.xd (badAt (tkn ts i).n)) → WE W σ (.ref B) (some d) H') : tMetX C "need_name" (spNeedN K C B) [] (WE W) (tVar i0) tNil σ H Q := by
 obtain ⟨dx, p, us, h1, _⟩ := hR.ex
 exact g_met (g_var h0 ⟨r, dx, _, rfl, h1, rfl, g_nil ⟨r, tq, ts, i, m, pl, rfl, hR, g, hi, q, qe⟩⟩)
theorem m_ne (h0 : σ[i0]? = some (some (.ref r))) (hR : RowAt K C H r tq ts i m pl) (g : GoodTs ts) (hi : i < ts.length) (q : ∀ H', (tkn ts i).s = "end" → Fr [] H H' → Q .non H')
  (qe : ∀ d H', (tkn ts i).s ≠ "end" → Fr [] H H' → H' d = some (.xd (badAt (tkn ts i).n)) → WE W σ (.ref B) (some d) H') : tMetX C "need_end" (spNeedE K C B) [] (WE W) (tVar i0) tNil σ H Q := by
 obtain ⟨dx, p, us, h1, _⟩ := hR.ex
 exact g_met (g_var h0 ⟨r, dx, _, rfl, h1, rfl, g_nil ⟨r, tq, ts, i, m, pl, rfl, hR, g, hi, q, qe⟩⟩)
theorem isT_s {ts : List Th} {i : Nat} {s z : Str} (h : isT ts i s z = true) (hi : i < ts.length) : (tkn ts i).s = s ∧ (tkn ts i).v = .str z := by
 unfold isT at h
 rw [th_tk hi] at h
 have h2 := Bool.and_eq_true_iff.mp h
 exact ⟨of_decide_eq_true h2.1, of_decide_eq_true h2.2⟩
end
local macro_rules | `(tactic| walk_at "rd") => `(tactic| first
 | ((with_reducible show (if _ = true then _ else _)); first | ((with_reducible refine g_tt ?h0 ?_); (case h0 => decide +kernel)) | ((with_reducible refine g_ff ?h0 ?_); (case h0 => decide +kernel)))
 | ((fail_if_success (with_reducible show (if _ = true then _ else _))); (fail_if_success (with_reducible show _ ≤ _ ∧ _)); (first
 | with_reducible refine g_seq ?_
 | ((with_reducible show tVar _ _ _ _); refine g_var rfl ?_)
 | with_reducible refine g_c ?_
 | with_reducible refine g_op ?_
 | with_reducible refine g_asg ?_
 | with_reducible refine g_name ?_
 | with_reducible refine g_if ?_
 | with_reducible refine g_test ?_
 | with_reducible refine g_k ?_
 | with_reducible refine g_ret ?_
 | with_reducible refine g_next ?_
 | with_reducible refine g_cons ?_
 | with_reducible refine g_nil ?_
 | with_reducible refine g_call ?_
 | with_reducible refine g_cb ?_
 | with_reducible refine g_ckw ?_
 | with_reducible refine g_fld ?_
 | with_reducible refine m_sh0 rfl (by assumption) (by assumption) (by assumption) ?_
 | with_reducible refine m_th0 rfl (by assumption) (by assumption) (by assumption) ?_
 | with_reducible refine m_is1 rfl (by decide +kernel) (by assumption) (by assumption) (by assumption) ?_
 | with_reducible refine m_ik1 rfl (by decide +kernel) (by assumption) (by assumption) (by assumption) ?_
 | with_reducible refine m_is2 rfl (by decide +kernel) (by assumption) (by assumption) (by assumption) ?_
 | with_reducible refine m_ik2 rfl (by decide +kernel) (by assumption) (by assumption) (by assumption) ?_
 | with_reducible refine g_sfld ?_
 | with_reducible refine g_fldaug ?_
 | with_reducible refine g_addI ?_
 | with_reducible refine g_subI ?_
 | with_reducible refine g_ltI ?_
 | with_reducible refine g_leI ?_
 | with_reducible refine g_gtI ?_
 | with_reducible refine g_geI ?_
 | with_reducible refine g_eqI ?_
 | with_reducible refine g_eqS ?_
 | with_reducible refine g_eqB ?_
 | with_reducible refine g_neI ?_
 | with_reducible refine g_neS ?_
 | with_reducible refine g_neB ?_
 | ((with_reducible refine g_mulI ?h0 ?_); (case h0 => first | exact mulR (by decide) (by decide) | exact mulL (by decide) (by decide) | exact mulR (by omega) (by omega) | exact mulL (by omega) (by omega)))
 | ((with_reducible refine g_modI ?h0 ?_); (case h0 => first | decide | omega))
 | ((with_reducible refine g_divI ?h0 ?_); (case h0 => first | exact divS (by decide) (by decide) | exact divS (by omega) (by omega)))
 | ((with_reducible refine g_powI ?h0 ?_); (case h0 => exact ⟨by decide +kernel, by decide +kernel, by decide +kernel⟩))
 | ((with_reducible show rIx _ (V.ref _) (V.int _) _ _); refine g_ixL (by first | assumption | exact SqL.of (by assumption)) (by exact rfl) ?_)
 | ((with_reducible show rIx _ (V.ref _) (V.int _) _ _); refine g_ixT (by first | assumption | exact SqT.of (by assumption)) (by exact rfl) ?_)
 | ((with_reducible show uLen _ [V.ref _] _ _); first | refine g_len (.inl (SqL.of (by assumption))) ?_ | refine g_len (.inl (by assumption)) ?_ | refine g_len (.inr (by assumption)) ?_ | refine g_len (.inr (SqT.of (by assumption))) ?_)
 | with_reducible refine g_dget ?_
 | with_reducible refine g_dput ?_
 | with_reducible refine g_bm ?_
 | with_reducible refine g_bm0 ?_
 | with_reducible refine g_tyS ?_
 | ((with_reducible show tyV _ "list" (V.ref _) _ ∧ _); refine g_tyL (by first | assumption | exact SqL.of (by assumption)) ?_)
 | with_reducible refine g_pairs ?_
 | with_reducible refine g_pairs0 ?_
 | with_reducible refine g_for ?_
 | with_reducible refine g_iR1 ?_
 | with_reducible refine g_iR2 ?_
 | with_reducible refine g_iL ?_
 | with_reducible refine g_iT ?_
 | with_reducible refine g_lc ?_
 | with_reducible refine g_lc2 ?_
 | with_reducible refine g_dc ?_
 | with_reducible refine g_din ?_
 | with_reducible refine g_listRg ?_
 | with_reducible refine g_rg1 ?_
 | with_reducible refine g_izA ?_
 | with_reducible refine g_iz ?_
 | ((with_reducible show gTup _ _ _ (V.ref _) _ _ _); first | refine g_gtup (SqT.of upd_same) rfl ?_ | refine g_gtup (by first | assumption | exact SqT.of (by assumption)) rfl ?_)
 | with_reducible refine g_gcons ?_
 | with_reducible refine g_gnil ?_
 | with_reducible refine g_yes ?_
 | with_reducible refine g_andT ?_
 | with_reducible refine g_orT ?_
 | with_reducible refine g_notT ?_
 | with_reducible refine g_truB ?_
 | with_reducible refine g_and ?_
 | with_reducible refine g_or ?_
 | with_reducible refine g_not ?_
 | with_reducible refine g_ifE ?_
 | with_reducible refine g_B ?_
 | with_reducible refine g_un ?_
 | with_reducible refine g_sub ?_
 | with_reducible refine g_drop ?_
 | with_reducible refine g_sl ?_
 | with_reducible refine g_noPart ?_
 | with_reducible refine g_part ?_
 | with_reducible refine g_ki ?_
 | with_reducible refine g_fs ?_
 | with_reducible refine g_js0 ?_
 | with_reducible refine g_js ?_
 | with_reducible refine g_fmt ?_
 | with_reducible refine g_is ?_
 | with_reducible refine g_isNot ?_
 | with_reducible refine g_chain ?_
 | with_reducible refine g_istr ?_
 | with_reducible refine g_rU ?_
 | with_reducible refine g_leS ?_
 | with_reducible refine g_vei ?_
 | with_reducible refine g_dc2 ?_
 | with_reducible refine g_ienT ?_
 | with_reducible refine g_ost ?_
 | with_reducible refine g_xat ?_
 | with_reducible refine g_xs ?_
 | with_reducible refine g_mkE ?_
 | with_reducible refine g_rs ?_
 | with_reducible refine g_mkX ?_
 | with_reducible refine g_try ?_
 | with_reducible refine g_callS ?_
 | with_reducible refine g_makeX ?_
 | (with_reducible refine g_tup ?_)
 | (with_reducible refine g_lst ?_))))
local macro_rules | `(tactic| walk_at "sz") => `(tactic| (refine le_of ?_; (try simp only [app_len, lit_q, lit_lp, lit_rp, lit_sp, lit_cs, lit_not, lit_is, lit_if, lit_e, lit_dot]); omega))
local macro_rules | `(tactic| walk_at "rdfs") => `(tactic| first
 | walk_at "rd"
 | (refine g_fmtS ?hz ?_; (case hz => walk_at "sz"))
 | (refine g_jsS ?hz ?_; (case hz => walk_at "sz"))
 | (refine g_addS ?hz ?_; (case hz => walk_at "sz")))
local macro_rules | `(tactic| walk_at "rdif") => `(tactic| ((fail_if_success (with_reducible refine g_seqIf _ _ _ _ _ _ _ ?_)); walk_at "rd"))
def PrevN (ts : List Th) (m : Bool) : Nat → Nat → Res → Prop
 | 0 => fun _ _ => False
 | n + 1 => SumN ts m n
theorem leafN_eq (ts : List Th) (m : Bool) (n : Nat) : LeafN ts m n = LeafR ts m (decide (n ≠ 0)) (PrevN ts m n) := by cases n <;> rfl
theorem g_sc {ts : List Th} {i : Nat} (g : GoodTs ts) (hi : i < ts.length) : isSc (tkn ts i).v = true := by
 have e1 : ts[i]? = some ts[i] := List.getElem?_eq_getElem hi
 have et : tkn ts i = ts[i] := by unfold tkn; rw [List.getD_eq_getElem?_getD, e1]; rfl
 rw [et]
 exact g.sc _ (List.getElem_mem _)
section
variable {P : Program} {w : World} {K : PySem.W.Frag} {mg : Str → Option Value} {base : Heap} {a_BadText C : Addr} {f : Addr} {fd : FuncData}
theorem ok_read_leaf {n : Nat} (F : FnP K "read_leaf" s_read_leaf f fd) (R : RowC K C) (M : RowM P w K mg base C a_BadText) (GD : ∃ t, mg "MOST_DEEP" = some (.int z_MOST_DEEP t)) (C_read_sum : CalX P w K mg base (3 * n + 9) "read_sum" (spPrev K C a_BadText n)) : FnG P w K mg base (L2.CX P w) (3 * n + 10) f fd ["row", "deep"] (spRdN K C a_BadText LeafN n) := by
 refine okX F sc_read_leaf (fun vs H Q E h => ?_) (fun cdv A outer s H vs Q E hr h tk => ?_)
 ·obtain ⟨r, tq, ts, i, m, pl, rfl, _⟩ := h
  rfl
 obtain ⟨r, tq, ts, i, m, pl, rfl, hR, g, hi, q, qe⟩ := h
 obtain ⟨tD, g_MOST_DEEP⟩ := GD
 have M_sort_here_0 := M.sh0
 have M_is_kept_1 := M.ik1
 have M_is_sign_1 := M.is1
 have M_wrong_0 := M.wr
 have M_step_0 := M.st
 have M_need_sign_1 := M.ns
 have gz := g.sz
 refine ⟨_, (pss_cons (ps_if (pt_cmpR (kOp (K := K) (r := uEq) rfl (opu_eq hr.units)) (pe_metG0 M_sort_here_0 hr (pv 0)) pe_str (nomark _)) (pss_one (ps_ret (pe_tup (pa_cons pe_str (pa_cons (pe_metG0 M_step_0 hr (pv 0)) pa_nil))))) pss_nil)
 (pss_cons (ps_if (PW.pt (pw_or (pt_cmpR (kOp (K := K) (r := uEq) rfl (opu_eq hr.units)) (pe_metG0 M_sort_here_0 hr (pv 0)) pe_str (nomark _)) (pw_or1 (PW.pt (pw_and (pt_val (kFld (K := K) rfl (pe_fld (pv 0) (by rfl)))) (pw_and1 (pt_val (pe_metG M_is_kept_1 hr (pv 0) (pa_cons pe_str pa_nil))))))))) (pss_one (ps_ret (pe_tup (pa_cons pe_str (pa_cons (pe_metG0 M_step_0 hr (pv 0)) pa_nil))))) pss_nil)
 (pss_cons (ps_if (PW.pt (pw_or (pt_not (pt_val (pe_metG M_is_sign_1 hr (pv 0) (pa_cons pe_str pa_nil)))) (pw_or1 (pt_cmpR opu_ge (pv 1) (pe_glob (v := .int z_MOST_DEEP) rfl g_MOST_DEEP ⟨_, rfl⟩) (nomark _))))) (pss_one (ps_expr (pe_metX0 M_wrong_0 tk hr (pv 0)))) pss_nil)
 (pss_cons (ps_expr (pe_metG0 M_step_0 hr (pv 0)))
 (pss_cons (ps_set (i := 2) sc_read_leaf.nd rfl (.inl rfl) (pe_calX C_read_sum tk hr rfl (pa_cons (pv 0) (pa_cons (pe_op (kOp (K := K) (r := uAdd) rfl opu_add) (pv 1) pe_int) pa_nil))))
 (pss_cons (ps_expr (pe_metX M_need_sign_1 tk hr (pv 0) (pa_cons pe_str pa_nil)))
 (pss_one (ps_ret (pv 2))))))))), rd_start (σ0 := [some (.ref r), some (.int ((12 : Int) - n)), none]) rfl ?_⟩
 rw [leafN_eq] at q qe
 have ed : decide ((12 : Int) ≤ 12 - n) = !decide (n ≠ 0) := by
  by_cases h : n = 0
  ·subst h; rfl
  ·rw [decide_eq_true h, decide_eq_false (by omega)]; rfl
 repeat walk_at "rd"
 refine g_by (fun c1 => ?_) (fun c1 => ?_)
 ·repeat walk_at "rd"
  refine m_st rfl hR g hi fun H1 e1 hR1 => ?_
  repeat walk_at "rd"
  refine ⟨le_of (by simp), fun t ht => ?_⟩
  have hn := g.next hi (by rw [c1]; decide +kernel)
  exact q _ (i + 1) _ _ (by unfold LeafR; rw [if_pos c1]; rfl) hn (e1.trans (Fr.new ht)) (hR1.fr (M := []) (Fr.new ht)) (.tup (SqT.of upd_same) (.cons (.str _) (.cons (sc_td (g_sc g hi)) .nil)))
 ·have var : ((tkn ts i).s = "name" ∨ (m = true ∧ isT ts i "kept" "me" = true)) → ∀ t H1 H2, Fr [r] H H1 → RowAt K C H1 r tq ts (i + 1) m pl → H1 t = none → H2 = upd H1 t (.tup [.str "var", (tkn ts i).v]) → Q (.ref t) H2 := fun hc t H1 H2 e1 hR1 ht e2 => by
   subst e2
   have hn := g.next hi (fun z => by
    rcases hc with h | h
    ·rw [h] at z; exact absurd z (by decide +kernel)
    ·rw [(isT_s h.2 hi).1] at z; exact absurd z (by decide +kernel))
   exact q _ (i + 1) _ _ (by unfold LeafR; rw [if_neg c1, if_pos hc]; rfl) hn (e1.trans (Fr.new ht)) (hR1.fr (M := []) (Fr.new ht)) (.tup (SqT.of upd_same) (.cons (.str _) (.cons (sc_td (g_sc g hi)) .nil)))
  repeat walk_at "rd"
  refine g_by (fun c2 => ?_) (fun c2 => ?_)
  ·repeat walk_at "rd"
   refine m_st rfl hR g hi fun H1 e1 hR1 => ?_
   repeat walk_at "rd"
   exact ⟨le_of (by simp), fun t ht => var (.inl c2) t H1 _ e1 hR1 ht rfl⟩
  ·repeat walk_at "rd"
   obtain ⟨dx, p, us, h1, _⟩ := hR.ex
   refine ⟨r, C, dx, _, _, rfl, h1, R.cls, R.a3, rfl, ?_⟩
   repeat walk_at "rd"
   refine g_byB (fun c3 => ?_) (fun c3 => ?_)
   ·repeat walk_at "rd"
    refine g_byB (fun c4 => ?_) (fun c4 => ?_)
    ·repeat walk_at "rd"
     refine m_st rfl hR g hi fun H1 e1 hR1 => ?_
     repeat walk_at "rd"
     exact ⟨le_of (by simp), fun t ht => var (.inr ⟨c3, c4⟩) t H1 _ e1 hR1 ht rfl⟩
    ·have cn : ¬ ((tkn ts i).s = "name" ∨ (m = true ∧ isT ts i "kept" "me" = true)) := by
      rintro (h | h)
      ·exact c2 h
      ·rw [c4] at h; exact absurd h.2 Bool.false_ne_true
     repeat walk_at "rd"
     cases c5 : isT ts i "sign" "(" with
     | false =>
      refine g_tt rfl ?_
      repeat walk_at "rd"
      exact m_wr rfl hR g hi fun d H' e hd => qe i d H' (by unfold LeafR; rw [if_neg c1, if_neg cn, if_pos (.inl c5)]) hi e.nil hd
     | true =>
      refine g_ff rfl ?_
      repeat walk_at "rd"
      rw [ed]
      cases n with
      | zero =>
       refine g_tt rfl ?_
       repeat walk_at "rd"
       exact m_wr rfl hR g hi fun d H' e hd => qe i d H' (by unfold LeafR; rw [if_neg c1, if_neg cn, if_pos (.inr rfl)]) hi e.nil hd
      | succ k =>
       refine g_ff rfl ?_
       have hn := g.next hi (by rw [(isT_s c5 hi).1]; decide +kernel)
       have cp : ¬ (isT ts i "sign" "(" = false ∨ decide (k + 1 ≠ 0) = false) := by rw [c5, decide_eq_true (Nat.succ_ne_zero k)]; decide
       repeat walk_at "rd"
       refine m_st rfl hR g hi fun H1 e1 hR1 => ?_
       repeat walk_at "rd"
       refine ⟨r, tq, ts, i + 1, m, pl, by rw [show ((12 : Int) - ((k + 1 : Nat) : Int) + 1) = 12 - (k : Int) by omega], hR1, g, hn, fun d j v H2 hs hj e2 hR2 td => ?_, fun e dd H2 hs he e2 hd => ?_⟩
       ·repeat walk_at "rd"
        refine m_ns rfl (by decide +kernel) hR2 g hj (fun H3 hs3 e3 hR3 => ?_) (fun dd H3 hs3 e3 hd => ?_)
        ·repeat walk_at "rd"
         exact q d (j + 1) v H3 (by unfold LeafR; rw [if_neg c1, if_neg cn, if_neg cp]; exact .inr ⟨d, j, hs, by rw [if_pos hs3]⟩) (g.next hj (by rw [(isT_s hs3 hj).1]; decide +kernel)) ((e1.trans e2).trans e3) hR3 (td.fr e3)
        ·exact qe j dd H3 (by unfold LeafR; rw [if_neg c1, if_neg cn, if_neg cp]; exact .inr ⟨d, j, hs, by rw [if_neg (by rw [hs3]; exact Bool.false_ne_true)]⟩) hj ((e1.trans e2).trans e3.nil) hd
       ·exact qe e dd H2 (by unfold LeafR; rw [if_neg c1, if_neg cn, if_neg cp]; exact .inl ⟨e, hs, rfl⟩) he (e1.trans e2) hd
   ·have cn : ¬ ((tkn ts i).s = "name" ∨ (m = true ∧ isT ts i "kept" "me" = true)) := by
     rintro (h | h)
     ·exact c2 h
     ·rw [c3] at h; exact absurd h.1 Bool.false_ne_true
    repeat walk_at "rd"
    cases c5 : isT ts i "sign" "(" with
    | false =>
     refine g_tt rfl ?_
     repeat walk_at "rd"
     exact m_wr rfl hR g hi fun d H' e hd => qe i d H' (by unfold LeafR; rw [if_neg c1, if_neg cn, if_pos (.inl c5)]) hi e.nil hd
    | true =>
     refine g_ff rfl ?_
     repeat walk_at "rd"
     rw [ed]
     cases n with
     | zero =>
      refine g_tt rfl ?_
      repeat walk_at "rd"
      exact m_wr rfl hR g hi fun d H' e hd => qe i d H' (by unfold LeafR; rw [if_neg c1, if_neg cn, if_pos (.inr rfl)]) hi e.nil hd
     | succ k =>
      refine g_ff rfl ?_
      have hn := g.next hi (by rw [(isT_s c5 hi).1]; decide +kernel)
      have cp : ¬ (isT ts i "sign" "(" = false ∨ decide (k + 1 ≠ 0) = false) := by rw [c5, decide_eq_true (Nat.succ_ne_zero k)]; decide
      repeat walk_at "rd"
      refine m_st rfl hR g hi fun H1 e1 hR1 => ?_
      repeat walk_at "rd"
      refine ⟨r, tq, ts, i + 1, m, pl, by rw [show ((12 : Int) - ((k + 1 : Nat) : Int) + 1) = 12 - (k : Int) by omega], hR1, g, hn, fun d j v H2 hs hj e2 hR2 td => ?_, fun e dd H2 hs he e2 hd => ?_⟩
      ·repeat walk_at "rd"
       refine m_ns rfl (by decide +kernel) hR2 g hj (fun H3 hs3 e3 hR3 => ?_) (fun dd H3 hs3 e3 hd => ?_)
       ·repeat walk_at "rd"
        exact q d (j + 1) v H3 (by unfold LeafR; rw [if_neg c1, if_neg cn, if_neg cp]; exact .inr ⟨d, j, hs, by rw [if_pos hs3]⟩) (g.next hj (by rw [(isT_s hs3 hj).1]; decide +kernel)) ((e1.trans e2).trans e3) hR3 (td.fr e3)
       ·exact qe j dd H3 (by unfold LeafR; rw [if_neg c1, if_neg cn, if_neg cp]; exact .inr ⟨d, j, hs, by rw [if_neg (by rw [hs3]; exact Bool.false_ne_true)]⟩) hj ((e1.trans e2).trans e3.nil) hd
      ·exact qe e dd H2 (by unfold LeafR; rw [if_neg c1, if_neg cn, if_neg cp]; exact .inl ⟨e, hs, rfl⟩) he (e1.trans e2) hd
end
def Fwd (lf : Nat → Res → Prop) : Prop := ∀ i d j, lf i (.ok (d, j)) → i < j
theorem LoopR.fwd {ts : List Th} {sg : List Str} {lf : Nat → Res → Prop} (hf : Fwd lf) {d : PyData} {i : Nat} {r : Res} (h : LoopR ts sg lf d i r) : ∀ d' j, r = .ok (d', j) → i ≤ j := by
 induction h with
 | stop _ => intro d' j e; cases e; exact Nat.le_refl _
 | bad _ _ _ => intro d' j e; cases e
 | step a b c k ih =>
  intro d' j e
  have := ih d' j e
  have := hf _ _ _ c
  omega
theorem ChainR.fwd {ts : List Th} {sg : List Str} {lf : Nat → Res → Prop} (hf : Fwd lf) : Fwd (ChainR ts sg lf) := fun i d j h => by
 rcases h with ⟨e, _, h⟩ | ⟨d0, j0, h1, h2⟩
 ·cases h
 ·have a := hf _ _ _ h1
  have b := h2.fwd hf d j rfl
  omega
theorem LeafR.fwd {ts : List Th} {m ok : Bool} {rc : Nat → Res → Prop} (hf : Fwd rc) : Fwd (LeafR ts m ok rc) := fun i d j h => by
 unfold LeafR at h
 split at h
 ·cases h; omega
 ·split at h
  ·cases h; omega
  ·split at h
   ·cases h
   ·rcases h with ⟨e, _, h⟩ | ⟨d0, j0, h1, h2⟩
    ·cases h
    ·have := hf _ _ _ h1
     split at h2 <;> cases h2
     omega
theorem fwd_none : Fwd (fun _ _ => False) := fun _ _ _ h => False.elim h
theorem sumN_fwd (ts : List Th) (m : Bool) : ∀ n, Fwd (SumN ts m n)
 | 0 => ChainR.fwd (ChainR.fwd (LeafR.fwd fwd_none))
 | n + 1 => ChainR.fwd (ChainR.fwd (LeafR.fwd (sumN_fwd ts m n)))
theorem leafN_fwd (ts : List Th) (m : Bool) (n : Nat) : Fwd (LeafN ts m n) := by
 cases n with
 | zero => exact LeafR.fwd fwd_none
 | succ n => exact LeafR.fwd (sumN_fwd ts m n)
def spotOf (r : Addr) (l : Nat) (H : Hp) : Nat := match H r with
 | some (.ins _ _ fs) => (match fs.lookup ("spot" : Str) with | some (.int k) => l - k.toNat | _ => 0)
 | _ => 0
theorem RowAt.spot {K : PySem.W.Frag} {C : Addr} {H : Hp} {r tq : Addr} {ts : List Th} {i : Nat} {m pl : Bool} (h : RowAt K C H r tq ts i m pl) (l : Nat) : spotOf r l H = l - i := by
 obtain ⟨dx, p, us, h1, _⟩ := h.ex
 unfold spotOf
 rw [h1]
 rfl
section
variable {P : Program} {w : World} {K : PySem.W.Frag} {mg : Str → Option Value} {base : Heap} {a_BadText C : Addr} {f : Addr} {fd : FuncData}
theorem ok_read_product {n : Nat} (F : FnP K "read_product" s_read_product f fd) (R : RowC K C) (M : RowM P w K mg base C a_BadText) (C_read_leaf : CalX P w K mg base (3 * n + 10) "read_leaf" (spRdN K C a_BadText LeafN n)) : FnG P w K mg base (L2.CX P w) (3 * n + 11) f fd ["row", "deep"] (spRdN K C a_BadText (fun ts m n => ProdR ts (LeafN ts m n)) n) := by
 refine okX F sc_read_product (fun vs H Q E h => ?_) (fun cdv A outer s H vs Q E hr h tk => ?_)
 ·obtain ⟨r, tq, ts, i, m, pl, rfl, _⟩ := h
  rfl
 obtain ⟨r, tq, ts, i, m, pl, rfl, hR, g, hi, q, qe⟩ := h
 have M_is_sign_1 := M.is1
 have M_step_0 := M.st
 refine ⟨_, (pss_cons (ps_set (i := 2) sc_read_product.nd rfl (.inl rfl) (pe_calX C_read_leaf tk hr rfl (pa_cons (pv 0) (pa_cons (pv 1) pa_nil))))
 (pss_cons (ps_while (L2.passes_of rfl) (pt_val (pe_metG M_is_sign_1 hr (pv 0) (pa_cons pe_str pa_nil))) (pss_cons (ps_expr (pe_metG0 M_step_0 hr (pv 0)))
 (pss_one (ps_set (i := 2) sc_read_product.nd rfl (.inl rfl) (pe_tup (pa_cons pe_str (pa_cons (pv 2) (pa_cons (pe_calX C_read_leaf tk hr rfl (pa_cons (pv 0) (pa_cons (pv 1) pa_nil))) pa_nil))))))))
 (pss_one (ps_ret (pv 2))))), rd_start (σ0 := [some (.ref r), some (.int ((12 : Int) - n)), none]) rfl ?_⟩
 repeat walk_at "rd"
 refine ⟨r, tq, ts, i, m, pl, rfl, hR, g, hi, fun d0 j0 v0 H1 hl hj e1 hR1 td => ?_, fun e dd H1 hl he e1 hd => qe e dd H1 (.inl ⟨e, hl, rfl⟩) he e1 hd⟩
 repeat walk_at "rd"
 refine g_while2 (fun σ H' => ∃ d j v, σ = [some (.ref r), some (.int ((12 : Int) - n)), some v] ∧ RowAt K C H' r tq ts j m pl ∧ j < ts.length ∧ Td K H' v d ∧ Fr [r] H H' ∧ ∀ res, LoopR ts ["*"] (LeafN ts m n) d j res → ProdR ts (LeafN ts m n) i res) (fun _ H' => spotOf r ts.length H') ⟨d0, j0, v0, rfl, hR1, hj, td, e1, fun res h => .inr ⟨d0, j0, hl, h⟩⟩ (fun σ H2 h => ?_)
 obtain ⟨d, j, v, rfl, hR2, hj2, td2, e2, hlo⟩ := h
 repeat walk_at "rd"
 refine g_byB (fun c => ?_) (fun c => ?_)
 ·refine g_wt ?_
  rw [hR2.spot]
  repeat walk_at "rd"
  refine m_st rfl hR2 g hj2 fun H3 e3 hR3 => ?_
  have hn := g.next hj2 (by rw [(isT_s c hj2).1]; decide +kernel)
  repeat walk_at "rd"
  refine ⟨r, tq, ts, j + 1, m, pl, rfl, hR3, g, hn, fun d4 j4 v4 H4 hl4 hj4 e4 hR4 td4 => ?_, fun e dd H4 hl4 he e4 hd => qe e dd H4 (hlo _ (.bad List.mem_cons_self c hl4)) he ((e2.trans e3).trans e4) hd⟩
  repeat walk_at "rd"
  refine ⟨le_of (by simp), fun t ht => ?_⟩
  have e5 : Fr [] H4 (upd H4 t (.tup [.str "*", v, v4])) := Fr.new ht
  have td5 := (td2.fr (e3.trans e4)).fr e5
  have fw := leafN_fwd ts m n _ _ _ hl4
  refine ⟨⟨_, j4, _, rfl, hR4.fr (M := []) e5, hj4, .tup (SqT.of upd_same) (.cons (.str _) (.cons td5 (.cons (td4.fr e5) .nil))), ((e2.trans e3).trans e4).trans e5.nil, fun res h => hlo res (.step List.mem_cons_self c hl4 h)⟩, ?_⟩
  rw [(hR4.fr (M := []) e5).spot]
  omega
 ·repeat walk_at "rd"
  exact q d j v H2 (hlo _ (.stop fun s hs => by rw [List.mem_singleton.mp hs]; exact c)) hj2 e2 hR2 td2
end
section
variable {P : Program} {w : World} {K : PySem.W.Frag} {mg : Str → Option Value} {base : Heap} {a_BadText C : Addr} {f : Addr} {fd : FuncData}
theorem ok_read_sum {n : Nat} (F : FnP K "read_sum" s_read_sum f fd) (R : RowC K C) (M : RowM P w K mg base C a_BadText) (C_read_product : CalX P w K mg base (3 * n + 11) "read_product" (spRdN K C a_BadText (fun ts m n => ProdR ts (LeafN ts m n)) n)) : FnG P w K mg base (L2.CX P w) (3 * n + 12) f fd ["row", "deep"] (spRdN K C a_BadText SumN n) := by
 refine okX F sc_read_sum (fun vs H Q E h => ?_) (fun cdv A outer s H vs Q E hr h tk => ?_)
 ·obtain ⟨r, tq, ts, i, m, pl, rfl, _⟩ := h
  rfl
 obtain ⟨r, tq, ts, i, m, pl, rfl, hR, g, hi, q, qe⟩ := h
 rw [sumN_eq] at q qe
 have M_is_sign_1 := M.is1
 have M_step_0 := M.st
 refine ⟨_, (pss_cons (ps_set (i := 2) sc_read_sum.nd rfl (.inl rfl) (pe_calX C_read_product tk hr rfl (pa_cons (pv 0) (pa_cons (pv 1) pa_nil))))
 (pss_cons (ps_while (L2.passes_of rfl) (PW.pt (pw_or (pt_val (pe_metG M_is_sign_1 hr (pv 0) (pa_cons pe_str pa_nil))) (pw_or1 (pt_val (pe_metG M_is_sign_1 hr (pv 0) (pa_cons pe_str pa_nil)))))) (pss_cons (ps_set (i := 3) sc_read_sum.nd rfl (.inl rfl) (pe_metG0 M_step_0 hr (pv 0)))
 (pss_one (ps_set (i := 2) sc_read_sum.nd rfl (.inl rfl) (pe_tup (pa_cons (pv 3) (pa_cons (pv 2) (pa_cons (pe_calX C_read_product tk hr rfl (pa_cons (pv 0) (pa_cons (pv 1) pa_nil))) pa_nil))))))))
 (pss_one (ps_ret (pv 2))))), rd_start (σ0 := [some (.ref r), some (.int ((12 : Int) - n)), none, none]) rfl ?_⟩
 repeat walk_at "rd"
 refine ⟨r, tq, ts, i, m, pl, rfl, hR, g, hi, fun d0 j0 v0 H1 hl hj e1 hR1 td => ?_, fun e dd H1 hl he e1 hd => qe e dd H1 (.inl ⟨e, hl, rfl⟩) he e1 hd⟩
 repeat walk_at "rd"
 refine g_while2 (fun σ H' => ∃ d j v z3, σ = [some (.ref r), some (.int ((12 : Int) - n)), some v, z3] ∧ RowAt K C H' r tq ts j m pl ∧ j < ts.length ∧ Td K H' v d ∧ Fr [r] H H' ∧ ∀ res, LoopR ts ["+", "-"] (ProdR ts (LeafN ts m n)) d j res → SumR ts (LeafN ts m n) i res) (fun _ H' => spotOf r ts.length H') ⟨d0, j0, v0, _, rfl, hR1, hj, td, e1, fun res h => .inr ⟨d0, j0, hl, h⟩⟩ (fun σ H2 h => ?_)
 obtain ⟨d, j, v, z3, rfl, hR2, hj2, td2, e2, hlo⟩ := h
 repeat walk_at "rd"
 cases c : isT ts j "sign" "+" with
 | true =>
  refine g_tt rfl ?_
  refine g_wt ?_
  rw [hR2.spot]
  repeat walk_at "rd"
  refine m_st rfl hR2 g hj2 fun H3 e3 hR3 => ?_
  have hn := g.next hj2 (by rw [(isT_s c hj2).1]; decide +kernel)
  rw [(isT_s c hj2).2]
  repeat walk_at "rd"
  refine ⟨r, tq, ts, j + 1, m, pl, rfl, hR3, g, hn, fun d4 j4 v4 H4 hl4 hj4 e4 hR4 td4 => ?_, fun e dd H4 hl4 he e4 hd => qe e dd H4 (hlo _ (.bad List.mem_cons_self c hl4)) he ((e2.trans e3).trans e4) hd⟩
  repeat walk_at "rd"
  refine ⟨le_of (by simp), fun t ht => ?_⟩
  have e5 : Fr [] H4 (upd H4 t (.tup [.str "+", v, v4])) := Fr.new ht
  have td5 := (td2.fr (e3.trans e4)).fr e5
  have fw := ChainR.fwd (leafN_fwd ts m n) _ _ _ hl4
  refine ⟨⟨_, j4, _, _, rfl, hR4.fr (M := []) e5, hj4, .tup (SqT.of upd_same) (.cons (.str _) (.cons td5 (.cons (td4.fr e5) .nil))), ((e2.trans e3).trans e4).trans e5.nil, fun res h => hlo res (.step List.mem_cons_self c hl4 h)⟩, ?_⟩
  rw [(hR4.fr (M := []) e5).spot]
  omega
 | false =>
  repeat walk_at "rd"
  cases c3 : isT ts j "sign" "-" with
  | true =>
   have c := c3
   refine g_tt rfl ?_
   refine g_wt ?_
   rw [hR2.spot]
   repeat walk_at "rd"
   refine m_st rfl hR2 g hj2 fun H3 e3 hR3 => ?_
   have hn := g.next hj2 (by rw [(isT_s c hj2).1]; decide +kernel)
   rw [(isT_s c hj2).2]
   repeat walk_at "rd"
   refine ⟨r, tq, ts, j + 1, m, pl, rfl, hR3, g, hn, fun d4 j4 v4 H4 hl4 hj4 e4 hR4 td4 => ?_, fun e dd H4 hl4 he e4 hd => qe e dd H4 (hlo _ (.bad (by simp) c hl4)) he ((e2.trans e3).trans e4) hd⟩
   repeat walk_at "rd"
   refine ⟨le_of (by simp), fun t ht => ?_⟩
   have e5 : Fr [] H4 (upd H4 t (.tup [.str "-", v, v4])) := Fr.new ht
   have td5 := (td2.fr (e3.trans e4)).fr e5
   have fw := ChainR.fwd (leafN_fwd ts m n) _ _ _ hl4
   refine ⟨⟨_, j4, _, _, rfl, hR4.fr (M := []) e5, hj4, .tup (SqT.of upd_same) (.cons (.str _) (.cons td5 (.cons (td4.fr e5) .nil))), ((e2.trans e3).trans e4).trans e5.nil, fun res h => hlo res (.step (by simp) c hl4 h)⟩, ?_⟩
   rw [(hR4.fr (M := []) e5).spot]
   omega
  | false =>
   refine g_ff rfl ?_
   repeat walk_at "rd"
   exact q d j v H2 (hlo _ (.stop fun s hs => by
    simp only [List.mem_cons, List.not_mem_nil, or_false] at hs
    rcases hs with rfl | rfl
    ·exact c
    ·exact c3)) hj2 e2 hR2 td2
end
def BindR (A : Nat → Res → Prop) (k : PyData → Nat → Res → Prop) (i : Nat) (r : Res) : Prop := (∃ e, A i (.error e) ∧ r = .error e) ∨ ∃ d j, A i (.ok (d, j)) ∧ k d j r
def testsW : List Str := ["=", "!=", "<", "<=", ">", ">="]
def isTest (t : Th) : Bool := decide (t.s = "sign") && decide (t.v ∈ testsW.map V.str)
def TestR (ts : List Th) (m : Bool) : Nat → Res → Prop := BindR (SumN ts m 12) fun d j r => if isTest (tkn ts j) = true then BindR (SumN ts m 12) (fun d2 j2 r => r = .ok (.tuple [.str "test", scD (tkn ts j).v, d, d2], j2)) (j + 1) r else r = .error j
theorem testR_bad {ts : List Th} {m : Bool} {i j : Nat} {d : PyData} (h : SumN ts m 12 i (.ok (d, j))) (k : isTest (tkn ts j) = false) : TestR ts m i (.error j) := .inr ⟨d, j, h, by
 show if isTest (tkn ts j) = true then _ else _
 rw [if_neg (by rw [k]; exact Bool.false_ne_true)]⟩
theorem testR_e2 {ts : List Th} {m : Bool} {i j e : Nat} {d : PyData} (h : SumN ts m 12 i (.ok (d, j))) (k : isTest (tkn ts j) = true) (l : SumN ts m 12 (j + 1) (.error e)) : TestR ts m i (.error e) := .inr ⟨d, j, h, by
 show if isTest (tkn ts j) = true then _ else _
 rw [if_pos k]
 exact .inl ⟨e, l, rfl⟩⟩
theorem testR_ok {ts : List Th} {m : Bool} {i j j2 : Nat} {d d2 : PyData} (h : SumN ts m 12 i (.ok (d, j))) (k : isTest (tkn ts j) = true) (l : SumN ts m 12 (j + 1) (.ok (d2, j2))) : TestR ts m i (.ok (.tuple [.str "test", scD (tkn ts j).v, d, d2], j2)) := .inr ⟨d, j, h, by
 show if isTest (tkn ts j) = true then _ else _
 rw [if_pos k]
 exact .inr ⟨d2, j2, l, rfl⟩⟩
def TermR (ts : List Th) (i : Nat) (r : Res) : Prop := if isT ts i "sign" "_" = true then r = .ok (.tuple [.str "any"], i + 1) else if (tkn ts i).s = "value" then r = .ok (valD (tkn ts i), i + 1) else if (tkn ts i).s = "name" then r = .ok (varD (tkn ts i), i + 1) else r = .error i
abbrev ResL := Except Nat (List PyData × Nat)
inductive ManyR (ts : List Th) (item : List PyData → Nat → Res → Prop) (full : List PyData → Bool) : List PyData → Nat → ResL → Prop
 | stop {ds : List PyData} {i : Nat} : isT ts i "sign" "," = false → ManyR ts item full ds i (.ok (ds, i))
 | full {ds : List PyData} {i : Nat} : isT ts i "sign" "," = true → full ds = true → ManyR ts item full ds i (.error (i + 1))
 | bad {ds : List PyData} {i e : Nat} : isT ts i "sign" "," = true → full ds = false → item ds (i + 1) (.error e) → ManyR ts item full ds i (.error e)
 | step {ds : List PyData} {d : PyData} {i j : Nat} {r : ResL} : isT ts i "sign" "," = true → full ds = false → item ds (i + 1) (.ok (d, j)) → ManyR ts item full (ds ++ [d]) j r → ManyR ts item full ds i r
def SeqR (ts : List Th) (item : List PyData → Nat → Res → Prop) (full : List PyData → Bool) (i : Nat) (r : ResL) : Prop := (∃ e, item [] i (.error e) ∧ r = .error e) ∨ ∃ d j, item [] i (.ok (d, j)) ∧ ManyR ts item full [d] j r
def AtomR (ts : List Th) (pl : Bool) (x : Str) (i : Nat) (r : Res) : Prop := if ¬ ((tkn ts i).s = "full" ∨ ((tkn ts i).s = "name" ∧ pl = true)) then r = .error i else if isT ts (i + 1) "sign" "(" = false then r = .error (i + 1)
 else (∃ e, SeqR ts (fun _ => TermR ts) (fun ds => decide (ds.length = 4)) (i + 2) (.error e) ∧ r = .error e) ∨ ∃ ds j, SeqR ts (fun _ => TermR ts) (fun ds => decide (ds.length = 4)) (i + 2) (.ok (ds, j)) ∧ r = if isT ts j "sign" ")" = true then .ok (.tuple [.str x, scD (tkn ts i).v, .tuple ds], j + 1) else .error j
theorem termR_fwd (ts : List Th) : Fwd (TermR ts) := fun i d j h => by
 unfold TermR at h
 repeat' (split at h)
 all_goals first
  | (cases h; done)
  | (cases h; omega)
structure GlR (K : PySem.W.Frag) (mg : Str → Option Value) (a_TESTS a_FOLDS : Addr) : Prop where
 t : mg "TESTS" = some (.ref a_TESTS)
 tt : ∀ H, SqT K H a_TESTS (testsW.map V.str)
 f : mg "FOLDS" = some (.ref a_FOLDS)
 ft : ∀ H, SqT K H a_FOLDS ((["sum", "least", "most"] : List Str).map V.str)
 mt : ∃ t, mg "MOST_TERMS" = some (.int 4 t)
 mp : ∃ t, mg "MOST_PARTS" = some (.int 6 t)
 ma : ∃ t, mg "MOST_ASKED" = some (.int 8 t)
def spRd (K : PySem.W.Frag) (C B : Addr) (R : List Th → Bool → Bool → Nat → Res → Prop) : Sp := fun vs H Q E => ∃ (r tq : Addr) (ts : List Th) (i : Nat) (m pl : Bool), vs = [.ref r] ∧ RowAt K C H r tq ts i m pl ∧ GoodTs ts ∧ i < ts.length ∧ RdOk K C B (R ts m pl) H r tq ts i m pl Q E
def spAtom (K : PySem.W.Frag) (C B : Addr) : Sp := fun vs H Q E => ∃ (r tq : Addr) (x : Str) (ts : List Th) (i : Nat) (m pl : Bool), vs = [.ref r, .str x] ∧ RowAt K C H r tq ts i m pl ∧ GoodTs ts ∧ i < ts.length ∧ RdOk K C B (AtomR ts pl x) H r tq ts i m pl Q E
theorem tda_len5 {K : PySem.W.Frag} {H : Hp} : ∀ {vs : List V} {ds : List PyData}, TdAll K H vs ds → vs.length = ds.length
 | _, _, .nil => rfl
 | _, _, .cons _ b => congrArg (· + 1) (tda_len5 b)
structure BiR2 (mg : Str → Option Value) : Prop where
 b_len : mg "len" = none
 b_tuple : mg "tuple" = none
 b_any : mg "any" = none
abbrev z_MOST_TERMS : Int := 4
abbrev z_MOST_PARTS : Int := 6
abbrev z_MOST_ASKED : Int := 8
abbrev s_read_test : Stmt := topS 35
theorem sc_read_test : FnScope ["row", "one", "sign"] ["row"] (defScope s_read_test) := ⟨rfl, rfl, rfl, by decide +kernel, rfl, by decide +kernel, by decide +kernel⟩
abbrev s_read_term : Stmt := topS 36
theorem sc_read_term : FnScope ["row"] ["row"] (defScope s_read_term) := ⟨rfl, rfl, rfl, by decide +kernel, rfl, by decide +kernel, by decide +kernel⟩
abbrev s_read_atom : Stmt := topS 37
theorem sc_read_atom : FnScope ["row", "word", "name", "terms"] ["row", "word"] (defScope s_read_atom) := ⟨rfl, rfl, rfl, by decide +kernel, rfl, by decide +kernel, by decide +kernel⟩
section
variable {P : Program} {w : World} {K : PySem.W.Frag} {mg : Str → Option Value} {base : Heap} {a_BadText a_TESTS a_FOLDS C : Addr} {f : Addr} {fd : FuncData}
theorem ok_read_test (F : FnP K "read_test" s_read_test f fd) (G : GlR K mg a_TESTS a_FOLDS) (M : RowM P w K mg base C a_BadText) (C_read_sum : CalX P w K mg base 48 "read_sum" (spRdN K C a_BadText SumN 12)) : FnG P w K mg base (L2.CX P w) 50 f fd ["row"] (spRd K C a_BadText fun ts m _ => TestR ts m) := by
 refine okX F sc_read_test (fun vs H Q E h => ?_) (fun cdv A outer s H vs Q E hr h tk => ?_)
 ·obtain ⟨r, tq, ts, i, m, pl, rfl, _⟩ := h
  rfl
 obtain ⟨r, tq, ts, i, m, pl, rfl, hR, g, hi, q, qe⟩ := h
 have M_sort_here_0 := M.sh0
 have M_thing_0 := M.th0
 have M_wrong_0 := M.wr
 have M_step_0 := M.st
 have g_TESTS := G.t
 refine ⟨_, (pss_cons (ps_set (i := 1) sc_read_test.nd rfl (.inl rfl) (pe_calX C_read_sum tk hr rfl (pa_cons (pv 0) (pa_cons pe_int pa_nil))))
 (pss_cons (ps_if (PW.pt (pw_or (pt_cmpR (kOp (K := K) (r := uNe) rfl (opu_ne hr.units)) (pe_metG0 M_sort_here_0 hr (pv 0)) pe_str (nomark _)) (pw_or1 (pt_cmpR (kOp (K := K) (r := uNotIn) rfl opu_notIn) (pe_metG0 M_thing_0 hr (pv 0)) (pe_glob (v := .ref a_TESTS) rfl g_TESTS rfl) (by rfl))))) (pss_one (ps_expr (pe_metX0 M_wrong_0 tk hr (pv 0)))) pss_nil)
 (pss_cons (ps_set (i := 2) sc_read_test.nd rfl (.inl rfl) (pe_metG0 M_step_0 hr (pv 0)))
 (pss_one (ps_ret (pe_tup (pa_cons pe_str (pa_cons (pv 2) (pa_cons (pv 1) (pa_cons (pe_calX C_read_sum tk hr rfl (pa_cons (pv 0) (pa_cons pe_int pa_nil))) pa_nil)))))))))), rd_start (σ0 := [some (.ref r), none, none]) rfl ?_⟩
 repeat walk_at "rd"
 refine ⟨r, tq, ts, i, m, pl, rfl, hR, g, hi, fun d j v H1 hl hj e1 hR1 td => ?_, fun e dd H1 hl he e1 hd => qe e dd H1 (.inl ⟨e, hl, rfl⟩) he e1 hd⟩
 have bad : isTest (tkn ts j) = false → ∀ dd H', Fr [] H1 H' → H' dd = some (.xd (badAt (tkn ts j).n)) → E (.ref a_BadText) (some dd) H' := fun ht dd H' e hd => qe j dd H' (testR_bad hl ht) hj (e1.trans e.nil) hd
 have et : isTest (tkn ts j) = (decide ((tkn ts j).s = "sign") && decide ((tkn ts j).v ∈ testsW.map V.str)) := rfl
 repeat walk_at "rd"
 cases c : decide ((tkn ts j).s = "sign") with
 | false =>
  rw [c] at et
  refine g_tt rfl ?_
  repeat walk_at "rd"
  exact m_wr rfl hR1 g hj (bad et)
 | true =>
  rw [c, Bool.true_and] at et
  refine g_ff rfl ?_
  repeat walk_at "rd"
  refine g_notInSc (g_sc g hj) (.inr (G.tt _)) ?_
  rw [← et]
  repeat walk_at "rd"
  cases c2 : isTest (tkn ts j) with
  | false =>
   refine g_tt rfl ?_
   repeat walk_at "rd"
   exact m_wr rfl hR1 g hj (bad c2)
  | true =>
   refine g_ff rfl ?_
   repeat walk_at "rd"
   refine m_st rfl hR1 g hj fun H2 e2 hR2 => ?_
   have hn := g.next hj (by rw [of_decide_eq_true c]; decide +kernel)
   repeat walk_at "rd"
   refine ⟨r, tq, ts, j + 1, m, pl, rfl, hR2, g, hn, fun d2 j2 v2 H3 hl2 hj2 e3 hR3 td2 => ?_, fun e dd H3 hl2 he e3 hd => qe e dd H3 (testR_e2 hl c2 hl2) he ((e1.trans e2).trans e3) hd⟩
   repeat walk_at "rd"
   refine ⟨le_of (by simp), fun t ht => ?_⟩
   have e4 := Fr.new (M := []) (o := .tup [.str "test", (tkn ts j).v, v, v2]) ht
   exact q _ j2 _ _ (testR_ok hl c2 hl2) hj2 (((e1.trans e2).trans e3).trans e4.nil) (hR3.fr (M := []) e4) (.tup (SqT.of upd_same) (.cons (.str _) (.cons (sc_td (g_sc g hj)) (.cons ((td.fr (e2.trans e3)).fr e4) (.cons (td2.fr e4) .nil)))))
theorem ok_read_term (F : FnP K "read_term" s_read_term f fd) (M : RowM P w K mg base C a_BadText) : FnG P w K mg base (L2.CX P w) 8 f fd ["row"] (spRd K C a_BadText fun ts _ _ => TermR ts) := by
 refine okX F sc_read_term (fun vs H Q E h => ?_) (fun cdv A outer s H vs Q E hr h tk => ?_)
 ·obtain ⟨r, tq, ts, i, m, pl, rfl, _⟩ := h
  rfl
 obtain ⟨r, tq, ts, i, m, pl, rfl, hR, g, hi, q, qe⟩ := h
 have M_sort_here_0 := M.sh0
 have M_is_sign_1 := M.is1
 have M_step_0 := M.st
 have M_need_name_0 := M.nn
 refine ⟨_, (pss_cons (ps_if (pt_val (pe_metG M_is_sign_1 hr (pv 0) (pa_cons pe_str pa_nil))) (pss_cons (ps_expr (pe_metG0 M_step_0 hr (pv 0)))
 (pss_one (ps_ret (pe_tup (pa_cons pe_str pa_nil))))) pss_nil)
 (pss_cons (ps_if (pt_cmpR (kOp (K := K) (r := uEq) rfl (opu_eq hr.units)) (pe_metG0 M_sort_here_0 hr (pv 0)) pe_str (nomark _)) (pss_one (ps_ret (pe_tup (pa_cons pe_str (pa_cons (pe_metG0 M_step_0 hr (pv 0)) pa_nil))))) pss_nil)
 (pss_one (ps_ret (pe_tup (pa_cons pe_str (pa_cons (pe_metX0 M_need_name_0 tk hr (pv 0)) pa_nil))))))), rd_start (σ0 := [some (.ref r)]) rfl ?_⟩
 repeat walk_at "rd"
 refine g_byB (fun c => ?_) (fun c => ?_)
 ·repeat walk_at "rd"
  refine m_st rfl hR g hi fun H1 e1 hR1 => ?_
  repeat walk_at "rd"
  refine ⟨le_of (by simp), fun t ht => ?_⟩
  have e2 := Fr.new (M := []) (o := .tup [.str "any"]) ht
  exact q _ (i + 1) _ _ (by show TermR ts i _; unfold TermR; rw [if_pos c]) (g.next hi (by rw [(isT_s c hi).1]; decide +kernel)) (e1.trans e2.nil) (hR1.fr (M := []) e2) (.tup (SqT.of upd_same) (.cons (.str _) .nil))
 ·have c' : ¬ isT ts i "sign" "_" = true := by rw [c]; exact Bool.false_ne_true
  repeat walk_at "rd"
  refine g_by (fun c2 => ?_) (fun c2 => ?_)
  ·repeat walk_at "rd"
   refine m_st rfl hR g hi fun H1 e1 hR1 => ?_
   repeat walk_at "rd"
   refine ⟨le_of (by simp), fun t ht => ?_⟩
   have e2 := Fr.new (M := []) (o := .tup [.str "value", (tkn ts i).v]) ht
   exact q _ (i + 1) _ _ (by show TermR ts i _; unfold TermR; rw [if_neg c', if_pos c2]; rfl) (g.next hi (by rw [c2]; decide +kernel)) (e1.trans e2.nil) (hR1.fr (M := []) e2) (.tup (SqT.of upd_same) (.cons (.str _) (.cons (sc_td (g_sc g hi)) .nil)))
  ·repeat walk_at "rd"
   refine m_nn rfl hR g hi (fun H1 c3 e1 hR1 => ?_) (fun dd H1 c3 e1 hd => ?_)
   ·repeat walk_at "rd"
    refine ⟨le_of (by simp), fun t ht => ?_⟩
    have e2 := Fr.new (M := []) (o := .tup [.str "var", (tkn ts i).v]) ht
    exact q _ (i + 1) _ _ (by show TermR ts i _; unfold TermR; rw [if_neg c', if_neg c2, if_pos c3]; rfl) (g.next hi (by rw [c3]; decide +kernel)) (e1.trans e2.nil) (hR1.fr (M := []) e2) (.tup (SqT.of upd_same) (.cons (.str _) (.cons (sc_td (g_sc g hi)) .nil)))
   ·exact qe i dd H1 (by show TermR ts i _; unfold TermR; rw [if_neg c', if_neg c2, if_neg c3]) hi e1.nil hd
theorem atomR_not {ts : List Th} {pl : Bool} {x : Str} {i : Nat} (h : ¬ ((tkn ts i).s = "full" ∨ ((tkn ts i).s = "name" ∧ pl = true))) : AtomR ts pl x i (.error i) := by
 unfold AtomR
 rw [if_pos h]
theorem atomR_open {ts : List Th} {pl : Bool} {x : Str} {i : Nat} (h : (tkn ts i).s = "full" ∨ ((tkn ts i).s = "name" ∧ pl = true)) (k : isT ts (i + 1) "sign" "(" = false) : AtomR ts pl x i (.error (i + 1)) := by
 unfold AtomR
 rw [if_neg (fun n => n h), if_pos k]
theorem atomR_in {ts : List Th} {pl : Bool} {x : Str} {i : Nat} {r : Res} (h : (tkn ts i).s = "full" ∨ ((tkn ts i).s = "name" ∧ pl = true)) (k : isT ts (i + 1) "sign" "(" = true)
  (l : (∃ e, SeqR ts (fun _ => TermR ts) (fun ds => decide (ds.length = 4)) (i + 2) (.error e) ∧ r = .error e) ∨ ∃ ds j, SeqR ts (fun _ => TermR ts) (fun ds => decide (ds.length = 4)) (i + 2) (.ok (ds, j)) ∧ r = if isT ts j "sign" ")" = true then .ok (.tuple [.str x, scD (tkn ts i).v, .tuple ds], j + 1) else .error j) : AtomR ts pl x i r := by
 unfold AtomR
 rw [if_neg (fun n => n h), if_neg (by rw [k]; exact Bool.noConfusion)]
 exact l
theorem ok_read_atom (F : FnP K "read_atom" s_read_atom f fd) (B : BiR2 mg) (R : RowC K C) (G : GlR K mg a_TESTS a_FOLDS) (M : RowM P w K mg base C a_BadText) (C_read_term : CalX P w K mg base 8 "read_term" (spRd K C a_BadText fun ts _ _ => TermR ts)) : FnG P w K mg base (L2.CX P w) 10 f fd ["row", "word"] (spAtom K C a_BadText) := by
 refine okX F sc_read_atom (fun vs H Q E h => ?_) (fun cdv A outer s H vs Q E hr h tk => ?_)
 ·obtain ⟨r, tq, x, ts, i, m, pl, rfl, _⟩ := h
  rfl
 obtain ⟨r, tq, x, ts, i, m, pl, rfl, hR, g, hi, q, qe⟩ := h
 have M_sort_here_0 := M.sh0
 have M_is_sign_1 := M.is1
 have M_wrong_0 := M.wr
 have M_step_0 := M.st
 have M_need_sign_1 := M.ns
 obtain ⟨tM, g_MOST_TERMS⟩ := G.mt
 refine ⟨_, (pss_cons (ps_if (PW.pt (pw_and (pt_cmpR (kOp (K := K) (r := uNe) rfl (opu_ne hr.units)) (pe_metG0 M_sort_here_0 hr (pv 0)) pe_str (nomark _)) (pw_and1 (PW.pt (pw_or (pt_cmpR (kOp (K := K) (r := uNe) rfl (opu_ne hr.units)) (pe_metG0 M_sort_here_0 hr (pv 0)) pe_str (nomark _)) (pw_or1 (pt_not (pt_val (kFld (K := K) rfl (pe_fld (pv 0) (by rfl))))))))))) (pss_one (ps_expr (pe_metX0 M_wrong_0 tk hr (pv 0)))) pss_nil)
 (pss_cons (ps_set (i := 2) sc_read_atom.nd rfl (.inl rfl) (pe_metG0 M_step_0 hr (pv 0)))
 (pss_cons (ps_expr (pe_metX M_need_sign_1 tk hr (pv 0) (pa_cons pe_str pa_nil)))
 (pss_cons (ps_set (i := 3) sc_read_atom.nd rfl (.inl rfl) (pe_lst (pa_cons (pe_calX C_read_term tk hr rfl (pa_cons (pv 0) pa_nil)) pa_nil)))
 (pss_cons (ps_while (L2.passes_of rfl) (pt_val (pe_metG M_is_sign_1 hr (pv 0) (pa_cons pe_str pa_nil))) (pss_cons (ps_expr (pe_metG0 M_step_0 hr (pv 0)))
 (pss_cons (ps_if (pt_cmpR (kOp (K := K) (r := uEq) rfl (opu_eq hr.units)) (pe_callB (kCall (K := K) (r := uLen) rfl callu_len) (by rfl) B.b_len (by decide +kernel) (pa_cons (pv 3) pa_nil)) (pe_glob (v := .int z_MOST_TERMS) rfl g_MOST_TERMS ⟨_, rfl⟩) (nomark _)) (pss_one (ps_expr (pe_metX0 M_wrong_0 tk hr (pv 0)))) pss_nil)
 (pss_one (ps_expr (kBM (K := K) rfl (pe_bm PySem.F.plainAttrs_list PySem.F.slot_list_append PySem.F.type_list_append mt_append (pv 3) (pa_cons (pe_calX C_read_term tk hr rfl (pa_cons (pv 0) pa_nil)) pa_nil))))))))
 (pss_cons (ps_expr (pe_metX M_need_sign_1 tk hr (pv 0) (pa_cons pe_str pa_nil)))
 (pss_one (ps_ret (pe_tup (pa_cons (pv 1) (pa_cons (pv 2) (pa_cons (pe_callTy (kCall (K := K) (r := uTuple) rfl callu_tuple) (by rfl) B.b_tuple (by decide +kernel) (pa_cons (pv 3) pa_nil)) pa_nil)))))))))))), rd_start (σ0 := [some (.ref r), some (.str x), none, none]) rfl ?_⟩
 obtain ⟨dx, p, us, h1, _⟩ := hR.ex
 repeat walk_at "rdif"
 try dsimp only
 with_reducible refine g_cutS (fun σ' H' => σ' = [some (.ref r), some (.str x), none, none] ∧ ((tkn ts i).s = "full" ∨ ((tkn ts i).s = "name" ∧ pl = true)) ∧ H = H') (fun σ' H' h => ?_) (fun N k => ?_)
 rotate_left
 ·repeat walk_at "rd"
  refine g_byN (fun c => ?_) (fun c => ?_)
  ·repeat walk_at "rd"
   refine g_byN (fun c2 => ?_) (fun c2 => ?_)
   ·repeat walk_at "rd"
    exact m_wr rfl hR g hi fun dd H' e hd => qe i dd H' (atomR_not (fun z => z.elim c fun z => c2 z.1)) hi e.nil hd
   ·repeat walk_at "rd"
    refine ⟨r, C, dx, _, _, rfl, h1, R.cls, R.a4, rfl, ?_⟩
    repeat walk_at "rd"
    cases hp : pl with
    | false =>
     subst hp
     repeat walk_at "rd"
     exact m_wr rfl hR g hi fun dd H' e hd => qe i dd H' (atomR_not (fun z => z.elim c fun z => Bool.noConfusion z.2)) hi e.nil hd
    | true =>
     subst hp
     repeat walk_at "rd"
     exact k _ _ ⟨rfl, .inr ⟨c2, rfl⟩, rfl⟩
  ·repeat walk_at "rd"
   exact k _ _ ⟨rfl, .inl c, rfl⟩
 obtain ⟨rfl, hc, rfl⟩ := h
 have hne : (tkn ts i).s ≠ "end" := fun z => by
  rcases hc with h | h
  ·rw [h] at z; exact absurd z (by decide +kernel)
  ·rw [h.1] at z; exact absurd z (by decide +kernel)
 have hn := g.next hi hne
 repeat walk_at "rd"
 refine m_st rfl hR g hi fun H1 e1 hR1 => ?_
 repeat walk_at "rd"
 refine m_ns rfl (by decide +kernel) hR1 g hn (fun H2 c2 e2 hR2 => ?_) (fun dd H2 c2 e2 hd => qe (i + 1) dd H2 (atomR_open hc c2) hn (e1.trans e2.nil) hd)
 have hn2 := g.next hn (by rw [(isT_s c2 hn).1]; decide +kernel)
 have inn := fun {res : Res} => atomR_in (r := res) (x := x) hc c2
 repeat walk_at "rd"
 refine ⟨r, tq, ts, i + 2, m, pl, rfl, hR2, g, hn2, fun d0 j0 v0 H3 hl hj e3 hR3 td => ?_, fun e dd H3 hl he e3 hd => qe e dd H3 (inn (.inl ⟨e, .inl ⟨e, hl, rfl⟩, rfl⟩)) he ((e1.trans e2).trans e3) hd⟩
 repeat walk_at "rd"
 refine ⟨le_of (by simp), fun L hL => ?_⟩
 have e4 : Fr [] H3 (upd H3 L (.lst [v0])) := Fr.new hL
 obtain ⟨Lr, Lq⟩ := hR3.off hL
 have e13 := (e1.trans e2).trans e3
 have hLH : H L = none := e13.back (fun z => Lr (List.mem_singleton.mp z)) hL
 repeat walk_at "rd"
 refine g_while2 (fun σ H' => ∃ ds us j, σ = [some (.ref r), some (.str x), some (tkn ts i).v, some (.ref L)] ∧ RowAt K C H' r tq ts j m pl ∧ j < ts.length ∧ H' L = some (.lst us) ∧ TdAll K H' us ds ∧ Fr [r] H H' ∧ ds.length ≤ 4 ∧ ∀ res, ManyR ts (fun _ => TermR ts) (fun ds => decide (ds.length = 4)) ds j res → SeqR ts (fun _ => TermR ts) (fun ds => decide (ds.length = 4)) (i + 2) res) (fun _ H' => spotOf r ts.length H')
  ⟨[d0], [v0], j0, rfl, hR3.fr (M := []) e4, hj, upd_same, .cons (td.fr e4) .nil, e13.trans e4.nil, by simp, fun res h => .inr ⟨d0, j0, hl, h⟩⟩ (fun σ H5 h => ?_)
 obtain ⟨ds, us, j, rfl, hR5, hj5, hL5, td5, e5, hdl, hlo⟩ := h
 have ul := tda_len5 td5
 repeat walk_at "rd"
 cases c : isT ts j "sign" "," with
 | true =>
  refine g_tt rfl ?_
  refine g_wt ?_
  rw [hR5.spot]
  have hn6 := g.next hj5 (by rw [(isT_s c hj5).1]; decide +kernel)
  repeat walk_at "rd"
  refine m_st rfl hR5 g hj5 fun H6 e6 hR6 => ?_
  have hL6 := e6.at hL5 (fun z => Lr (List.mem_singleton.mp z))
  repeat walk_at "rd"
  refine g_by (fun c6 => ?_) (fun c6 => ?_)
  ·have c7 : (us.length : Int) = 4 := c6
   repeat walk_at "rd"
   exact m_wr rfl hR6 g hn6 fun dd H' e hd => qe (j + 1) dd H' (inn (.inl ⟨j + 1, hlo _ (.full c (decide_eq_true (by omega))), rfl⟩)) hn6 ((e5.trans e6).trans e.nil) hd
  ·have c7 : ¬ (us.length : Int) = 4 := c6
   have c6' : decide (ds.length = 4) = false := decide_eq_false (by omega)
   repeat walk_at "rd"
   refine ⟨r, tq, ts, j + 1, m, pl, rfl, hR6, g, hn6, fun d7 j7 v7 H7 hl7 hj7 e7 hR7 td7 => ?_, fun e dd H7 hl7 he e7 hd => qe e dd H7 (inn (.inl ⟨e, hlo _ (.bad c c6' hl7), rfl⟩)) he ((e5.trans e6).trans e7) hd⟩
   have hL7 := e7.at hL6 (fun z => Lr (List.mem_singleton.mp z))
   have fw := termR_fwd ts _ _ _ hl7
   refine ⟨L, us, v7, rfl, rfl, hL7, lt_of (by omega), ?_⟩
   have e8 : Fr [L] H7 (upd H7 L (.lst (us ++ [v7]))) := Fr.mut (List.mem_singleton.mpr rfl) hL7 nofix_lst
   have hR8 := hR7.frL e8 Lr Lq
   refine ⟨⟨ds ++ [d7], us ++ [v7], j7, rfl, hR8, hj7, upd_same, (tda_snoc4 (td5.fr (e6.trans e7)) td7).fr e8, ((e5.trans e6).trans e7).over hLH, by rw [List.length_append]; simp; omega, fun res h => hlo res (.step c c6' hl7 h)⟩, ?_⟩
   rw [hR8.spot]
   omega
 | false =>
  refine g_ff rfl ?_
  repeat walk_at "rd"
  refine m_ns rfl (by decide +kernel) hR5 g hj5 (fun H6 c6 e6 hR6 => ?_) (fun dd H6 c6 e6 hd => qe j dd H6 (inn (.inr ⟨ds, j, hlo _ (.stop c), by rw [if_neg (by rw [c6]; exact Bool.false_ne_true)]⟩)) hj5 (e5.trans e6.nil) hd)
  have hL6 := e6.at hL5 (fun z => Lr (List.mem_singleton.mp z))
  repeat walk_at "rd"
  refine g_tupleL (SqL.of hL6) fun t ht => ?_
  have e7 : Fr [] H6 (upd H6 t (.tup us)) := Fr.new ht
  have h7 : SqT K (upd H6 t (.tup us)) t us := SqT.of upd_same
  repeat walk_at "rd"
  refine ⟨le_of (by simp), fun t2 ht2 => ?_⟩
  have e8 := Fr.new (M := []) (o := .tup [.str x, (tkn ts i).v, .ref t]) ht2
  exact q _ (j + 1) _ _ (inn (.inr ⟨ds, j, hlo _ (.stop c), by rw [if_pos c6]⟩)) (g.next hj5 (by rw [(isT_s c6 hj5).1]; decide +kernel)) (((e5.trans e6).trans e7.nil).trans e8.nil) ((hR6.fr (M := []) e7).fr (M := []) e8)
   (.tup (SqT.of upd_same) (.cons (.str _) (.cons (sc_td (g_sc g hi)) (.cons (.tup (e8.tup h7) ((td5.fr (e6.trans (e7.nil.trans e8.nil))))) .nil))))
end
def PartR (ts : List Th) (m pl : Bool) (i : Nat) (r : Res) : Prop := if isT ts i "kept" "not" = true then AtomR ts pl "not" (i + 1) r
 else if (tkn ts i).s ∈ (["full", "name"] : List Str) ∧ isT ts (i + 1) "sign" "(" = true then AtomR ts pl "atom" i r
 else if (tkn ts i).s = "name" ∧ isT ts (i + 1) "kept" "is" = true then BindR (SumN ts m 12) (fun d j r => r = .ok (.tuple [.str "let", scD (tkn ts i).v, d], j)) (i + 2) r
 else TestR ts m i r
abbrev s_read_part : Stmt := topS 38
theorem sc_read_part : FnScope ["row", "name"] ["row"] (defScope s_read_part) := ⟨rfl, rfl, rfl, by decide +kernel, rfl, by decide +kernel, by decide +kernel⟩
section
variable {P : Program} {w : World} {K : PySem.W.Frag} {mg : Str → Option Value} {base : Heap} {a_BadText a_TESTS a_FOLDS C : Addr} {f : Addr} {fd : FuncData}
theorem ok_read_part (F : FnP K "read_part" s_read_part f fd) (M : RowM P w K mg base C a_BadText) (C_read_sum : CalX P w K mg base 48 "read_sum" (spRdN K C a_BadText SumN 12)) (C_read_test : CalX P w K mg base 50 "read_test" (spRd K C a_BadText fun ts m _ => TestR ts m)) (C_read_atom : CalX P w K mg base 10 "read_atom" (spAtom K C a_BadText)) :
  FnG P w K mg base (L2.CX P w) 52 f fd ["row"] (spRd K C a_BadText PartR) := by
 refine okX F sc_read_part (fun vs H Q E h => ?_) (fun cdv A outer s H vs Q E hr h tk => ?_)
 ·obtain ⟨r, tq, ts, i, m, pl, rfl, _⟩ := h
  rfl
 obtain ⟨r, tq, ts, i, m, pl, rfl, hR, g, hi, q, qe⟩ := h
 have M_sort_here_0 := M.sh0
 have M_is_sign_2 := M.is2
 have M_is_kept_1 := M.ik1
 have M_is_kept_2 := M.ik2
 have M_step_0 := M.st
 refine ⟨_, (pss_cons (ps_if (pt_val (pe_metG M_is_kept_1 hr (pv 0) (pa_cons pe_str pa_nil))) (pss_cons (ps_expr (pe_metG0 M_step_0 hr (pv 0)))
 (pss_one (ps_ret (pe_calX C_read_atom tk hr rfl (pa_cons (pv 0) (pa_cons pe_str pa_nil)))))) pss_nil)
 (pss_cons (ps_if (PW.pt (pw_and (pt_cmpR (kOp (K := K) (r := uIn) rfl opu_in) (pe_metG0 M_sort_here_0 hr (pv 0)) (pe_tup (pa_cons pe_str (pa_cons pe_str pa_nil))) (by rfl)) (pw_and1 (pt_val (pe_metG M_is_sign_2 hr (pv 0) (pa_cons pe_str (pa_cons pe_int pa_nil))))))) (pss_one (ps_ret (pe_calX C_read_atom tk hr rfl (pa_cons (pv 0) (pa_cons pe_str pa_nil))))) pss_nil)
 (pss_cons (ps_if (PW.pt (pw_and (pt_cmpR (kOp (K := K) (r := uEq) rfl (opu_eq hr.units)) (pe_metG0 M_sort_here_0 hr (pv 0)) pe_str (nomark _)) (pw_and1 (pt_val (pe_metG M_is_kept_2 hr (pv 0) (pa_cons pe_str (pa_cons pe_int pa_nil))))))) (pss_cons (ps_set (i := 1) sc_read_part.nd rfl (.inl rfl) (pe_metG0 M_step_0 hr (pv 0)))
 (pss_cons (ps_expr (pe_metG0 M_step_0 hr (pv 0)))
 (pss_one (ps_ret (pe_tup (pa_cons pe_str (pa_cons (pv 1) (pa_cons (pe_calX C_read_sum tk hr rfl (pa_cons (pv 0) (pa_cons pe_int pa_nil))) pa_nil)))))))) pss_nil)
 (pss_one (ps_ret (pe_calX C_read_test tk hr rfl (pa_cons (pv 0) pa_nil))))))), rd_start (σ0 := [some (.ref r), none]) rfl ?_⟩
 repeat walk_at "rd"
 refine g_byB (fun c => ?_) (fun c => ?_)
 ·have ep : PartR ts m pl i = AtomR ts pl "not" (i + 1) := by funext r; unfold PartR; rw [if_pos c]
  rw [ep] at q qe
  repeat walk_at "rd"
  refine m_st rfl hR g hi fun H1 e1 hR1 => ?_
  repeat walk_at "rd"
  exact ⟨r, tq, "not", ts, i + 1, m, pl, rfl, hR1, g, g.next hi (by rw [(isT_s c hi).1]; decide +kernel), fun d j v H' a b c d e => q _ j _ H' a b (e1.trans c) d e, fun e dd H' a b c d => qe e dd H' a b (e1.trans c) d⟩
 ·have c' : ¬ isT ts i "kept" "not" = true := by rw [c]; exact Bool.false_ne_true
  repeat walk_at "rdif"
  try dsimp only
  with_reducible refine g_cutS (fun σ' H' => σ' = [some (.ref r), none] ∧ ¬ ((tkn ts i).s ∈ (["full", "name"] : List Str) ∧ isT ts (i + 1) "sign" "(" = true) ∧ Fr [] H H') (fun σ' H' h => ?_) (fun N k => ?_)
  rotate_left
  ·repeat walk_at "rd"
   refine ⟨le_of (by simp), two_in _ _ _ _ _ fun H1 e1 => ?_⟩
   have hR1 := hR.fr (M := []) e1
   repeat walk_at "rd"
   refine g_by (fun c2 => ?_) (fun c2 => ?_)
   ·repeat walk_at "rd"
    refine g_byB (fun c3 => ?_) (fun c3 => ?_)
    ·have ep : PartR ts m pl i = AtomR ts pl "atom" i := by funext r; unfold PartR; rw [if_neg c', if_pos ⟨c2, c3⟩]
     rw [ep] at q qe
     repeat walk_at "rd"
     exact ⟨r, tq, "atom", ts, i, m, pl, rfl, hR1, g, hi, fun d j v H' a b c d e => q _ j _ H' a b (e1.nil.trans c) d e, fun e dd H' a b c d => qe e dd H' a b (e1.nil.trans c) d⟩
    ·repeat walk_at "rd"
     exact k _ _ ⟨rfl, fun z => by rw [c3] at z; exact Bool.noConfusion z.2, e1⟩
   ·repeat walk_at "rd"
    exact k _ _ ⟨rfl, fun z => c2 z.1, e1⟩
  obtain ⟨rfl, c2, e1⟩ := h
  have hR1 := hR.fr (M := []) e1
  repeat walk_at "rdif"
  try dsimp only
  with_reducible refine g_cutS (fun σ' H'' => σ' = [some (.ref r), none] ∧ ¬ ((tkn ts i).s = "name" ∧ isT ts (i + 1) "kept" "is" = true) ∧ H' = H'') (fun σ' H'' h => ?_) (fun N k => ?_)
  rotate_left
  ·repeat walk_at "rd"
   refine g_by (fun c3 => ?_) (fun c3 => ?_)
   ·repeat walk_at "rd"
    refine g_byB (fun c4 => ?_) (fun c4 => ?_)
    ·have ep : PartR ts m pl i = BindR (SumN ts m 12) (fun d j r => r = .ok (.tuple [.str "let", scD (tkn ts i).v, d], j)) (i + 2) := by funext r; unfold PartR; rw [if_neg c', if_neg c2, if_pos ⟨c3, c4⟩]
     rw [ep] at q qe
     have hn := g.next hi (by rw [c3]; decide +kernel)
     have hn2 := g.next hn (by rw [(isT_s c4 hn).1]; decide +kernel)
     repeat walk_at "rd"
     refine m_st rfl hR1 g hi fun H2 e2 hR2 => ?_
     repeat walk_at "rd"
     refine m_st rfl hR2 g hn fun H3 e3 hR3 => ?_
     repeat walk_at "rd"
     refine ⟨r, tq, ts, i + 2, m, pl, rfl, hR3, g, hn2, fun d j v H4 hl hj e4 hR4 td => ?_, fun e dd H4 hl he e4 hd => qe e dd H4 (.inl ⟨e, hl, rfl⟩) he (((e1.nil.trans e2).trans e3).trans e4) hd⟩
     repeat walk_at "rd"
     refine ⟨le_of (by simp), fun t ht => ?_⟩
     have e5 := Fr.new (M := []) (o := .tup [.str "let", (tkn ts i).v, v]) ht
     exact q _ j _ _ (.inr ⟨d, j, hl, rfl⟩) hj ((((e1.nil.trans e2).trans e3).trans e4).trans e5.nil) (hR4.fr (M := []) e5) (.tup (SqT.of upd_same) (.cons (.str _) (.cons (sc_td (g_sc g hi)) (.cons (td.fr e5) .nil))))
    ·repeat walk_at "rd"
     exact k _ _ ⟨rfl, fun z => by rw [c4] at z; exact Bool.noConfusion z.2, rfl⟩
   ·repeat walk_at "rd"
    exact k _ _ ⟨rfl, fun z => c3 z.1, rfl⟩
  obtain ⟨rfl, c3, rfl⟩ := h
  have ep : PartR ts m pl i = TestR ts m i := by funext r; unfold PartR; rw [if_neg c', if_neg c2, if_neg c3]
  rw [ep] at q qe
  repeat walk_at "rd"
  exact ⟨r, tq, ts, i, m, pl, rfl, hR1, g, hi, fun d j v H' a b c d e => q _ j _ H' a b (e1.nil.trans c) d e, fun e dd H' a b c d => qe e dd H' a b (e1.nil.trans c) d⟩
end
theorem many_fwd {ts : List Th} {item : List PyData → Nat → Res → Prop} {full : List PyData → Bool} (hf : ∀ ds, Fwd (item ds)) {ds : List PyData} {i : Nat} {r : ResL} (h : ManyR ts item full ds i r) : ∀ ds' j, r = .ok (ds', j) → i ≤ j := by
 induction h with
 | stop _ => intro ds' j e; cases e; exact Nat.le_refl _
 | full _ _ => intro ds' j e; cases e
 | bad _ _ _ => intro ds' j e; cases e
 | step a b c k ih =>
  intro ds' j e
  have := ih ds' j e
  have := hf _ _ _ _ c
  omega
theorem seq_fwd {ts : List Th} {item : List PyData → Nat → Res → Prop} {full : List PyData → Bool} (hf : ∀ ds, Fwd (item ds)) {i j : Nat} {ds : List PyData} (h : SeqR ts item full i (.ok (ds, j))) : i < j := by
 rcases h with ⟨e, _, h⟩ | ⟨d, j0, h1, h2⟩
 ·cases h
 ·have := hf _ _ _ _ h1
  have := many_fwd hf h2 ds j rfl
  omega
theorem bind_fwd {A : Nat → Res → Prop} {k : PyData → Nat → Res → Prop} (hA : Fwd A) (hk : ∀ d j d' j', k d j (.ok (d', j')) → j ≤ j') : Fwd (BindR A k) := fun i d j h => by
 rcases h with ⟨e, _, h⟩ | ⟨d0, j0, h1, h2⟩
 ·cases h
 ·have := hA _ _ _ h1
  have := hk _ _ _ _ h2
  omega
theorem testR_fwd (ts : List Th) (m : Bool) : Fwd (TestR ts m) := bind_fwd (sumN_fwd ts m 12) fun d j d' j' h => by
 split at h
 ·have := bind_fwd (sumN_fwd ts m 12) (fun d j d' j' h => by cases h; exact Nat.le_refl _) _ _ _ h
  omega
 ·cases h
theorem atomR_fwd (ts : List Th) (pl : Bool) (x : Str) : Fwd (AtomR ts pl x) := fun i d j h => by
 unfold AtomR at h
 split at h
 ·cases h
 ·split at h
  ·cases h
  ·rcases h with ⟨e, _, h⟩ | ⟨ds, j0, h1, h2⟩
   ·cases h
   ·have := seq_fwd (fun _ => termR_fwd ts) h1
    split at h2 <;> cases h2
    omega
theorem partR_fwd (ts : List Th) (m pl : Bool) : Fwd (PartR ts m pl) := fun i d j h => by
 unfold PartR at h
 split at h
 ·have := atomR_fwd _ _ _ _ _ _ h; omega
 ·split at h
  ·exact atomR_fwd _ _ _ _ _ _ h
  ·split at h
   ·have := bind_fwd (sumN_fwd ts m 12) (fun d j d' j' h => by cases h; exact Nat.le_refl _) _ _ _ h
    omega
   ·exact testR_fwd _ _ _ _ _ h
def SeqT (ts : List Th) (item : List PyData → Nat → Res → Prop) (full : List PyData → Bool) (i : Nat) (r : Res) : Prop := (∃ e, SeqR ts item full i (.error e) ∧ r = .error e) ∨ ∃ ds j, SeqR ts item full i (.ok (ds, j)) ∧ r = .ok (.tuple ds, j)
def PartsR (ts : List Th) (m pl : Bool) (most : Nat) : Nat → Res → Prop := SeqT ts (fun _ => PartR ts m pl) (fun ds => decide (ds.length = most))
def isFold : PyData → Bool
 | .tuple (.str s :: _) => decide (s = "fold")
 | _ => false
def foldsW : List Str := ["sum", "least", "most"]
def ArgR (ts : List Th) (folded : Bool) (i : Nat) (r : Res) : Prop := if (tkn ts i).s = "value" then r = .ok (valD (tkn ts i), i + 1)
 else if (tkn ts i).s ≠ "kept" then (if (tkn ts i).s = "name" then r = .ok (varD (tkn ts i), i + 1) else r = .error i)
 else if folded = true ∨ (¬ (tkn ts i).v = .str "count" ∧ ¬ (tkn ts i).v ∈ foldsW.map V.str) then r = .error i
 else if (tkn ts i).v = .str "count" then r = .ok (.tuple [.str "fold", scD (tkn ts i).v, .none], i + 1)
 else if (tkn ts (i + 1)).s = "name" then r = .ok (.tuple [.str "fold", scD (tkn ts i).v, scD (tkn ts (i + 1)).v], i + 2) else r = .error (i + 1)
theorem argR_fwd (ts : List Th) (b : Bool) : Fwd (ArgR ts b) := fun i d j h => by
 unfold ArgR at h
 repeat' (split at h)
 all_goals first
  | (cases h; done)
  | (cases h; omega)
def ArgsR (ts : List Th) : Nat → Res → Prop := SeqT ts (fun ds => ArgR ts (ds.any isFold)) (fun ds => decide (ds.length = 4))
def spParts (K : PySem.W.Frag) (C B : Addr) : Sp := fun vs H Q E => ∃ (r tq : Addr) (most : Nat) (ts : List Th) (i : Nat) (m pl : Bool), vs = [.ref r, .int (most : Int)] ∧ 1 ≤ most ∧ most ≤ 100 ∧ RowAt K C H r tq ts i m pl ∧ GoodTs ts ∧ i < ts.length ∧ RdOk K C B (PartsR ts m pl most) H r tq ts i m pl Q E
def spArg (K : PySem.W.Frag) (C B : Addr) : Sp := fun vs H Q E => ∃ (r tq : Addr) (b : Bool) (ts : List Th) (i : Nat) (m pl : Bool), vs = [.ref r, .bl b] ∧ RowAt K C H r tq ts i m pl ∧ GoodTs ts ∧ i < ts.length ∧ RdOk K C B (ArgR ts b) H r tq ts i m pl Q E
abbrev s_read_parts : Stmt := topS 39
theorem sc_read_parts : FnScope ["row", "most", "found"] ["row", "most"] (defScope s_read_parts) := ⟨rfl, rfl, rfl, by decide +kernel, rfl, by decide +kernel, by decide +kernel⟩
abbrev s_read_arg : Stmt := topS 40
theorem sc_read_arg : FnScope ["row", "folded", "how"] ["row", "folded"] (defScope s_read_arg) := ⟨rfl, rfl, rfl, by decide +kernel, rfl, by decide +kernel, by decide +kernel⟩
abbrev s_read_args : Stmt := topS 41
theorem sc_read_args : FnScope ["row", "found", "arg"] ["row"] (defScope s_read_args) := ⟨rfl, rfl, rfl, by decide +kernel, rfl, by decide +kernel, by decide +kernel⟩
section
variable {P : Program} {w : World} {K : PySem.W.Frag} {mg : Str → Option Value} {base : Heap} {a_BadText a_TESTS a_FOLDS C : Addr} {f : Addr} {fd : FuncData}
theorem ok_read_parts (F : FnP K "read_parts" s_read_parts f fd) (B : BiR2 mg) (M : RowM P w K mg base C a_BadText) (C_read_part : CalX P w K mg base 52 "read_part" (spRd K C a_BadText PartR)) : FnG P w K mg base (L2.CX P w) 54 f fd ["row", "most"] (spParts K C a_BadText) := by
 refine okX F sc_read_parts (fun vs H Q E h => ?_) (fun cdv A outer s H vs Q E hr h tk => ?_)
 ·obtain ⟨r, tq, most, ts, i, m, pl, rfl, _⟩ := h
  rfl
 obtain ⟨r, tq, most, ts, i, m, pl, rfl, hm1, hm2, hR, g, hi, q, qe⟩ := h
 have M_is_sign_1 := M.is1
 have M_wrong_0 := M.wr
 have M_step_0 := M.st
 refine ⟨_, (pss_cons (ps_set (i := 2) sc_read_parts.nd rfl (.inl rfl) (pe_lst (pa_cons (pe_calX C_read_part tk hr rfl (pa_cons (pv 0) pa_nil)) pa_nil)))
 (pss_cons (ps_while (L2.passes_of rfl) (pt_val (pe_metG M_is_sign_1 hr (pv 0) (pa_cons pe_str pa_nil))) (pss_cons (ps_expr (pe_metG0 M_step_0 hr (pv 0)))
 (pss_cons (ps_if (pt_cmpR (kOp (K := K) (r := uEq) rfl (opu_eq hr.units)) (pe_callB (kCall (K := K) (r := uLen) rfl callu_len) (by rfl) B.b_len (by decide +kernel) (pa_cons (pv 2) pa_nil)) (pv 1) (nomark _)) (pss_one (ps_expr (pe_metX0 M_wrong_0 tk hr (pv 0)))) pss_nil)
 (pss_one (ps_expr (kBM (K := K) rfl (pe_bm PySem.F.plainAttrs_list PySem.F.slot_list_append PySem.F.type_list_append mt_append (pv 2) (pa_cons (pe_calX C_read_part tk hr rfl (pa_cons (pv 0) pa_nil)) pa_nil))))))))
 (pss_one (ps_ret (pe_callTy (kCall (K := K) (r := uTuple) rfl callu_tuple) (by rfl) B.b_tuple (by decide +kernel) (pa_cons (pv 2) pa_nil)))))), rd_start (σ0 := [some (.ref r), some (.int (most : Int)), none]) rfl ?_⟩
 repeat walk_at "rd"
 refine ⟨r, tq, ts, i, m, pl, rfl, hR, g, hi, fun d0 j0 v0 H3 hl hj e3 hR3 td => ?_, fun e dd H3 hl he e3 hd => qe e dd H3 (.inl ⟨e, .inl ⟨e, hl, rfl⟩, rfl⟩) he (e3) hd⟩
 repeat walk_at "rd"
 refine ⟨le_of (by simp), fun L hL => ?_⟩
 have e4 : Fr [] H3 (upd H3 L (.lst [v0])) := Fr.new hL
 obtain ⟨Lr, Lq⟩ := hR3.off hL
 have e13 := e3
 have hLH : H L = none := e13.back (fun z => Lr (List.mem_singleton.mp z)) hL
 repeat walk_at "rd"
 refine g_while2 (fun σ H' => ∃ ds us j, σ = [some (.ref r), some (.int (most : Int)), some (.ref L)] ∧ RowAt K C H' r tq ts j m pl ∧ j < ts.length ∧ H' L = some (.lst us) ∧ TdAll K H' us ds ∧ Fr [r] H H' ∧ ds.length ≤ most ∧ ∀ res, ManyR ts (fun _ => PartR ts m pl) (fun ds => decide (ds.length = most)) ds j res → SeqR ts (fun _ => PartR ts m pl) (fun ds => decide (ds.length = most)) i res) (fun _ H' => spotOf r ts.length H')
  ⟨[d0], [v0], j0, rfl, hR3.fr (M := []) e4, hj, upd_same, .cons (td.fr e4) .nil, e13.trans e4.nil, by simp; omega, fun res h => .inr ⟨d0, j0, hl, h⟩⟩ (fun σ H5 h => ?_)
 obtain ⟨ds, us, j, rfl, hR5, hj5, hL5, td5, e5, hdl, hlo⟩ := h
 have ul := tda_len5 td5
 repeat walk_at "rd"
 cases c : isT ts j "sign" "," with
 | true =>
  refine g_tt rfl ?_
  refine g_wt ?_
  rw [hR5.spot]
  have hn6 := g.next hj5 (by rw [(isT_s c hj5).1]; decide +kernel)
  repeat walk_at "rd"
  refine m_st rfl hR5 g hj5 fun H6 e6 hR6 => ?_
  have hL6 := e6.at hL5 (fun z => Lr (List.mem_singleton.mp z))
  repeat walk_at "rd"
  refine g_by (fun c6 => ?_) (fun c6 => ?_)
  ·have c7 : (us.length : Int) = most := c6
   repeat walk_at "rd"
   exact m_wr rfl hR6 g hn6 fun dd H' e hd => qe (j + 1) dd H' (.inl ⟨j + 1, hlo _ (.full c (decide_eq_true (by omega))), rfl⟩) hn6 ((e5.trans e6).trans e.nil) hd
  ·have c7 : ¬ (us.length : Int) = most := c6
   have c6' : (fun ds => decide (ds.length = most)) ds = false := decide_eq_false (by omega)
   repeat walk_at "rd"
   refine ⟨r, tq, ts, j + 1, m, pl, rfl, hR6, g, hn6, fun d7 j7 v7 H7 hl7 hj7 e7 hR7 td7 => ?_, fun e dd H7 hl7 he e7 hd => qe e dd H7 (.inl ⟨e, hlo _ (.bad c c6' hl7), rfl⟩) he ((e5.trans e6).trans e7) hd⟩
   have hL7 := e7.at hL6 (fun z => Lr (List.mem_singleton.mp z))
   have fw := partR_fwd ts m pl _ _ _ hl7
   refine ⟨L, us, v7, rfl, rfl, hL7, lt_of (by omega), ?_⟩
   have e8 : Fr [L] H7 (upd H7 L (.lst (us ++ [v7]))) := Fr.mut (List.mem_singleton.mpr rfl) hL7 nofix_lst
   have hR8 := hR7.frL e8 Lr Lq
   refine ⟨⟨ds ++ [d7], us ++ [v7], j7, rfl, hR8, hj7, upd_same, (tda_snoc4 (td5.fr (e6.trans e7)) td7).fr e8, ((e5.trans e6).trans e7).over hLH, by rw [List.length_append]; simp; omega, fun res h => hlo res (.step c c6' hl7 h)⟩, ?_⟩
   rw [hR8.spot]
   omega
 | false =>
  refine g_ff rfl ?_
  repeat walk_at "rd"
  refine g_tupleL (SqL.of hL5) fun t ht => ?_
  have e7 : Fr [] H5 (upd H5 t (.tup us)) := Fr.new ht
  exact q _ j _ _ (.inr ⟨ds, j, hlo _ (.stop c), rfl⟩) hj5 (e5.trans e7.nil) (hR5.fr (M := []) e7) (.tup (SqT.of upd_same) (td5.fr e7))
end
theorem g_neSc {K : PySem.W.Frag} {H : Hp} {Q : VK} {v : V} {z : Str} (hz : PyData.strOk z = true) (h : isSc v = true) (q : Q (.bl (!decide (v = .str z))) H) : uNe K v (.str z) H Q := by
 cases v with
 | str a => exact .inl ⟨rfl, q⟩
 | int i => exact g_neD (.int i) (.str z) (by simp [SeqAt.shaped, PyData.canLay0, PyData.depth, hz]) (by simp [SeqAt.shaped, PyData.canLay0, PyData.depth, hz]) (by rw [decide_eq_false (fun e => nomatch e)] at q; exact q)
 | bl b => exact g_neD (.bl b) (.str z) (by simp [SeqAt.shaped, PyData.canLay0, PyData.depth, hz]) (by simp [SeqAt.shaped, PyData.canLay0, PyData.depth, hz]) (by rw [decide_eq_false (fun e => nomatch e)] at q; exact q)
 | non => exact g_neD .non (.str z) (by simp [SeqAt.shaped, PyData.canLay0, PyData.depth, hz]) (by simp [SeqAt.shaped, PyData.canLay0, PyData.depth, hz]) (by rw [decide_eq_false (fun e => nomatch e)] at q; exact q)
 | _ => cases h
section
variable {P : Program} {w : World} {K : PySem.W.Frag} {mg : Str → Option Value} {base : Heap} {a_BadText a_TESTS a_FOLDS C : Addr} {f : Addr} {fd : FuncData}
theorem ok_read_arg (F : FnP K "read_arg" s_read_arg f fd) (G : GlR K mg a_TESTS a_FOLDS) (M : RowM P w K mg base C a_BadText) : FnG P w K mg base (L2.CX P w) 8 f fd ["row", "folded"] (spArg K C a_BadText) := by
 refine okX F sc_read_arg (fun vs H Q E h => ?_) (fun cdv A outer s H vs Q E hr h tk => ?_)
 ·obtain ⟨r, tq, b, ts, i, m, pl, rfl, _⟩ := h
  rfl
 obtain ⟨r, tq, b, ts, i, m, pl, rfl, hR, g, hi, q, qe⟩ := h
 have M_sort_here_0 := M.sh0
 have M_thing_0 := M.th0
 have M_wrong_0 := M.wr
 have M_step_0 := M.st
 have M_need_name_0 := M.nn
 have g_FOLDS := G.f
 refine ⟨_, (pss_cons (ps_if (pt_cmpR (kOp (K := K) (r := uEq) rfl (opu_eq hr.units)) (pe_metG0 M_sort_here_0 hr (pv 0)) pe_str (nomark _)) (pss_one (ps_ret (pe_tup (pa_cons pe_str (pa_cons (pe_metG0 M_step_0 hr (pv 0)) pa_nil))))) pss_nil)
 (pss_cons (ps_if (pt_cmpR (kOp (K := K) (r := uNe) rfl (opu_ne hr.units)) (pe_metG0 M_sort_here_0 hr (pv 0)) pe_str (nomark _)) (pss_one (ps_ret (pe_tup (pa_cons pe_str (pa_cons (pe_metX0 M_need_name_0 tk hr (pv 0)) pa_nil))))) pss_nil)
 (pss_cons (ps_if (PW.pt (pw_or (pt_val (pv 1)) (pw_or1 (PW.pt (pw_and (pt_cmpR (kOp (K := K) (r := uNe) rfl (opu_ne hr.units)) (pe_metG0 M_thing_0 hr (pv 0)) pe_str (nomark _)) (pw_and1 (pt_cmpR (kOp (K := K) (r := uNotIn) rfl opu_notIn) (pe_metG0 M_thing_0 hr (pv 0)) (pe_glob (v := .ref a_FOLDS) rfl g_FOLDS rfl) (by rfl)))))))) (pss_one (ps_expr (pe_metX0 M_wrong_0 tk hr (pv 0)))) pss_nil)
 (pss_cons (ps_set (i := 2) sc_read_arg.nd rfl (.inl rfl) (pe_metG0 M_step_0 hr (pv 0)))
 (pss_one (ps_ret (pe_tup (pa_cons pe_str (pa_cons (pv 2) (pa_cons (pe_ifExp (pt_cmpR (kOp (K := K) (r := uEq) rfl (opu_eq hr.units)) (pv 2) pe_str (nomark _)) pe_non (pe_metX0 M_need_name_0 tk hr (pv 0))) pa_nil)))))))))), rd_start (σ0 := [some (.ref r), some (.bl b), none]) rfl ?_⟩
 repeat walk_at "rd"
 refine g_by (fun c => ?_) (fun c => ?_)
 ·repeat walk_at "rd"
  refine m_st rfl hR g hi fun H1 e1 hR1 => ?_
  repeat walk_at "rd"
  refine ⟨le_of (by simp), fun t ht => ?_⟩
  have e2 := Fr.new (M := []) (o := .tup [.str "value", (tkn ts i).v]) ht
  exact q _ (i + 1) _ _ (by unfold ArgR; rw [if_pos c]; rfl) (g.next hi (by rw [c]; decide +kernel)) (e1.trans e2.nil) (hR1.fr (M := []) e2) (.tup (SqT.of upd_same) (.cons (.str _) (.cons (sc_td (g_sc g hi)) .nil)))
 ·repeat walk_at "rd"
  refine g_byN (fun c2 => ?_) (fun c2 => ?_)
  ·repeat walk_at "rd"
   refine m_nn rfl hR g hi (fun H1 c3 e1 hR1 => ?_) (fun dd H1 c3 e1 hd => ?_)
   ·repeat walk_at "rd"
    refine ⟨le_of (by simp), fun t ht => ?_⟩
    have e2 := Fr.new (M := []) (o := .tup [.str "var", (tkn ts i).v]) ht
    exact q _ (i + 1) _ _ (by unfold ArgR; rw [if_neg c, if_pos c2, if_pos c3]; rfl) (g.next hi (by rw [c3]; decide +kernel)) (e1.trans e2.nil) (hR1.fr (M := []) e2) (.tup (SqT.of upd_same) (.cons (.str _) (.cons (sc_td (g_sc g hi)) .nil)))
   ·exact qe i dd H1 (by unfold ArgR; rw [if_neg c, if_pos c2, if_neg c3]) hi e1.nil hd
  ·have c2' : ¬ (tkn ts i).s ≠ "kept" := fun z => z c2
   repeat walk_at "rdif"
   try dsimp only
   with_reducible refine g_cutS (fun σ' H' => σ' = [some (.ref r), some (.bl b), none] ∧ ¬ (b = true ∨ (¬ (tkn ts i).v = .str "count" ∧ ¬ (tkn ts i).v ∈ foldsW.map V.str)) ∧ H = H') (fun σ' H' h => ?_) (fun N k => ?_)
   rotate_left
   ·repeat walk_at "rd"
    refine g_byB (fun c3 => ?_) (fun c3 => ?_)
    ·repeat walk_at "rd"
     exact m_wr rfl hR g hi fun dd H' e hd => qe i dd H' (by unfold ArgR; rw [if_neg c, if_neg c2', if_pos (.inl c3)]) hi e.nil hd
    ·have c3' : ¬ b = true := by rw [c3]; exact Bool.false_ne_true
     repeat walk_at "rd"
     refine g_neSc (by decide +kernel) (g_sc g hi) ?_
     repeat walk_at "rd"
     refine g_byN (fun c4 => ?_) (fun c4 => ?_)
     ·repeat walk_at "rd"
      refine g_notInSc (ws := foldsW) (g_sc g hi) (.inr (G.ft _)) ?_
      repeat walk_at "rd"
      refine g_byN (fun c5 => ?_) (fun c5 => ?_)
      ·repeat walk_at "rd"
       exact m_wr rfl hR g hi fun dd H' e hd => qe i dd H' (by unfold ArgR; rw [if_neg c, if_neg c2', if_pos (.inr ⟨c4, c5⟩)]) hi e.nil hd
      ·repeat walk_at "rd"
       exact k _ _ ⟨rfl, fun z => z.elim c3' fun z => z.2 c5, rfl⟩
     ·repeat walk_at "rd"
      exact k _ _ ⟨rfl, fun z => z.elim c3' fun z => z.1 c4, rfl⟩
   obtain ⟨rfl, c3, rfl⟩ := h
   have hn := g.next hi (by rw [c2]; decide +kernel)
   repeat walk_at "rd"
   refine m_st rfl hR g hi fun H1 e1 hR1 => ?_
   repeat walk_at "rd"
   refine g_eqSc (by decide +kernel) (g_sc g hi) ?_
   repeat walk_at "rd"
   refine g_by (fun c4 => ?_) (fun c4 => ?_)
   ·repeat walk_at "rd"
    refine ⟨le_of (by simp), fun t ht => ?_⟩
    have e2 := Fr.new (M := []) (o := .tup [.str "fold", (tkn ts i).v, .non]) ht
    exact q _ (i + 1) _ _ (by unfold ArgR; rw [if_neg c, if_neg c2', if_neg c3, if_pos c4]) hn (e1.trans e2.nil) (hR1.fr (M := []) e2) (.tup (SqT.of upd_same) (.cons (.str _) (.cons (sc_td (g_sc g hi)) (.cons .non .nil))))
   ·repeat walk_at "rd"
    refine m_nn rfl hR1 g hn (fun H2 c5 e2 hR2 => ?_) (fun dd H2 c5 e2 hd => ?_)
    ·repeat walk_at "rd"
     refine ⟨le_of (by simp), fun t ht => ?_⟩
     have e3 := Fr.new (M := []) (o := .tup [.str "fold", (tkn ts i).v, (tkn ts (i + 1)).v]) ht
     exact q _ (i + 2) _ _ (by unfold ArgR; rw [if_neg c, if_neg c2', if_neg c3, if_neg c4, if_pos c5]) (g.next hn (by rw [c5]; decide +kernel)) ((e1.trans e2).trans e3.nil) (hR2.fr (M := []) e3) (.tup (SqT.of upd_same) (.cons (.str _) (.cons (sc_td (g_sc g hi)) (.cons (sc_td (g_sc g hn)) .nil))))
    ·exact qe (i + 1) dd H2 (by unfold ArgR; rw [if_neg c, if_neg c2', if_neg c3, if_neg c4, if_neg c5]) hn (e1.trans e2.nil) hd
end
theorem argR_shape {ts : List Th} {b : Bool} {i j : Nat} {d : PyData} (h : ArgR ts b i (.ok (d, j))) : ∃ s l, d = .tuple (.str s :: l) := by
 unfold ArgR at h
 repeat' (split at h)
 all_goals first
  | (cases h; done)
  | (cases h; exact ⟨_, _, rfl⟩)
section
variable {P : Program} {w : World} {K : PySem.W.Frag} {mg : Str → Option Value} {base : Heap} {a_BadText a_TESTS a_FOLDS C : Addr} {f : Addr} {fd : FuncData}
theorem ok_read_args (F : FnP K "read_args" s_read_args f fd) (B : BiR2 mg) (G : GlR K mg a_TESTS a_FOLDS) (M : RowM P w K mg base C a_BadText) (C_read_arg : CalX P w K mg base 8 "read_arg" (spArg K C a_BadText)) : FnG P w K mg base (L2.CX P w) 10 f fd ["row"] (spRd K C a_BadText fun ts _ _ => ArgsR ts) := by
 refine okX F sc_read_args (fun vs H Q E h => ?_) (fun cdv A outer s H vs Q E hr h tk => ?_)
 ·obtain ⟨r, tq, ts, i, m, pl, rfl, _⟩ := h
  rfl
 obtain ⟨r, tq, ts, i, m, pl, rfl, hR, g, hi, q, qe⟩ := h
 have M_is_sign_1 := M.is1
 have M_wrong_0 := M.wr
 have M_step_0 := M.st
 obtain ⟨tM, g_MOST_TERMS⟩ := G.mt
 refine ⟨_, (pss_cons (ps_set (i := 1) sc_read_args.nd rfl (.inl rfl) (pe_lst (pa_cons (pe_calX C_read_arg tk hr rfl (pa_cons (pv 0) (pa_cons pe_bl pa_nil))) pa_nil)))
 (pss_cons (ps_while (L2.passes_of rfl) (pt_val (pe_metG M_is_sign_1 hr (pv 0) (pa_cons pe_str pa_nil))) (pss_cons (ps_expr (pe_metG0 M_step_0 hr (pv 0)))
 (pss_cons (ps_if (pt_cmpR (kOp (K := K) (r := uEq) rfl (opu_eq hr.units)) (pe_callB (kCall (K := K) (r := uLen) rfl callu_len) (by rfl) B.b_len (by decide +kernel) (pa_cons (pv 1) pa_nil)) (pe_glob (v := .int z_MOST_TERMS) rfl g_MOST_TERMS ⟨_, rfl⟩) (nomark _)) (pss_one (ps_expr (pe_metX0 M_wrong_0 tk hr (pv 0)))) pss_nil)
 (pss_one (ps_expr (kBM (K := K) rfl (pe_bm PySem.F.plainAttrs_list PySem.F.slot_list_append PySem.F.type_list_append mt_append (pv 1) (pa_cons (pe_calX C_read_arg tk hr rfl (pa_cons (pv 0) (pa_cons (pe_callB (kCall (K := K) (r := rAny) rfl (cr_any rfl)) (by rfl) B.b_any (by decide +kernel) (pa_cons (pe_lc (own := [("arg", 2)]) (g := gName 2) (tt := tYes) rfl sc_read_args.nd (pi_listK (K := K) rfl (pv 1)) (blkOk_by (own := [("arg", 2)]) (N := ["row", "found", "arg"]) (sc := defScope s_read_args) (by decide +kernel)) (fun _ _ _ _ _ => (by exact (pg_name (i := 2) sc_read_args.nd rfl (by first | exact Or.inl rfl | exact Or.inr rfl)))) (fun _ _ _ _ _ => pts_nil) (fun _ _ _ _ _ => (by exact (pe_cmpR (kOp (K := K) (r := uEq) rfl (opu_eq hr.units)) (pe_ix (kIx (K := K) (r := rIx) rfl ix_seq) (pv 2) pe_int (fun _ _ => rfl)) pe_str (nomark _))))) pa_nil)) pa_nil))) pa_nil))))))))
 (pss_one (ps_ret (pe_callTy (kCall (K := K) (r := uTuple) rfl callu_tuple) (by rfl) B.b_tuple (by decide +kernel) (pa_cons (pv 1) pa_nil)))))), rd_start (σ0 := [some (.ref r), none, none]) rfl ?_⟩
 repeat walk_at "rd"
 refine ⟨r, tq, false, ts, i, m, pl, rfl, hR, g, hi, fun d0 j0 v0 H3 hl hj e3 hR3 td => ?_, fun e dd H3 hl he e3 hd => qe e dd H3 (.inl ⟨e, .inl ⟨e, hl, rfl⟩, rfl⟩) he (e3) hd⟩
 repeat walk_at "rd"
 refine ⟨le_of (by simp), fun L hL => ?_⟩
 have e4 : Fr [] H3 (upd H3 L (.lst [v0])) := Fr.new hL
 obtain ⟨Lr, Lq⟩ := hR3.off hL
 have hLH : H L = none := e3.back (fun z => Lr (List.mem_singleton.mp z)) hL
 repeat walk_at "rd"
 refine g_while2 (fun σ H' => ∃ ds us j, σ = [some (.ref r), some (.ref L), none] ∧ RowAt K C H' r tq ts j m pl ∧ j < ts.length ∧ H' L = some (.lst us) ∧ TdAll K H' us ds ∧ Fr [r] H H' ∧ ds.length ≤ 4 ∧ (∀ d ∈ ds, ∃ s l, d = .tuple (.str s :: l)) ∧ ∀ res, ManyR ts (fun ds => ArgR ts (ds.any isFold)) (fun ds => decide (ds.length = 4)) ds j res → SeqR ts (fun ds => ArgR ts (ds.any isFold)) (fun ds => decide (ds.length = 4)) i res) (fun _ H' => spotOf r ts.length H')
  ⟨[d0], [v0], j0, rfl, hR3.fr (M := []) e4, hj, upd_same, .cons (td.fr e4) .nil, e3.trans e4.nil, by simp, fun d hd => by rw [List.mem_singleton.mp hd]; exact argR_shape hl, fun res h => .inr ⟨d0, j0, hl, h⟩⟩ (fun σ H5 h => ?_)
 obtain ⟨ds, us, j, rfl, hR5, hj5, hL5, td5, e5, hdl, hsh, hlo⟩ := h
 have ul := tda_len5 td5
 repeat walk_at "rd"
 cases c : isT ts j "sign" "," with
 | true =>
  refine g_tt rfl ?_
  refine g_wt ?_
  rw [hR5.spot]
  have hn6 := g.next hj5 (by rw [(isT_s c hj5).1]; decide +kernel)
  repeat walk_at "rd"
  refine m_st rfl hR5 g hj5 fun H6 e6 hR6 => ?_
  have hL6 := e6.at hL5 (fun z => Lr (List.mem_singleton.mp z))
  have td6 := td5.fr e6
  repeat walk_at "rd"
  refine g_by (fun c6 => ?_) (fun c6 => ?_)
  ·have c7 : (us.length : Int) = 4 := c6
   repeat walk_at "rd"
   exact m_wr rfl hR6 g hn6 fun dd H' e hd => qe (j + 1) dd H' (.inl ⟨j + 1, hlo _ (.full c (decide_eq_true (by omega))), rfl⟩) hn6 ((e5.trans e6).trans e.nil) hd
  ·have c7 : ¬ (us.length : Int) = 4 := c6
   have c6' : decide (ds.length = 4) = false := decide_eq_false (by omega)
   repeat walk_at "rd"
   refine ⟨L, rfl, ⟨_, SqL.of hL6⟩, fun D hD => lc_it (walk_list (xs := us)) (fun i H' => Fr [] H6 H' ∧ H' D = some (.lst (((ds.take i).map isFold).map V.bl))) ⟨Fr.new hD, upd_same⟩ (fun i H' _ h => SqL.of (h.1.at hL6 (fun z => nomatch z))) (fun i' y H7 H8 hi' h yy => ?_) (fun H7 h => ?_)⟩
   ·obtain ⟨rfl, hy⟩ := yy
    obtain ⟨e7, h7⟩ := h
    obtain ⟨d, hd, tdd⟩ := (tda_get (f := id) (show TdAll K H6 us (ds.map id) by rw [List.map_id]; exact td6)).2 i' y hy
    obtain ⟨s0, l0, rfl⟩ := hsh d (List.mem_of_getElem? hd)
    obtain ⟨a0, xs0, rfl, hx0, hxs0⟩ := Td.tuple_inv tdd
    obtain ⟨x0, xr, rfl, hx1⟩ : ∃ x0 xr, xs0 = x0 :: xr ∧ Td K H6 x0 (.str s0) := by
     cases hxs0 with
     | cons a b => exact ⟨_, _, rfl, a⟩
    cases hx1.str_inv
    repeat walk_at "rd"
    refine ⟨rfl, ?_⟩
    repeat walk_at "rd"
    refine g_ixT (e7.tup hx0) (atI_nat (j := 0) rfl) ?_
    repeat walk_at "rd"
    refine ⟨_, h7, lt_of (by rw [List.length_map, List.length_map, List.length_take]; omega), e7.over hD, ?_⟩
    rw [upd_same, List.take_add_one, hd, List.map_append, List.map_append]
    rfl
   ·obtain ⟨e7, h7⟩ := h
    rw [show us.length = ds.length from ul, List.take_length] at h7
    have hR7 := hR6.fr (M := []) e7
    have hL7 := e7.at hL6 (fun z => nomatch z)
    repeat walk_at "rd"
    refine ⟨D, _, rfl, SqL.of h7, ?_⟩
    have ea : (ds.map isFold).any id = ds.any isFold := by rw [List.any_map]; rfl
    rw [ea]
    repeat walk_at "rd"
    refine ⟨r, tq, ds.any isFold, ts, j + 1, m, pl, rfl, hR7, g, hn6, fun d8 j8 v8 H8 hl8 hj8 e8 hR8 td8 => ?_, fun e dd H8 hl8 he e8 hd => qe e dd H8 (.inl ⟨e, hlo _ (.bad c c6' hl8), rfl⟩) he (((e5.trans e6).trans e7.nil).trans e8) hd⟩
    have hL8 := e8.at hL7 (fun z => Lr (List.mem_singleton.mp z))
    have fw := argR_fwd ts _ _ _ _ hl8
    refine ⟨L, us, v8, rfl, rfl, hL8, lt_of (by omega), ?_⟩
    have e9 : Fr [L] H8 (upd H8 L (.lst (us ++ [v8]))) := Fr.mut (List.mem_singleton.mpr rfl) hL8 nofix_lst
    have hR9 := hR8.frL e9 Lr Lq
    refine ⟨⟨ds ++ [d8], us ++ [v8], j8, rfl, hR9, hj8, upd_same, (tda_snoc4 (td6.fr (e7.nil.trans e8)) td8).fr e9, (((e5.trans e6).trans e7.nil).trans e8).over hLH, by rw [List.length_append]; simp; omega, fun d hd => ?_, fun res h => hlo res (.step c c6' hl8 h)⟩, ?_⟩
    ·rcases List.mem_append.mp hd with hd | hd
     ·exact hsh d hd
     ·rw [List.mem_singleton.mp hd]; exact argR_shape hl8
    ·rw [hR9.spot]
     omega
 | false =>
  refine g_ff rfl ?_
  repeat walk_at "rd"
  refine g_tupleL (SqL.of hL5) fun t ht => ?_
  have e7 : Fr [] H5 (upd H5 t (.tup us)) := Fr.new ht
  exact q _ j _ _ (.inr ⟨ds, j, hlo _ (.stop c), rfl⟩) hj5 (e5.trans e7.nil) (hR5.fr (M := []) e7) (.tup (SqT.of upd_same) (td5.fr e7))
end
abbrev s_Row_ini : Stmt := methS 31 0
theorem sc_Row_ini : FnScope ["self", "text", "mine", "plain"] ["self", "text", "mine", "plain"] (defScope s_Row_ini) := ⟨rfl, rfl, rfl, by decide +kernel, rfl, by decide +kernel, by decide +kernel⟩
def spRowI (K : PySem.W.Frag) (C B : Addr) : Sp := fun vs H Q E => ∃ (x : Addr) (z : Str) (m pl : Bool) (dx : Addr), vs = [.ref x, .str z, .bl m, .bl pl] ∧ H x = some (.ins C dx []) ∧ Tx 9000 z ∧ (∀ ts tq H', Cuts z 0 [] (.ok ts) → Fr [x] H H' → RowAt K C H' x tq ts 0 m pl → Q .non H') ∧
 ∀ n d H', Cuts z 0 [] (.error n) → Fr [x] H H' → H' d = some (.xd (badAt n)) → E (.ref B) (some d) H'
section
variable {P : Program} {w : World} {K : PySem.W.Frag} {mg : Str → Option Value} {base : Heap} {a_BadText C : Addr} {f : Addr} {fd : FuncData}
theorem ok_Row_ini (F : FnMd K "__init__" "Row.__init__" s_Row_ini [] [("mine", .bl false), ("plain", .bl true)] f fd) (R : RowC K C) (C_things_of : CalX P w K mg base 28 "things_of" (spThings a_BadText K)) : FnG P w K mg base (L2.CX P w) 30 f fd ["self", "text", "mine", "plain"] (spRowI K C a_BadText) := by
 refine okX F sc_Row_ini (fun vs H Q E h => ?_) (fun cdv A outer s H vs Q E hr h tk => ?_)
 ·obtain ⟨x, z, m, pl, dx, rfl, _⟩ := h
  rfl
 obtain ⟨x, z, m, pl, dx, rfl, hx, hz, q, qe⟩ := h
 refine ⟨_, (pss_cons (kSFld (K := K) rfl (ps_fld (pv 0) (pe_calX C_things_of tk hr rfl (pa_cons (pv 1) pa_nil)) (by rfl)))
 (pss_cons (kSFld (K := K) rfl (ps_fld (pv 0) pe_int (by rfl)))
 (pss_cons (kSFld (K := K) rfl (ps_fld (pv 0) (pv 2) (by rfl)))
 (pss_one (kSFld (K := K) rfl (ps_fld (pv 0) (pv 3) (by rfl))))))), rd_start (σ0 := [some (.ref x), some (.str z), some (.bl m), some (.bl pl)]) rfl ?_⟩
 repeat walk_at "rd"
 refine ⟨z, rfl, hz, fun ts p H1 hc e1 hp h1 => ?_, fun n d H1 hc e1 hd => qe n d H1 hc e1.nil hd⟩
 obtain ⟨us, u1, u2⟩ := h1
 have hx1 := e1.at hx (fun z => nomatch z)
 have px : p ≠ x := fun z => by rw [z, hx] at hp; cases hp
 repeat walk_at "rd"
 refine ⟨x, C, dx, _, rfl, hx1, R.cls, R.a1, (by decide), ?_⟩
 repeat walk_at "rd"
 refine ⟨x, C, dx, _, rfl, upd_same, R.cls, R.a2, Nat.le_of_ble_eq_true rfl, ?_⟩
 rw [upd_upd]
 repeat walk_at "rd"
 refine ⟨x, C, dx, _, rfl, upd_same, R.cls, R.a3, Nat.le_of_ble_eq_true rfl, ?_⟩
 rw [upd_upd]
 repeat walk_at "rd"
 refine ⟨x, C, dx, _, rfl, upd_same, R.cls, R.a4, Nat.le_of_ble_eq_true rfl, ?_⟩
 rw [upd_upd]
 have e2 : Fr [x] H1 (upd H1 x (.ins C dx (rowFs p 0 m pl))) := Fr.mut (List.mem_singleton.mpr rfl) hx1 (fun z => z)
 refine q ts p _ hc (e1.nil.trans e2) ⟨⟨dx, p, us, upd_same, e2.at u1 (fun z => px (List.mem_singleton.mp z)), u2.fr e2⟩, fun dx' p' i' m' pl' h' => ?_⟩
 rw [upd_same] at h'
 injection h' with h'
 injection h' with _ _ h'
 exact (rowFs_inj (i := 0) (m := m) (pl := pl) h').symm
end
theorem Cuts.len {z : Str} {n : Nat} {ts ts' : List Th} {r : Except Nat (List Th)} (h : Cuts z n ts r) (e : r = .ok ts') (hn : n ≤ z.length + 1) (hl : ts.length ≤ n) : ts'.length ≤ z.length + 2 := by
 induction h with
 | stop l => cases e; rw [List.length_append]; simp; omega
 | skip a b c ih => exact ih e (by omega) (by omega)
 | bad a b c => cases e
 | step a b c d ih =>
  have := nextT_lt c
  refine ih e (by omega) ?_
  rw [List.length_append]; simp; omega
theorem Cuts.goodTs {z : Str} {ts : List Th} (h : Cuts z 0 [] (.ok ts)) (hz : z.length ≤ 8999) : GoodTs ts := by
 obtain ⟨b, rfl, hb⟩ := Cuts.good h rfl (fun _ z => nomatch z)
 have hl := Cuts.len h rfl (by omega) (by simp)
 refine ⟨fun t ht => ?_, by rw [List.length_append]; simp, fun i t ht => ?_, by omega⟩
 ·rcases List.mem_append.mp ht with h1 | h1
  ·exact (hb t h1).1
  ·rw [List.mem_singleton.mp h1]; rfl
 ·rw [List.length_append]
  by_cases c : i < b.length
  ·rw [List.getElem?_append_left c] at ht
   refine ⟨fun e => absurd e (hb t (List.mem_of_getElem? ht)).2, fun e => ?_⟩
   simp at e
   omega
  ·rw [List.getElem?_append_right (by omega)] at ht
   have hi : i - b.length = 0 := by
    have := (List.getElem?_eq_some_iff.mp ht).1
    simp at this
    omega
   rw [hi] at ht
   obtain rfl : endT z = t := Option.some.inj ht
   refine ⟨fun _ => ?_, fun _ => rfl⟩
   simp
   omega
def EndR (ts : List Th) (d : PyData) (k : Nat) (r : Res) : Prop := if (tkn ts k).s = "end" then r = .ok (d, k) else r = .error k
def RuleR (ts : List Th) (r : Res) : Prop := if (tkn ts 0).s = "name" then (if isT ts 1 "sign" "(" = true then BindR (ArgsR ts) (fun d j r => if isT ts j "sign" ")" = true then
 (if isT ts (j + 1) "kept" "if" = true then BindR (PartsR ts false true 6) (fun d2 k r => EndR ts (.tuple [scD (tkn ts 0).v, d, d2]) k r) (j + 1 + 1) r else EndR ts (.tuple [scD (tkn ts 0).v, d, .tuple []]) (j + 1) r) else r = .error j) 2 r else r = .error 1) else r = .error 0
def QuestionR (ts : List Th) (r : Res) : Prop := BindR (ArgsR ts) (fun d j r => if isT ts j "kept" "if" = true then BindR (PartsR ts false false 8) (fun d2 k r => EndR ts (.tuple [d, d2]) k r) (j + 1) r else r = .error j) 0 r
def TestsR (ts : List Th) (r : Res) : Prop := if (tkn ts 0).s = "end" then r = .ok (.tuple [], 0) else BindR (SeqT ts (fun _ => TestR ts true) (fun _ => false)) (fun d k r => EndR ts d k r) 0 r
def ReadR (z : Str) (F : List Th → Res → Prop) (r : Except Nat PyData) : Prop := (∃ n, Cuts z 0 [] (.error n) ∧ r = .error n) ∨ ∃ ts, Cuts z 0 [] (.ok ts) ∧ ((∃ d j, F ts (.ok (d, j)) ∧ r = .ok d) ∨ ∃ e, F ts (.error e) ∧ r = .error (tkn ts e).n)
def spRead (K : PySem.W.Frag) (B : Addr) (F : List Th → Res → Prop) : Sp := fun vs H Q E => ∃ z : Str, vs = [.str z] ∧ Tx 8999 z ∧ (∀ d v H', ReadR z F (.ok d) → Fr [] H H' → Td K H' v d → Q v H') ∧ ∀ n dd H', ReadR z F (.error n) → Fr [] H H' → H' dd = some (.xd (badAt n)) → E (.ref B) (some dd) H'
abbrev s_read_rule : Stmt := topS 42
theorem sc_read_rule : FnScope ["text", "row", "head", "args", "parts"] ["text"] (defScope s_read_rule) := ⟨rfl, rfl, rfl, by decide +kernel, rfl, by decide +kernel, by decide +kernel⟩
abbrev s_read_question : Stmt := topS 43
theorem sc_read_question : FnScope ["text", "row", "args", "parts"] ["text"] (defScope s_read_question) := ⟨rfl, rfl, rfl, by decide +kernel, rfl, by decide +kernel, by decide +kernel⟩
abbrev s_read_tests : Stmt := topS 44
theorem sc_read_tests : FnScope ["text", "row", "found"] ["text"] (defScope s_read_tests) := ⟨rfl, rfl, rfl, by decide +kernel, rfl, by decide +kernel, by decide +kernel⟩
theorem Fr.made {H H' : Hp} {x dx C : Addr} {o : HO} (hx : H x = none) (hdx : H dx = none) (hne : dx ≠ x) (e : Fr [x] (upd (upd H dx o) x (.ins C dx [])) H') : Fr [] H H' := by
 have e1 : Fr [] H (upd H dx o) := Fr.new hdx
 have e2 : Fr [] (upd H dx o) (upd (upd H dx o) x (.ins C dx [])) := Fr.new (by rw [upd_ne (Ne.symm hne)]; exact hx)
 intro a u ha z
 refine e a u ((e1.trans e2) a u ha (.inl fun z => nomatch z)) (.inl fun hm => ?_)
 rw [List.mem_singleton.mp hm, hx] at ha
 cases ha
theorem Tx.mono2 {a b : Nat} {z : Str} (h : Tx a z) (l : a ≤ b) : Tx b z := ⟨Nat.le_trans h.len l, h.ok⟩
section
variable {P : Program} {w : World} {K : PySem.W.Frag} {mg : Str → Option Value} {base : Heap} {a_BadText a_TESTS a_FOLDS C : Addr} {f : Addr} {fd : FuncData}
theorem ok_read_rule (F : FnP K "read_rule" s_read_rule f fd) (G : GlR K mg a_TESTS a_FOLDS) (M : RowM P w K mg base C a_BadText) (N_Row : MkX P w K mg base 30 "Row" C 1 [] (fun vs zs => vs ++ [.bl false, .bl true]) (spRowI K C a_BadText))
  (C_read_args : CalX P w K mg base 10 "read_args" (spRd K C a_BadText fun ts _ _ => ArgsR ts)) (C_read_parts : CalX P w K mg base 54 "read_parts" (spParts K C a_BadText)) : FnG P w K mg base (L2.CX P w) 56 f fd ["text"] (spRead K a_BadText RuleR) := by
 refine okX F sc_read_rule (fun vs H Q E h => ?_) (fun cdv A outer s H vs Q E hr h tk => ?_)
 ·obtain ⟨z, rfl, _⟩ := h
  rfl
 obtain ⟨z, rfl, hz, q, qe⟩ := h
 have M_is_kept_1 := M.ik1
 have M_step_0 := M.st
 have M_need_name_0 := M.nn
 have M_need_sign_1 := M.ns
 have M_need_end_0 := M.ne
 obtain ⟨tM, g_MOST_PARTS⟩ := G.mp
 refine ⟨_, (pss_cons (ps_set (i := 1) sc_read_rule.nd rfl (.inl rfl) (pe_makeX N_Row tk hr rfl (pa_cons (pv 0) pa_nil) pk_nil))
 (pss_cons (ps_set (i := 2) sc_read_rule.nd rfl (.inl rfl) (pe_metX0 M_need_name_0 tk hr (pv 1)))
 (pss_cons (ps_expr (pe_metX M_need_sign_1 tk hr (pv 1) (pa_cons pe_str pa_nil)))
 (pss_cons (ps_set (i := 3) sc_read_rule.nd rfl (.inl rfl) (pe_calX C_read_args tk hr rfl (pa_cons (pv 1) pa_nil)))
 (pss_cons (ps_expr (pe_metX M_need_sign_1 tk hr (pv 1) (pa_cons pe_str pa_nil)))
 (pss_cons (ps_set (i := 4) sc_read_rule.nd rfl (.inl rfl) (pe_tup pa_nil))
 (pss_cons (ps_if (pt_val (pe_metG M_is_kept_1 hr (pv 1) (pa_cons pe_str pa_nil))) (pss_cons (ps_expr (pe_metG0 M_step_0 hr (pv 1)))
 (pss_one (ps_set (i := 4) sc_read_rule.nd rfl (.inl rfl) (pe_calX C_read_parts tk hr rfl (pa_cons (pv 1) (pa_cons (pe_glob (v := .int z_MOST_PARTS) rfl g_MOST_PARTS ⟨_, rfl⟩) pa_nil)))))) pss_nil)
 (pss_cons (ps_expr (pe_metX0 M_need_end_0 tk hr (pv 1)))
 (pss_one (ps_ret (pe_tup (pa_cons (pv 2) (pa_cons (pv 3) (pa_cons (pv 4) pa_nil)))))))))))))), rd_start (σ0 := [some (.str z), none, none, none, none]) rfl ?_⟩
 repeat walk_at "rd"
 refine ⟨rfl, rfl, fun r dx hx hdx hne => ⟨r, z, false, true, dx, rfl, upd_same, hz.mono2 (by omega), fun ts tq H1 hc e1 hR => ⟨rfl, ?_⟩, fun n d H1 hc e1 hd => qe n d H1 (.inl ⟨n, hc, rfl⟩) (Fr.made hx hdx hne e1) hd⟩⟩
 have e0 := Fr.made hx hdx hne e1
 have g := hc.goodTs hz.len
 have bad : ∀ {i dd H'}, RuleR ts (.error i) → Fr [r] H1 H' → H' dd = some (.xd (badAt (tkn ts i).n)) → E (.ref a_BadText) (some dd) H' := fun h e2 hd => qe _ _ _ (.inr ⟨ts, hc, .inr ⟨_, h, rfl⟩⟩) (Fr.made hx hdx hne (e1.trans e2)) hd
 have good : ∀ {d j v H'}, RuleR ts (.ok (d, j)) → Fr [r] H1 H' → Td K H' v d → Q v H' := fun h e2 hd => q _ _ _ (.inr ⟨ts, hc, .inl ⟨_, _, h, rfl⟩⟩) (Fr.made hx hdx hne (e1.trans e2)) hd
 have h0 := g.ne
 repeat walk_at "rd"
 refine m_nn rfl hR g h0 (fun H2 c2 e2 hR2 => ?_) (fun dd H2 c2 e2 hd => bad (by unfold RuleR; rw [if_neg c2]) e2.nil hd)
 have h1 := g.next h0 (by rw [c2]; decide +kernel)
 repeat walk_at "rd"
 refine m_ns rfl (by decide +kernel) hR2 g h1 (fun H3 c3 e3 hR3 => ?_) (fun dd H3 c3 e3 hd => bad (by unfold RuleR; rw [if_pos c2, if_neg (by rw [c3]; exact Bool.false_ne_true)]) (e2.trans e3.nil) hd)
 have h2 := g.next h1 (by rw [(isT_s c3 h1).1]; decide +kernel)
 have lo : ∀ {r}, BindR (ArgsR ts) (fun d j r => if isT ts j "sign" ")" = true then
 (if isT ts (j + 1) "kept" "if" = true then BindR (PartsR ts false true 6) (fun d2 k r => EndR ts (.tuple [scD (tkn ts 0).v, d, d2]) k r) (j + 1 + 1) r else EndR ts (.tuple [scD (tkn ts 0).v, d, .tuple []]) (j + 1) r) else r = .error j) 2 r → RuleR ts r := fun h => by unfold RuleR; rw [if_pos c2, if_pos c3]; exact h
 repeat walk_at "rd"
 refine ⟨r, tq, ts, 2, false, true, rfl, hR3, g, h2, fun da j va H4 ha hj e4 hR4 tda => ?_, fun e dd H4 ha he e4 hd => bad (lo (.inl ⟨e, ha, rfl⟩)) ((e2.trans e3).trans e4) hd⟩
 have lo2 : ∀ {r}, _ → RuleR ts r := fun h => lo (.inr ⟨da, j, ha, h⟩)
 repeat walk_at "rd"
 refine m_ns rfl (by decide +kernel) hR4 g hj (fun H5 c5 e5 hR5 => ?_) (fun dd H5 c5 e5 hd => bad (lo2 (Eq.mpr (if_neg (by rw [c5]; exact Bool.false_ne_true)) rfl)) (((e2.trans e3).trans e4).trans e5.nil) hd)
 have hj1 := g.next hj (by rw [(isT_s c5 hj).1]; decide +kernel)
 have lo3 : ∀ {r}, _ → RuleR ts r := fun h => lo2 (Eq.mpr (if_pos c5) h)
 have e15 := ((e2.trans e3).trans e4).trans e5
 have td5 := tda.fr e5
 repeat walk_at "rd"
 refine ⟨le_of (by simp), fun t0 ht0 => ?_⟩
 have e6 : Fr [] H5 (upd H5 t0 (.tup [])) := Fr.new ht0
 have s6 : SqT K (upd H5 t0 (.tup [])) t0 [] := SqT.of upd_same
 have hR6 := hR5.fr (M := []) e6
 have e16 := e15.trans e6.nil
 have td6 := td5.fr e6
 generalize upd H5 t0 (.tup []) = H6 at *
 repeat walk_at "rdif"
 try dsimp only
 with_reducible refine g_cutS (fun σ' H' => ∃ d2 v2 k, σ' = [some (.str z), some (.ref r), some (tkn ts 0).v, some va, some v2] ∧ RowAt K C H' r tq ts k false true ∧ k < ts.length ∧ Td K H' va da ∧ Td K H' v2 d2 ∧ Fr [r] H1 H' ∧ ∀ res, EndR ts (.tuple [scD (tkn ts 0).v, da, d2]) k res → RuleR ts res) (fun σ' H' h => ?_) (fun N k => ?_)
 ·obtain ⟨d2, v2, k, rfl, hR7, hk, t7, t8, e7, hlo⟩ := h
  repeat walk_at "rd"
  refine m_ne rfl hR7 g hk (fun H8 c8 e8 => ?_) (fun dd H8 c8 e8 hd => bad (hlo _ (by unfold EndR; rw [if_neg c8])) (e7.trans e8.nil) hd)
  repeat walk_at "rd"
  refine ⟨le_of (by simp), fun t ht => ?_⟩
  have e9 := Fr.new (M := []) (o := .tup [(tkn ts 0).v, va, v2]) ht
  exact good (hlo _ (by unfold EndR; rw [if_pos c8])) ((e7.trans e8.nil).trans e9.nil) (.tup (SqT.of upd_same) (.cons (sc_td (g_sc g h0)) (.cons (t7.fr (e8.trans e9)) (.cons (t8.fr (e8.trans e9)) .nil))))
 ·repeat walk_at "rd"
  refine g_byB (fun c7 => ?_) (fun c7 => ?_)
  ·have hn7 := g.next hj1 (by rw [(isT_s c7 hj1).1]; decide +kernel)
   repeat walk_at "rd"
   refine m_st rfl hR6 g hj1 fun H7 e7 hR7 => ?_
   repeat walk_at "rd"
   refine ⟨r, tq, 6, ts, j + 1 + 1, false, true, rfl, by decide, by decide, hR7, g, hn7, fun d2 k2 v2 H8 h8 hk2 e8 hR8 t8 => ?_, fun e dd H8 h8 he e8 hd => bad (lo3 (Eq.mpr (if_pos c7) (.inl ⟨e, h8, rfl⟩))) ((e16.trans e7).trans e8) hd⟩
   repeat walk_at "rd"
   exact k _ _ ⟨d2, v2, k2, rfl, hR8, hk2, td6.fr (e7.trans e8), t8, (e16.trans e7).trans e8, fun res h => lo3 (Eq.mpr (if_pos c7) (.inr ⟨d2, k2, h8, h⟩))⟩
  ·repeat walk_at "rd"
   exact k _ _ ⟨.tuple [], .ref t0, j + 1, rfl, hR6, hj1, td6, .tup s6 .nil, e16, fun res h => lo3 (Eq.mpr (if_neg (by rw [c7]; exact Bool.false_ne_true)) h)⟩
end
section
variable {P : Program} {w : World} {K : PySem.W.Frag} {mg : Str → Option Value} {base : Heap} {a_BadText a_TESTS a_FOLDS C : Addr} {f : Addr} {fd : FuncData}
theorem ok_read_question (F : FnP K "read_question" s_read_question f fd) (G : GlR K mg a_TESTS a_FOLDS) (M : RowM P w K mg base C a_BadText) (N_RowPlain : MkX P w K mg base 30 "Row" C 1 ["plain"] (fun vs zs => vs ++ (.bl false :: zs)) (spRowI K C a_BadText))
  (C_read_args : CalX P w K mg base 10 "read_args" (spRd K C a_BadText fun ts _ _ => ArgsR ts)) (C_read_parts : CalX P w K mg base 54 "read_parts" (spParts K C a_BadText)) : FnG P w K mg base (L2.CX P w) 56 f fd ["text"] (spRead K a_BadText QuestionR) := by
 refine okX F sc_read_question (fun vs H Q E h => ?_) (fun cdv A outer s H vs Q E hr h tk => ?_)
 ·obtain ⟨z, rfl, _⟩ := h
  rfl
 obtain ⟨z, rfl, hz, q, qe⟩ := h
 have M_is_kept_1 := M.ik1
 have M_step_0 := M.st
 have M_wrong_0 := M.wr
 have M_need_end_0 := M.ne
 obtain ⟨tM, g_MOST_ASKED⟩ := G.ma
 refine ⟨_, (pss_cons (ps_set (i := 1) sc_read_question.nd rfl (.inl rfl) (pe_makeX N_RowPlain tk hr rfl (pa_cons (pv 0) pa_nil) (pk_cons pe_bl pk_nil)))
 (pss_cons (ps_set (i := 2) sc_read_question.nd rfl (.inl rfl) (pe_calX C_read_args tk hr rfl (pa_cons (pv 1) pa_nil)))
 (pss_cons (ps_if (pt_not (pt_val (pe_metG M_is_kept_1 hr (pv 1) (pa_cons pe_str pa_nil)))) (pss_one (ps_expr (pe_metX0 M_wrong_0 tk hr (pv 1)))) pss_nil)
 (pss_cons (ps_expr (pe_metG0 M_step_0 hr (pv 1)))
 (pss_cons (ps_set (i := 3) sc_read_question.nd rfl (.inl rfl) (pe_calX C_read_parts tk hr rfl (pa_cons (pv 1) (pa_cons (pe_glob (v := .int z_MOST_ASKED) rfl g_MOST_ASKED ⟨_, rfl⟩) pa_nil))))
 (pss_cons (ps_expr (pe_metX0 M_need_end_0 tk hr (pv 1)))
 (pss_one (ps_ret (pe_tup (pa_cons (pv 2) (pa_cons (pv 3) pa_nil))))))))))), rd_start (σ0 := [some (.str z), none, none, none]) rfl ?_⟩
 repeat walk_at "rd"
 refine ⟨rfl, rfl, fun r dx hx hdx hne => ⟨r, z, false, false, dx, rfl, upd_same, hz.mono2 (by omega), fun ts tq H1 hc e1 hR => ⟨rfl, ?_⟩, fun n d H1 hc e1 hd => qe n d H1 (.inl ⟨n, hc, rfl⟩) (Fr.made hx hdx hne e1) hd⟩⟩
 have e0 := Fr.made hx hdx hne e1
 have g := hc.goodTs hz.len
 have bad : ∀ {i dd H'}, QuestionR ts (.error i) → Fr [r] H1 H' → H' dd = some (.xd (badAt (tkn ts i).n)) → E (.ref a_BadText) (some dd) H' := fun h e2 hd => qe _ _ _ (.inr ⟨ts, hc, .inr ⟨_, h, rfl⟩⟩) (Fr.made hx hdx hne (e1.trans e2)) hd
 have good : ∀ {d j v H'}, QuestionR ts (.ok (d, j)) → Fr [r] H1 H' → Td K H' v d → Q v H' := fun h e2 hd => q _ _ _ (.inr ⟨ts, hc, .inl ⟨_, _, h, rfl⟩⟩) (Fr.made hx hdx hne (e1.trans e2)) hd
 have h0 := g.ne
 repeat walk_at "rd"
 refine ⟨r, tq, ts, 0, false, false, rfl, hR, g, h0, fun da j va H4 ha hj e4 hR4 tda => ?_, fun e dd H4 ha he e4 hd => bad (.inl ⟨e, ha, rfl⟩) e4 hd⟩
 have lo2 : ∀ {r}, _ → QuestionR ts r := fun h => .inr ⟨da, j, ha, h⟩
 repeat walk_at "rdif"
 try dsimp only
 with_reducible refine g_cutS (fun σ' H' => σ' = [some (.str z), some (.ref r), some va, none] ∧ isT ts j "kept" "if" = true ∧ H4 = H') (fun σ' H' h => ?_) (fun N k => ?_)
 ·obtain ⟨rfl, c5, rfl⟩ := h
  have lo3 : ∀ {r}, _ → QuestionR ts r := fun h => lo2 (Eq.mpr (if_pos c5) h)
  have hj1 := g.next hj (by rw [(isT_s c5 hj).1]; decide +kernel)
  repeat walk_at "rd"
  refine m_st rfl hR4 g hj fun H5 e5 hR5 => ?_
  repeat walk_at "rd"
  refine ⟨r, tq, 8, ts, j + 1, false, false, rfl, by decide, by decide, hR5, g, hj1, fun d2 k2 v2 H8 h8 hk2 e8 hR8 t8 => ?_, fun e dd H8 h8 he e8 hd => bad (lo3 (.inl ⟨e, h8, rfl⟩)) ((e4.trans e5).trans e8) hd⟩
  have lo4 : ∀ {r}, _ → QuestionR ts r := fun h => lo3 (.inr ⟨d2, k2, h8, h⟩)
  repeat walk_at "rd"
  refine m_ne rfl hR8 g hk2 (fun H9 c9 e9 => ?_) (fun dd H9 c9 e9 hd => bad (lo4 (Eq.mpr (if_neg c9) rfl)) (((e4.trans e5).trans e8).trans e9.nil) hd)
  repeat walk_at "rd"
  refine ⟨le_of (by simp), fun t ht => ?_⟩
  have ex := Fr.new (M := []) (o := .tup [va, v2]) ht
  exact good (lo4 (Eq.mpr (if_pos c9) rfl)) ((((e4.trans e5).trans e8).trans e9.nil).trans ex.nil) (.tup (SqT.of upd_same) (.cons (tda.fr (((e5.trans e8).trans e9.nil).trans ex.nil)) (.cons (t8.fr (e9.trans ex)) .nil)))
 ·repeat walk_at "rd"
  cases c5 : isT ts j "kept" "if" with
  | true =>
   repeat walk_at "rd"
   exact k _ _ ⟨rfl, c5, rfl⟩
  | false =>
   repeat walk_at "rd"
   exact m_wr rfl hR4 g hj fun dd H' e hd => bad (lo2 (Eq.mpr (if_neg (by rw [c5]; exact Bool.false_ne_true)) rfl)) (e4.trans e.nil) hd
theorem ok_read_tests (F : FnP K "read_tests" s_read_tests f fd) (B : BiR2 mg) (M : RowM P w K mg base C a_BadText) (N_RowMine : MkX P w K mg base 30 "Row" C 1 ["mine"] (fun vs zs => vs ++ (zs ++ [.bl true])) (spRowI K C a_BadText))
  (C_read_test : CalX P w K mg base 50 "read_test" (spRd K C a_BadText fun ts m _ => TestR ts m)) : FnG P w K mg base (L2.CX P w) 56 f fd ["text"] (spRead K a_BadText TestsR) := by
 refine okX F sc_read_tests (fun vs H Q E h => ?_) (fun cdv A outer s H vs Q E hr h tk => ?_)
 ·obtain ⟨z, rfl, _⟩ := h
  rfl
 obtain ⟨z, rfl, hz, q, qe⟩ := h
 have M_sort_here_0 := M.sh0
 have M_is_sign_1 := M.is1
 have M_step_0 := M.st
 have M_need_end_0 := M.ne
 refine ⟨_, (pss_cons (ps_set (i := 1) sc_read_tests.nd rfl (.inl rfl) (pe_makeX N_RowMine tk hr rfl (pa_cons (pv 0) pa_nil) (pk_cons pe_bl pk_nil)))
 (pss_cons (ps_if (pt_cmpR (kOp (K := K) (r := uEq) rfl (opu_eq hr.units)) (pe_metG0 M_sort_here_0 hr (pv 1)) pe_str (nomark _)) (pss_one (ps_ret (pe_tup pa_nil))) pss_nil)
 (pss_cons (ps_set (i := 2) sc_read_tests.nd rfl (.inl rfl) (pe_lst (pa_cons (pe_calX C_read_test tk hr rfl (pa_cons (pv 1) pa_nil)) pa_nil)))
 (pss_cons (ps_while (L2.passes_of rfl) (pt_val (pe_metG M_is_sign_1 hr (pv 1) (pa_cons pe_str pa_nil))) (pss_cons (ps_expr (pe_metG0 M_step_0 hr (pv 1)))
 (pss_one (ps_expr (kBM (K := K) rfl (pe_bm PySem.F.plainAttrs_list PySem.F.slot_list_append PySem.F.type_list_append mt_append (pv 2) (pa_cons (pe_calX C_read_test tk hr rfl (pa_cons (pv 1) pa_nil)) pa_nil)))))))
 (pss_cons (ps_expr (pe_metX0 M_need_end_0 tk hr (pv 1)))
 (pss_one (ps_ret (pe_callTy (kCall (K := K) (r := uTuple) rfl callu_tuple) (by rfl) B.b_tuple (by decide +kernel) (pa_cons (pv 2) pa_nil))))))))), rd_start (σ0 := [some (.str z), none, none]) rfl ?_⟩
 repeat walk_at "rd"
 refine ⟨rfl, rfl, fun r dx hx hdx hne => ⟨r, z, true, true, dx, rfl, upd_same, hz.mono2 (by omega), fun ts tq H1 hc e1 hR => ⟨rfl, ?_⟩, fun n d H1 hc e1 hd => qe n d H1 (.inl ⟨n, hc, rfl⟩) (Fr.made hx hdx hne e1) hd⟩⟩
 have e0 := Fr.made hx hdx hne e1
 have g := hc.goodTs hz.len
 have bad : ∀ {i dd H'}, TestsR ts (.error i) → Fr [r] H1 H' → H' dd = some (.xd (badAt (tkn ts i).n)) → E (.ref a_BadText) (some dd) H' := fun h e2 hd => qe _ _ _ (.inr ⟨ts, hc, .inr ⟨_, h, rfl⟩⟩) (Fr.made hx hdx hne (e1.trans e2)) hd
 have good : ∀ {d j v H'}, TestsR ts (.ok (d, j)) → Fr [r] H1 H' → Td K H' v d → Q v H' := fun h e2 hd => q _ _ _ (.inr ⟨ts, hc, .inl ⟨_, _, h, rfl⟩⟩) (Fr.made hx hdx hne (e1.trans e2)) hd
 have h0 := g.ne
 have gz := g.sz
 repeat walk_at "rd"
 refine g_by (fun c0 => ?_) (fun c0 => ?_)
 ·repeat walk_at "rd"
  refine ⟨le_of (by simp), fun t ht => ?_⟩
  have ex := Fr.new (M := []) (o := .tup []) ht
  exact good (j := 0) (Eq.mpr (if_pos c0) rfl) ex.nil (.tup (SqT.of upd_same) .nil)
 have lo2 : ∀ {r}, _ → TestsR ts r := fun h => Eq.mpr (if_neg c0) h
 repeat walk_at "rd"
 refine ⟨r, tq, ts, 0, true, true, rfl, hR, g, h0, fun d0 j0 v0 H3 hl hj e3 hR3 td => ?_, fun e dd H3 hl he e3 hd => bad (lo2 (.inl ⟨e, .inl ⟨e, .inl ⟨e, hl, rfl⟩, rfl⟩, rfl⟩)) e3 hd⟩
 repeat walk_at "rd"
 refine ⟨le_of (by simp), fun L hL => ?_⟩
 have e4 : Fr [] H3 (upd H3 L (.lst [v0])) := Fr.new hL
 obtain ⟨Lr, Lq⟩ := hR3.off hL
 have hLH : H1 L = none := e3.back (fun z => Lr (List.mem_singleton.mp z)) hL
 have fw0 := testR_fwd ts true _ _ _ hl
 repeat walk_at "rd"
 refine g_while2 (fun σ H' => ∃ ds us j, σ = [some (.str z), some (.ref r), some (.ref L)] ∧ RowAt K C H' r tq ts j true true ∧ j < ts.length ∧ H' L = some (.lst us) ∧ TdAll K H' us ds ∧ Fr [r] H1 H' ∧ ds.length ≤ j ∧ ∀ res, ManyR ts (fun _ => TestR ts true) (fun _ => false) ds j res → SeqR ts (fun _ => TestR ts true) (fun _ => false) 0 res) (fun _ H' => spotOf r ts.length H')
  ⟨[d0], [v0], j0, rfl, hR3.fr (M := []) e4, hj, upd_same, .cons (td.fr e4) .nil, e3.trans e4.nil, by simp; omega, fun res h => .inr ⟨d0, j0, hl, h⟩⟩ (fun σ H5 h => ?_)
 obtain ⟨ds, us, j, rfl, hR5, hj5, hL5, td5, e5, hdl, hlo⟩ := h
 have ul := tda_len5 td5
 repeat walk_at "rd"
 cases c : isT ts j "sign" "," with
 | true =>
  refine g_tt rfl ?_
  refine g_wt ?_
  rw [hR5.spot]
  have hn6 := g.next hj5 (by rw [(isT_s c hj5).1]; decide +kernel)
  repeat walk_at "rd"
  refine m_st rfl hR5 g hj5 fun H6 e6 hR6 => ?_
  have hL6 := e6.at hL5 (fun z => Lr (List.mem_singleton.mp z))
  repeat walk_at "rd"
  refine ⟨r, tq, ts, j + 1, true, true, rfl, hR6, g, hn6, fun d7 j7 v7 H7 hl7 hj7 e7 hR7 td7 => ?_, fun e dd H7 hl7 he e7 hd => bad (lo2 (.inl ⟨e, .inl ⟨e, hlo _ (.bad c rfl hl7), rfl⟩, rfl⟩)) ((e5.trans e6).trans e7) hd⟩
  have hL7 := e7.at hL6 (fun z => Lr (List.mem_singleton.mp z))
  have fw := testR_fwd ts true _ _ _ hl7
  refine ⟨L, us, v7, rfl, rfl, hL7, lt_of (by omega), ?_⟩
  have e8 : Fr [L] H7 (upd H7 L (.lst (us ++ [v7]))) := Fr.mut (List.mem_singleton.mpr rfl) hL7 nofix_lst
  have hR8 := hR7.frL e8 Lr Lq
  refine ⟨⟨ds ++ [d7], us ++ [v7], j7, rfl, hR8, hj7, upd_same, (tda_snoc4 (td5.fr (e6.trans e7)) td7).fr e8, ((e5.trans e6).trans e7).over hLH, by rw [List.length_append]; simp; omega, fun res h => hlo res (.step c rfl hl7 h)⟩, ?_⟩
  rw [hR8.spot]
  omega
 | false =>
  refine g_ff rfl ?_
  have lo3 : ∀ {r}, _ → TestsR ts r := fun h => lo2 (.inr ⟨.tuple ds, j, .inr ⟨ds, j, hlo _ (.stop c), rfl⟩, h⟩)
  repeat walk_at "rd"
  refine m_ne rfl hR5 g hj5 (fun H9 c9 e9 => ?_) (fun dd H9 c9 e9 hd => bad (lo3 (Eq.mpr (if_neg c9) rfl)) (e5.trans e9.nil) hd)
  have hL9 := e9.at hL5 (fun z => nomatch z)
  repeat walk_at "rd"
  refine g_tupleL (SqL.of hL9) fun t ht => ?_
  have e7 : Fr [] H9 (upd H9 t (.tup us)) := Fr.new ht
  exact good (lo3 (Eq.mpr (if_pos c9) rfl)) ((e5.trans e9.nil).trans e7.nil) (.tup (SqT.of upd_same) (td5.fr (e9.trans e7)))
end
def Det {α : Type} (lf : Nat → α → Prop) : Prop := ∀ i r r', lf i r → lf i r' → r = r'
theorem LoopR.det {ts : List Th} {sg : List Str} {lf : Nat → Res → Prop} (hf : Det lf) {d : PyData} {i : Nat} {r r' : Res} (h : LoopR ts sg lf d i r) (h' : LoopR ts sg lf d i r') : r = r' := by
 have one : ∀ {i : Nat} {s s' : Str}, isT ts i "sign" s = true → isT ts i "sign" s' = true → s = s' := fun h h' => by
  unfold isT at h h'
  have a := of_decide_eq_true (Bool.and_eq_true_iff.mp h).2
  have b := of_decide_eq_true (Bool.and_eq_true_iff.mp h').2
  rw [a] at b
  injection b
 induction h generalizing r' with
 | stop a =>
  cases h' with
  | stop _ => rfl
  | bad hs hi _ => rw [a _ hs] at hi; cases hi
  | step hs hi _ _ => rw [a _ hs] at hi; cases hi
 | bad hs hi hl =>
  cases h' with
  | stop a => rw [a _ hs] at hi; cases hi
  | bad hs' hi' hl' => exact hf _ _ _ hl hl'
  | step hs' hi' hl' _ => exact absurd (hf _ _ _ hl hl') (fun z => nomatch z)
 | step hs hi hl hr ih =>
  cases h' with
  | stop a => rw [a _ hs] at hi; cases hi
  | bad hs' hi' hl' => exact absurd (hf _ _ _ hl hl') (fun z => nomatch z)
  | step hs' hi' hl' hr' =>
   have e := hf _ _ _ hl hl'
   cases e
   cases one hi hi'
   exact ih hr'
theorem ChainR.det {ts : List Th} {sg : List Str} {lf : Nat → Res → Prop} (hf : Det lf) : Det (ChainR ts sg lf) := fun i r r' h h' => by
 rcases h with ⟨e, h1, rfl⟩ | ⟨d, j, h1, h2⟩
 ·rcases h' with ⟨e', h1', rfl⟩ | ⟨d', j', h1', h2'⟩
  ·exact hf _ _ _ h1 h1'
  ·exact absurd (hf _ _ _ h1 h1') (fun z => nomatch z)
 ·rcases h' with ⟨e', h1', rfl⟩ | ⟨d', j', h1', h2'⟩
  ·exact absurd (hf _ _ _ h1 h1') (fun z => nomatch z)
  ·cases hf _ _ _ h1 h1'
   exact h2.det hf h2'
theorem BindR.det {A : Nat → Res → Prop} {k : PyData → Nat → Res → Prop} (hA : Det A) (hk : ∀ d j r r', k d j r → k d j r' → r = r') : Det (BindR A k) := fun i r r' h h' => by
 rcases h with ⟨e, h1, rfl⟩ | ⟨d, j, h1, h2⟩
 ·rcases h' with ⟨e', h1', rfl⟩ | ⟨d', j', h1', h2'⟩
  ·exact hA _ _ _ h1 h1'
  ·exact absurd (hA _ _ _ h1 h1') (fun z => nomatch z)
 ·rcases h' with ⟨e', h1', rfl⟩ | ⟨d', j', h1', h2'⟩
  ·exact absurd (hA _ _ _ h1 h1') (fun z => nomatch z)
  ·cases hA _ _ _ h1 h1'
   exact hk _ _ _ _ h2 h2'
theorem LeafR.det {ts : List Th} {m ok : Bool} {rc : Nat → Res → Prop} (hf : Det rc) : Det (LeafR ts m ok rc) := fun i r r' h h' => by
 unfold LeafR at h h'
 split at h
 ·rename_i c; rw [if_pos c] at h'; rw [h, h']
 ·rename_i c
  rw [if_neg c] at h'
  split at h
  ·rename_i c; rw [if_pos c] at h'; rw [h, h']
  ·rename_i c
   rw [if_neg c] at h'
   split at h
   ·rename_i c; rw [if_pos c] at h'; rw [h, h']
   ·rename_i c
    rw [if_neg c] at h'
    rcases h with ⟨e, h1, rfl⟩ | ⟨d, j, h1, rfl⟩
    ·rcases h' with ⟨e', h1', rfl⟩ | ⟨d', j', h1', rfl⟩
     ·exact hf _ _ _ h1 h1'
     ·exact absurd (hf _ _ _ h1 h1') (fun z => nomatch z)
    ·rcases h' with ⟨e', h1', rfl⟩ | ⟨d', j', h1', rfl⟩
     ·exact absurd (hf _ _ _ h1 h1') (fun z => nomatch z)
     ·cases hf _ _ _ h1 h1'
      rfl
theorem SumN.det (ts : List Th) (m : Bool) : ∀ n, Det (SumN ts m n)
 | 0 => ChainR.det (ChainR.det (LeafR.det fun _ _ _ h => h.elim))
 | n + 1 => ChainR.det (ChainR.det (LeafR.det (SumN.det ts m n)))
theorem TestR.det (ts : List Th) (m : Bool) : Det (TestR ts m) := BindR.det (SumN.det ts m 12) fun d j r r' h h' => by
 split at h
 ·rename_i c
  rw [if_pos c] at h'
  exact BindR.det (SumN.det ts m 12) (fun d j r r' h h' => h.trans h'.symm) _ _ _ h h'
 ·rename_i c
  rw [if_neg c] at h'
  exact h.trans h'.symm
theorem TermR.det (ts : List Th) : Det (TermR ts) := fun i r r' h h' => by
 unfold TermR at h h'
 repeat' (split at h)
 all_goals (simp only [*, if_true, if_false, ite_true, ite_false] at h'; rw [h]; first | (exact h'.symm) | (rw [h']))
theorem ManyR.det {ts : List Th} {item : List PyData → Nat → Res → Prop} {full : List PyData → Bool} (hf : ∀ ds, Det (item ds)) {ds : List PyData} {i : Nat} {r r' : ResL} (h : ManyR ts item full ds i r) (h' : ManyR ts item full ds i r') : r = r' := by
 induction h generalizing r' with
 | stop a =>
  cases h' with
  | stop _ => rfl
  | full b => rw [a] at b; cases b
  | bad b => rw [a] at b; cases b
  | step b => rw [a] at b; cases b
 | full a b =>
  cases h' with
  | stop c => rw [a] at c; cases c
  | full _ _ => rfl
  | bad _ c => rw [b] at c; cases c
  | step _ c => rw [b] at c; cases c
 | bad a b c =>
  cases h' with
  | stop d => rw [a] at d; cases d
  | full _ d => rw [b] at d; cases d
  | bad _ _ d =>
   have := hf _ _ _ _ c d
   cases this
   rfl
  | step _ _ d => exact absurd (hf _ _ _ _ c d) (fun z => nomatch z)
 | step a b c d ih =>
  cases h' with
  | stop e => rw [a] at e; cases e
  | full _ e => rw [b] at e; cases e
  | bad _ _ e => exact absurd (hf _ _ _ _ c e) (fun z => nomatch z)
  | step _ _ e f =>
   cases hf _ _ _ _ c e
   exact ih f
theorem SeqR.det {ts : List Th} {item : List PyData → Nat → Res → Prop} {full : List PyData → Bool} (hf : ∀ ds, Det (item ds)) : Det (SeqR ts item full) := fun i r r' h h' => by
 rcases h with ⟨e, h1, rfl⟩ | ⟨d, j, h1, h2⟩
 ·rcases h' with ⟨e', h1', rfl⟩ | ⟨d', j', h1', h2'⟩
  ·have := hf _ _ _ _ h1 h1'
   cases this
   rfl
  ·exact absurd (hf _ _ _ _ h1 h1') (fun z => nomatch z)
 ·rcases h' with ⟨e', h1', rfl⟩ | ⟨d', j', h1', h2'⟩
  ·exact absurd (hf _ _ _ _ h1 h1') (fun z => nomatch z)
  ·cases hf _ _ _ _ h1 h1'
   exact h2.det hf h2'
theorem SeqT.det {ts : List Th} {item : List PyData → Nat → Res → Prop} {full : List PyData → Bool} (hf : ∀ ds, Det (item ds)) : Det (SeqT ts item full) := fun i r r' h h' => by
 rcases h with ⟨e, h1, rfl⟩ | ⟨d, j, h1, rfl⟩
 ·rcases h' with ⟨e', h1', rfl⟩ | ⟨d', j', h1', rfl⟩
  ·cases SeqR.det hf _ _ _ h1 h1'
   rfl
  ·exact absurd (SeqR.det hf _ _ _ h1 h1') (fun z => nomatch z)
 ·rcases h' with ⟨e', h1', rfl⟩ | ⟨d', j', h1', rfl⟩
  ·exact absurd (SeqR.det hf _ _ _ h1 h1') (fun z => nomatch z)
  ·cases SeqR.det hf _ _ _ h1 h1'
   rfl
theorem AtomR.det (ts : List Th) (pl : Bool) (x : Str) : Det (AtomR ts pl x) := fun i r r' h h' => by
 unfold AtomR at h h'
 split at h
 ·rename_i c; rw [if_pos c] at h'; rw [h, h']
 ·rename_i c
  rw [if_neg c] at h'
  split at h
  ·rename_i c; rw [if_pos c] at h'; rw [h, h']
  ·rename_i c
   rw [if_neg c] at h'
   have dt := SeqR.det (ts := ts) (item := fun _ => TermR ts) (full := fun ds => decide (ds.length = 4)) fun _ => TermR.det ts
   rcases h with ⟨e, h1, rfl⟩ | ⟨d, j, h1, rfl⟩
   ·rcases h' with ⟨e', h1', rfl⟩ | ⟨d', j', h1', rfl⟩
    ·cases dt _ _ _ h1 h1'
     rfl
    ·exact absurd (dt _ _ _ h1 h1') (fun z => nomatch z)
   ·rcases h' with ⟨e', h1', rfl⟩ | ⟨d', j', h1', rfl⟩
    ·exact absurd (dt _ _ _ h1 h1') (fun z => nomatch z)
    ·cases dt _ _ _ h1 h1'
     rfl
theorem PartR.det (ts : List Th) (m pl : Bool) : Det (PartR ts m pl) := fun i r r' h h' => by
 unfold PartR at h h'
 split at h
 ·rename_i c; rw [if_pos c] at h'; exact AtomR.det ts pl _ _ _ _ h h'
 ·rename_i c
  rw [if_neg c] at h'
  split at h
  ·rename_i c; rw [if_pos c] at h'; exact AtomR.det ts pl _ _ _ _ h h'
  ·rename_i c
   rw [if_neg c] at h'
   split at h
   ·rename_i c; rw [if_pos c] at h'; exact BindR.det (SumN.det ts m 12) (fun d j r r' h h' => h.trans h'.symm) _ _ _ h h'
   ·rename_i c; rw [if_neg c] at h'; exact TestR.det ts m _ _ _ h h'
theorem ArgR.det (ts : List Th) (b : Bool) : Det (ArgR ts b) := fun i r r' h h' => by
 unfold ArgR at h h'
 split at h
 ·rename_i c; rw [if_pos c] at h'; rw [h, h']
 ·rename_i c
  rw [if_neg c] at h'
  split at h
  ·rename_i c
   rw [if_pos c] at h'
   split at h
   ·rename_i c; rw [if_pos c] at h'; rw [h, h']
   ·rename_i c; rw [if_neg c] at h'; rw [h, h']
  ·rename_i c
   rw [if_neg c] at h'
   split at h
   ·rename_i c; rw [if_pos c] at h'; rw [h, h']
   ·rename_i c
    rw [if_neg c] at h'
    split at h
    ·rename_i c; rw [if_pos c] at h'; rw [h, h']
    ·rename_i c
     rw [if_neg c] at h'
     split at h
     ·rename_i c; rw [if_pos c] at h'; rw [h, h']
     ·rename_i c; rw [if_neg c] at h'; rw [h, h']
theorem EndR.det {ts : List Th} {d : PyData} {k : Nat} {r r' : Res} (h : EndR ts d k r) (h' : EndR ts d k r') : r = r' := by
 unfold EndR at h h'
 split at h
 ·rename_i c; rw [if_pos c] at h'; rw [h, h']
 ·rename_i c; rw [if_neg c] at h'; rw [h, h']
theorem ArgsR.det (ts : List Th) : Det (ArgsR ts) := SeqT.det fun ds => ArgR.det ts (ds.any isFold)
theorem PartsR.det (ts : List Th) (m pl : Bool) (most : Nat) : Det (PartsR ts m pl most) := SeqT.det fun _ => PartR.det ts m pl
theorem RuleR.det {ts : List Th} {r r' : Res} (h : RuleR ts r) (h' : RuleR ts r') : r = r' := by
 unfold RuleR at h h'
 split at h
 ·rename_i c
  rw [if_pos c] at h'
  split at h
  ·rename_i c
   rw [if_pos c] at h'
   refine BindR.det (ArgsR.det ts) (fun d j r r' h h' => ?_) _ _ _ h h'
   split at h
   ·rename_i c
    rw [if_pos c] at h'
    split at h
    ·rename_i c
     rw [if_pos c] at h'
     exact BindR.det (k := fun d2 k r => EndR ts (.tuple [scD (tkn ts 0).v, d, d2]) k r) (PartsR.det ts false true 6) (fun d j r r' h h' => EndR.det h h') _ _ _ h h'
    ·rename_i c; rw [if_neg c] at h'; exact EndR.det h h'
   ·rename_i c; rw [if_neg c] at h'; rw [h, h']
  ·rename_i c; rw [if_neg c] at h'; rw [h, h']
 ·rename_i c; rw [if_neg c] at h'; rw [h, h']
theorem QuestionR.det {ts : List Th} {r r' : Res} (h : QuestionR ts r) (h' : QuestionR ts r') : r = r' := by
 refine BindR.det (ArgsR.det ts) (fun d j r r' h h' => ?_) _ _ _ h h'
 split at h
 ·rename_i c
  rw [if_pos c] at h'
  exact BindR.det (k := fun d2 k r => EndR ts (.tuple [d, d2]) k r) (PartsR.det ts false false 8) (fun d j r r' h h' => EndR.det h h') _ _ _ h h'
 ·rename_i c; rw [if_neg c] at h'; rw [h, h']
theorem TestsR.det {ts : List Th} {r r' : Res} (h : TestsR ts r) (h' : TestsR ts r') : r = r' := by
 unfold TestsR at h h'
 split at h
 ·rename_i c; rw [if_pos c] at h'; rw [h, h']
 ·rename_i c; rw [if_neg c] at h'; exact BindR.det (A := SeqT ts (fun _ => TestR ts true) (fun _ => false)) (k := fun d k r => EndR ts d k r) (SeqT.det fun _ => TestR.det ts true) (fun d j r r' h h' => EndR.det h h') 0 _ _ h h'
theorem ReadR.det {z : Str} {F : List Th → Res → Prop} (hF : ∀ ts r r', F ts r → F ts r' → r = r') {r r' : Except Nat PyData} (h : ReadR z F r) (h' : ReadR z F r') : r = r' := by
 rcases h with ⟨n, h1, rfl⟩ | ⟨ts, h1, h2⟩
 ·rcases h' with ⟨n', h1', rfl⟩ | ⟨ts', h1', h2'⟩
  ·cases h1.det h1'
   rfl
  ·exact absurd (h1.det h1') (fun z => nomatch z)
 ·rcases h' with ⟨n', h1', rfl⟩ | ⟨ts', h1', h2'⟩
  ·exact absurd (h1.det h1') (fun z => nomatch z)
  ·cases h1.det h1'
   rcases h2 with ⟨d, j, h3, rfl⟩ | ⟨e, h3, rfl⟩
   ·rcases h2' with ⟨d', j', h3', rfl⟩ | ⟨e', h3', rfl⟩
    ·cases hF _ _ _ h3 h3'
     rfl
    ·exact absurd (hF _ _ _ h3 h3') (fun z => nomatch z)
   ·rcases h2' with ⟨d', j', h3', rfl⟩ | ⟨e', h3', rfl⟩
    ·exact absurd (hF _ _ _ h3 h3') (fun z => nomatch z)
    ·cases hF _ _ _ h3 h3'
     rfl
def tx (w : List Nat) : Str := ⟨w.toArray⟩
theorem tx_list (w : List Nat) : (tx w).cps.toList = w := by simp [tx]
def noRun (l : List Nat) : Bool := match l with | [] => true | c :: _ => !isRun c
def noFig (l : List Nat) : Bool := match l with | [] => true | c :: _ => !isFig c
def lastF (last : Option (Str × V)) : Bool := match last with
 | none => true
 | some t => !decide (t.1 ∈ (["value", "name"] : List Str)) && !decide (t.2 ∈ ([")", "me"] : List Str).map V.str)
inductive Spell : Option (Str × V) → List Nat → List (Str × V) → Prop
 | nil {last : Option (Str × V)} : Spell last [] []
 | blank {last : Option (Str × V)} {l : List Nat} {ts : List (Str × V)} : Spell last l ts → Spell last (32 :: l) ts
 | run {last : Option (Str × V)} {c : Nat} {w l : List Nat} {s : Str} {v : V} {ts : List (Str × V)} : (isRun c = true ∨ (c = 45 ∧ noFig (w ++ l) = false ∧ lastF last = true)) → w.all isRun = true → noRun l = true → runT (tx (c :: w)) = some (s, v) → Spell (some (s, v)) l ts → Spell last (c :: (w ++ l)) ((s, v) :: ts)
 | word {last : Option (Str × V)} {w l : List Nat} {ts : List (Str × V)} : goodL w = true → Spell (some ("value", .str (tx w))) l ts → Spell last (39 :: (w ++ 39 :: l)) (("value", .str (tx w)) :: ts)
 | sign {last : Option (Str × V)} {c : Nat} {l : List Nat} {ts : List (Str × V)} : c ∈ sgnL → (c = 45 → noFig l = true ∨ lastF last = false) → ((c = 60 ∨ c = 62) → l.head? ≠ some 61) → Spell (some ("sign", .str (tx [c]))) l ts → Spell last (c :: l) (("sign", .str (tx [c])) :: ts)
 | sign2 {last : Option (Str × V)} {c : Nat} {l : List Nat} {ts : List (Str × V)} : (c = 33 ∨ c = 60 ∨ c = 62) → Spell (some ("sign", .str (tx [c, 61]))) l ts → Spell last (c :: 61 :: l) (("sign", .str (tx [c, 61])) :: ts)
def thP (t : Th) : Str × V := (t.s, t.v)
theorem drop_pre {pre l : List Nat} : (pre ++ l).drop pre.length = l := by simp
theorem at_pre {pre l : List Nat} {c : Nat} : (pre ++ c :: l)[pre.length]? = some c := by simp
theorem cut_pre {z : Str} {pre w l : List Nat} (e : z.cps.toList = pre ++ (w ++ l)) : cutS z (some ((pre.length : Nat) : Int)) (some ((pre.length + w.length : Nat) : Int)) = tx w := by
 refine str_ext ?_
 rw [cut_nn, e, drop_pre, tx_list]
 simp
theorem runE_pre {pre w l : List Nat} {c : Nat} (hw : w.all isRun = true) (hl : noRun l = true) : runE (pre ++ c :: (w ++ l)) (pre.length + 1) = pre.length + 1 + w.length := by
 unfold runE
 have e : (pre ++ c :: (w ++ l)).drop (pre.length + 1) = w ++ l := by
  rw [show pre ++ c :: (w ++ l) = (pre ++ [c]) ++ (w ++ l) by simp, show pre.length + 1 = (pre ++ [c]).length by simp]
  exact drop_pre
 rw [e]
 have t : (w ++ l).takeWhile isRun = w := by
  rw [List.takeWhile_append_of_pos (List.all_eq_true.mp hw)]
  cases l with
  | nil => simp
  | cons d r =>
   have hd : isRun d = false := by simpa [noRun] using hl
   rw [List.takeWhile_cons, if_neg (by rw [hd]; exact Bool.false_ne_true)]
   simp
 rw [t]
theorem not_run_sgn {c : Nat} (h : c ∈ sgnL) : isRun c = false ∧ c ≠ 39 ∧ c ≠ 32 := by
 have : ∀ c ∈ sgnL, isRun c = false ∧ c ≠ 39 ∧ c ≠ 32 := by decide
 exact this c h
theorem run_not {c : Nat} (h : isRun c = true ∨ c = 45) : c ≠ 39 ∧ c ≠ 32 := by
 unfold isRun isLet isFig at h
 simp only [Bool.or_eq_true, decide_eq_true_eq] at h
 omega
def figA (l : List Nat) (n : Nat) : Bool := match l[n]? with | some c => isFig c | none => false
theorem begA (l : List Nat) (n : Nat) (last : Option Th) : begB l n last = (decide (l[n]? = some 45) && (figA l (n + 1) && lastF (last.map thP))) := by
 cases last <;> rfl
theorem fig_at {pre l : List Nat} {c : Nat} : figA (pre ++ c :: l) (pre.length + 1) = !noFig l := by
 have e : (pre ++ c :: l)[pre.length + 1]? = l[0]? := by
  rw [show pre ++ c :: l = (pre ++ [c]) ++ l by simp, List.getElem?_append_right (by simp)]
  simp
 unfold figA
 rw [e]
 cases l with
 | nil => rfl
 | cons d r => simp [noFig]
theorem beg_pre {pre l : List Nat} {c : Nat} (last : Option Th) : begB (pre ++ c :: l) pre.length last = (decide (c = 45) && (!noFig l && lastF (last.map thP))) := by
 rw [begA, at_pre, fig_at]
 have e : decide (some c = some 45) = decide (c = 45) := decide_eq_decide.mpr (by simp)
 rw [e]
theorem two_cut {z : Str} {pre l : List Nat} {c : Nat} (e : z.cps.toList = pre ++ c :: l) : (cutS z (some ((pre.length : Nat) : Int)) (some ((pre.length : Int) + 2))).cps.toList = c :: l.take 1 := by
 rw [show (pre.length : Int) + 2 = ((pre.length + 2 : Nat) : Int) by omega, cut_nn, e, drop_pre]
 simp
theorem two_is {z : Str} {pre l : List Nat} {c : Nat} (e : z.cps.toList = pre ++ c :: l) : cutS z (some ((pre.length : Nat) : Int)) (some ((pre.length : Int) + 2)) ∈ (["!=", "<=", ">="] : List Str) ↔ (c = 33 ∨ c = 60 ∨ c = 62) ∧ l.head? = some 61 := by
 have t := two_cut e
 have k1 : ("!=" : Str).cps.toList = [33, 61] := by decide +kernel
 have k2 : ("<=" : Str).cps.toList = [60, 61] := by decide +kernel
 have k3 : (">=" : Str).cps.toList = [62, 61] := by decide +kernel
 have key : ∀ {s : Str} {a : Nat}, s.cps.toList = [a, 61] → (cutS z (some ((pre.length : Nat) : Int)) (some ((pre.length : Int) + 2)) = s ↔ c = a ∧ l.head? = some 61) := fun {s a} hs => by
  constructor
  ·intro h
   rw [h, hs] at t
   injection t with t1 t2
   refine ⟨t1.symm, ?_⟩
   cases l with
   | nil => cases t2
   | cons d r => injection t2 with t2 _; rw [← t2]; rfl
  ·rintro ⟨rfl, h⟩
   refine str_ext ?_
   rw [t, hs]
   cases l with
   | nil => cases h
   | cons d r => injection h with h; rw [h]; rfl
 simp only [List.mem_cons, List.not_mem_nil, or_false]
 rw [key k1, key k2, key k3]
 constructor
 ·rintro (⟨h, k⟩ | ⟨h, k⟩ | ⟨h, k⟩)
  ·exact ⟨.inl h, k⟩
  ·exact ⟨.inr (.inl h), k⟩
  ·exact ⟨.inr (.inr h), k⟩
 ·rintro ⟨h | h | h, k⟩
  ·exact .inl ⟨h, k⟩
  ·exact .inr (.inl ⟨h, k⟩)
  ·exact .inr (.inr ⟨h, k⟩)
theorem good_all {w : List Nat} (h : goodL w = true) : ∀ c ∈ w, c ≠ 39 := fun c hc => by
 cases w with
 | nil => cases h
 | cons d r =>
  have h2 := (Bool.and_eq_true_iff.mp (Bool.and_eq_true_iff.mp (show (decide (r.length ≤ 11) && (isLet d && (d :: r).all (fun d => isLet d || isFig d))) = true from h)).2).2
  have z := List.all_eq_true.mp h2 c hc
  unfold isLet isFig at z
  simp only [Bool.or_eq_true, decide_eq_true_eq] at z
  omega
theorem getD_list (z : Str) (v : Nat) : z.cps.getD v 0 = z.cps.toList.getD v 0 := by simp [Array.getD_eq_getD_getElem?, List.getD_eq_getElem?_getD]
theorem find_q {z : Str} {pre w l : List Nat} (e : z.cps.toList = pre ++ 39 :: (w ++ 39 :: l)) (hw : ∀ c ∈ w, c ≠ 39) : Txt.find3 z "'" ((pre.length : Int) + 1) = ((pre.length + 1 + w.length : Nat) : Int) := by
 have ll := len_l z
 have lz : z.length = pre.length + 1 + w.length + 1 + l.length := by rw [ll, e]; simp; omega
 have fi : fromIndex z.length ((pre.length : Int) + 1) = pre.length + 1 := by unfold fromIndex; rw [if_neg (by omega)]; omega
 have g1 : z.cps.getD (pre.length + 1 + w.length) 0 = 39 := by
  rw [getD_list, e, List.getD_eq_getElem?_getD, show pre ++ 39 :: (w ++ 39 :: l) = (pre ++ 39 :: w) ++ 39 :: l by simp, show pre.length + 1 + w.length = (pre ++ 39 :: w).length by simp; omega, at_pre]
  rfl
 have g2 : ∀ v, pre.length + 1 ≤ v → v < pre.length + 1 + w.length → z.cps.getD v 0 ≠ 39 := fun v h1 h2 he => by
  rw [getD_list, e, List.getD_eq_getElem?_getD, show pre ++ 39 :: (w ++ 39 :: l) = (pre ++ [39]) ++ (w ++ 39 :: l) by simp, List.getElem?_append_right (by simp; omega), List.getElem?_append_left (by simp; omega)] at he
  have hi : v - (pre ++ [39]).length < w.length := by simp; omega
  rw [List.getElem?_eq_getElem hi] at he
  exact hw _ (List.getElem_mem hi) he
 have q : ("'" : Str) = ⟨#[39]⟩ := by decide +kernel
 rw [q]
 rcases StrLaws.find3_spec z 39 ((pre.length : Int) + 1) with ⟨_, hn⟩ | ⟨k, h0, hlo, hk, hk2, hn⟩
 ·rw [fi] at hn
  exact absurd g1 (hn _ (by omega) (by omega))
 ·rw [fi] at hlo hn
  rw [h0]
  have a1 : ¬ pre.length + 1 + w.length < k := fun h => hn _ (by omega) h g1
  have a2 : ¬ k < pre.length + 1 + w.length := fun h => g2 k hlo h hk2
  omega
theorem spell_cuts {z : Str} {l : List Nat} {q : List (Str × V)} {lt : Option (Str × V)} (h : Spell lt l q) : ∀ (pre : List Nat) (ts : List Th), z.cps.toList = pre ++ l → lt = ts.getLast?.map thP → ∃ ts', Cuts z pre.length ts (.ok (ts ++ ts' ++ [endT z])) ∧ ts'.map thP = q := by
 have ll := len_l z
 induction h with
 | nil =>
  intro pre ts e _
  refine ⟨[], ?_, rfl⟩
  rw [List.append_nil]
  exact .stop (by rw [ll, e, List.append_nil]; exact Nat.le_refl _)
 | @blank last l q h ih =>
  intro pre ts e el
  have hn : pre.length < z.length := by rw [ll, e]; simp
  obtain ⟨ts', h1, h2⟩ := ih (pre ++ [32]) ts (by rw [e]; simp) el
  rw [List.length_append, List.length_singleton] at h1
  exact ⟨ts', .skip hn (by rw [e]; exact at_pre) h1, h2⟩
 | @run last c w l s v q hc hw hl hr h ih =>
  intro pre ts e el
  have hn : pre.length < z.length := by rw [ll, e]; simp
  have cc := run_not (hc.imp id And.left)
  have re := runE_pre (pre := pre) (c := c) hw hl
  have hnx : nextT z pre.length ts.getLast? = some (⟨s, v, pre.length⟩, pre.length + 1 + w.length) := by
   unfold nextT
   rw [e, at_pre]
   dsimp only
   rw [if_neg cc.1, if_pos, re]
   ·have ec : cutS z (some ((pre.length : Nat) : Int)) (some ((pre.length + 1 + w.length : Nat) : Int)) = tx (c :: w) := by
     have := cut_pre (z := z) (pre := pre) (w := c :: w) (l := l) (by rw [e]; simp)
     rw [← this]
     congr 2
     rw [List.length_cons]; omega
    rw [ec, hr]
    rfl
   ·rcases hc with hc | ⟨hc, hf, hla⟩
    ·exact .inl hc
    ·refine .inr ?_
     rw [beg_pre, ← el, hc, hf, hla]
     rfl
  obtain ⟨ts', h1, h2⟩ := ih (pre ++ c :: w) (ts ++ [⟨s, v, pre.length⟩]) (by rw [e]; simp) (by simp [thP])
  refine ⟨⟨s, v, pre.length⟩ :: ts', .step hn (by rw [e, at_pre]; intro x; exact cc.2 (Option.some.inj x)) hnx ?_, by rw [List.map_cons, h2]; rfl⟩
  have en : (pre ++ c :: w).length = pre.length + 1 + w.length := by rw [List.length_append, List.length_cons]; omega
  rw [en] at h1
  rw [show ts ++ ⟨s, v, pre.length⟩ :: ts' = ts ++ [⟨s, v, pre.length⟩] ++ ts' by simp]
  exact h1
 | @word last w l q hw h ih =>
  intro pre ts e el
  have hn : pre.length < z.length := by rw [ll, e]; simp
  have fq := find_q e (good_all hw)
  have hnx : nextT z pre.length ts.getLast? = some (⟨"value", .str (tx w), pre.length⟩, pre.length + 1 + w.length + 1) := by
   have ec : cutS z (some ((pre.length : Int) + 1)) (some ((pre.length + 1 + w.length : Nat) : Int)) = tx w := by
    have := cut_pre (z := z) (pre := pre ++ [39]) (w := w) (l := 39 :: l) (by rw [e]; simp)
    rw [List.length_append, List.length_singleton] at this
    rw [show (pre.length : Int) + 1 = ((pre.length + 1 : Nat) : Int) by omega]
    exact this
   have ew : wordT z pre.length = some (tx w, pre.length + 1 + w.length + 1) := by
    unfold wordT
    rw [fq, if_neg (by omega), ec, if_pos (by unfold goodW; rw [tx_list]; exact hw)]
    congr 2
   unfold nextT
   rw [e, at_pre]
   dsimp only
   rw [if_pos rfl, ew]
   rfl
  obtain ⟨ts', i1, i2⟩ := ih (pre ++ 39 :: (w ++ [39])) (ts ++ [⟨"value", .str (tx w), pre.length⟩]) (by rw [e]; simp) (by simp [thP])
  refine ⟨⟨"value", .str (tx w), pre.length⟩ :: ts', .step hn (by rw [e, at_pre]; intro x; exact absurd (Option.some.inj x) (by decide)) hnx ?_, by rw [List.map_cons, i2]; rfl⟩
  have en : (pre ++ 39 :: (w ++ [39])).length = pre.length + 1 + w.length + 1 := by simp; omega
  rw [en] at i1
  rw [show ts ++ ⟨"value", .str (tx w), pre.length⟩ :: ts' = ts ++ [⟨"value", .str (tx w), pre.length⟩] ++ ts' by simp]
  exact i1
 | @sign last c l q hc h1 h2 h ih =>
  intro pre ts e el
  have hn : pre.length < z.length := by rw [ll, e]; simp
  have cc := not_run_sgn hc
  have hnx : nextT z pre.length ts.getLast? = some (⟨"sign", .str (tx [c]), pre.length⟩, pre.length + 1) := by
   unfold nextT
   rw [e, at_pre]
   dsimp only
   rw [if_neg cc.2.1, if_neg, if_neg, if_pos hc]
   ·rfl
   ·rw [two_is e]
    rintro ⟨hh, h3⟩
    rcases hh with rfl | hh
    ·exact absurd hc (by decide)
    ·exact h2 hh h3
   ·rintro (hh | hh)
    ·rw [cc.1] at hh; cases hh
    ·rw [beg_pre, ← el] at hh
     simp only [Bool.and_eq_true, decide_eq_true_eq] at hh
     rcases h1 hh.1 with k | k
     ·rw [k] at hh; exact absurd hh.2.1 (by decide)
     ·rw [k] at hh; exact absurd hh.2.2 (by decide)
  obtain ⟨ts', i1, i2⟩ := ih (pre ++ [c]) (ts ++ [⟨"sign", .str (tx [c]), pre.length⟩]) (by rw [e]; simp) (by simp [thP])
  rw [List.length_append, List.length_singleton] at i1
  refine ⟨⟨"sign", .str (tx [c]), pre.length⟩ :: ts', .step hn (by rw [e, at_pre]; intro x; exact cc.2.2 (Option.some.inj x)) hnx ?_, by rw [List.map_cons, i2]; rfl⟩
  rw [show ts ++ ⟨"sign", .str (tx [c]), pre.length⟩ :: ts' = ts ++ [⟨"sign", .str (tx [c]), pre.length⟩] ++ ts' by simp]
  exact i1
 | @sign2 last c l q hc h ih =>
  intro pre ts e el
  have hn : pre.length < z.length := by rw [ll, e]; simp
  have c1 : c ≠ 39 ∧ c ≠ 32 ∧ isRun c = false ∧ c ≠ 45 := by rcases hc with rfl | rfl | rfl <;> decide
  have hnx : nextT z pre.length ts.getLast? = some (⟨"sign", .str (tx [c, 61]), pre.length⟩, pre.length + 2) := by
   have tc := two_cut e
   have et : cutS z (some ((pre.length : Nat) : Int)) (some ((pre.length : Int) + 2)) = tx [c, 61] := str_ext (by rw [tc, tx_list]; rfl)
   have ti := (two_is e).mpr ⟨hc, rfl⟩
   unfold nextT
   rw [e, at_pre]
   dsimp only
   rw [if_neg c1.1, if_neg, if_pos ti, et]
   rintro (hh | hh)
   ·rw [c1.2.2.1] at hh; cases hh
   ·rw [beg_pre] at hh
    simp only [Bool.and_eq_true, decide_eq_true_eq] at hh
    exact c1.2.2.2 hh.1
  obtain ⟨ts', i1, i2⟩ := ih (pre ++ [c, 61]) (ts ++ [⟨"sign", .str (tx [c, 61]), pre.length⟩]) (by rw [e]; simp) (by simp [thP])
  rw [List.length_append] at i1
  refine ⟨⟨"sign", .str (tx [c, 61]), pre.length⟩ :: ts', .step hn (by rw [e, at_pre]; intro x; exact c1.2.1 (Option.some.inj x)) hnx ?_, by rw [List.map_cons, i2]; rfl⟩
  rw [show ts ++ ⟨"sign", .str (tx [c, 61]), pre.length⟩ :: ts' = ts ++ [⟨"sign", .str (tx [c, 61]), pre.length⟩] ++ ts' by simp]
  exact i1
def sgK (s : Str) : Str × V := ("sign", .str s)
def wrapK (k : Nat) (e : SumE) (l : List (Str × V)) : List (Str × V) := if tightE e < k then sgK "(" :: (l ++ [sgK ")"]) else l
def sumK : SumE → List (Str × V)
 | .val u => [("value", u)]
 | .var x => [("name", .str x)]
 | .op s a b => wrapK (if s = "*" then 2 else 1) a (sumK a) ++ sgK s :: wrapK ((if s = "*" then 2 else 1) + 1) b (sumK b)
def At (ts : List Th) (i : Nat) (q : List (Str × V)) : Prop := ∃ r, r ≠ [] ∧ (ts.drop i).map thP = q ++ r
theorem At.lt {ts : List Th} {i : Nat} {q : List (Str × V)} (h : At ts i q) : i + q.length < ts.length := by
 obtain ⟨r, hr, e⟩ := h
 have l := congrArg List.length e
 rw [List.length_map, List.length_drop, List.length_append] at l
 have : 0 < r.length := List.length_pos_iff.mpr hr
 omega
theorem At.app {ts : List Th} {i : Nat} {a b : List (Str × V)} (h : At ts i (a ++ b)) : At ts i a ∧ At ts (i + a.length) b := by
 have hl := h.lt
 obtain ⟨r, hr, e⟩ := h
 refine ⟨⟨b ++ r, by simp [hr], by rw [e, List.append_assoc]⟩, r, hr, ?_⟩
 have := congrArg (List.drop a.length) e
 rw [← List.map_drop, List.drop_drop, List.append_assoc] at this
 simpa using this
theorem At.hd {ts : List Th} {i : Nat} {s : Str} {v : V} {q : List (Str × V)} (h : At ts i ((s, v) :: q)) : i < ts.length ∧ (tkn ts i).s = s ∧ (tkn ts i).v = v ∧ At ts (i + 1) q := by
 have hl := h.lt
 have h2 := (At.app (a := [(s, v)]) (b := q) h).2
 obtain ⟨r, hr, e⟩ := h
 have hi : i < ts.length := by omega
 have e1 : ts[i]? = some ts[i] := List.getElem?_eq_getElem hi
 have et : tkn ts i = ts[i] := by unfold tkn; rw [List.getD_eq_getElem?_getD, e1]; rfl
 rw [List.drop_eq_getElem_cons hi, List.map_cons, List.cons_append] at e
 injection e with e _
 rw [et]
 have ea : ts[i].s = s := congrArg Prod.fst e
 have eb : ts[i].v = v := congrArg Prod.snd e
 exact ⟨hi, ea, eb, h2⟩
theorem At.is {ts : List Th} {i : Nat} {s z : Str} {q : List (Str × V)} (h : At ts i ((s, .str z) :: q)) (s' z' : Str) : isT ts i s' z' = (decide (s = s') && decide (z = z')) := by
 obtain ⟨hi, h1, h2, _⟩ := h.hd
 unfold isT
 rw [th_tk hi, h1, h2]
 congr 1
 exact decide_eq_decide.mpr ⟨fun h => by injection h, fun h => by rw [h]⟩
theorem At.isO {ts : List Th} {i : Nat} {s : Str} {v : V} {q : List (Str × V)} (h : At ts i ((s, v) :: q)) {s' z' : Str} (hne : s ≠ s') : isT ts i s' z' = false := by
 obtain ⟨hi, h1, h2, _⟩ := h.hd
 unfold isT
 rw [th_tk hi, h1, decide_eq_false hne, Bool.false_and]
section
variable {ts : List Th} {m : Bool}
abbrev LFn (ts : List Th) (m : Bool) (n : Nat) : Nat → Res → Prop := LeafN ts m n
abbrev PRn (ts : List Th) (m : Bool) (n : Nat) : Nat → Res → Prop := ChainR ts ["*"] (LeafN ts m n)
theorem sumN_ch (n i : Nat) (r : Res) (h : ChainR ts ["+", "-"] (PRn ts m n) i r) : SumN ts m n i r := by
 rw [sumN_eq]; exact h
theorem stop1 {lf : Nat → Res → Prop} {d : PyData} {j : Nat} (h1 : isT ts j "sign" "+" = false) (h2 : isT ts j "sign" "-" = false) : LoopR ts ["+", "-"] lf d j (.ok (d, j)) := .stop fun s hs => by
 simp only [List.mem_cons, List.not_mem_nil, or_false] at hs
 rcases hs with rfl | rfl
 ·exact h1
 ·exact h2
theorem stop2 {lf : Nat → Res → Prop} {d : PyData} {j : Nat} (h : isT ts j "sign" "*" = false) : LoopR ts ["*"] lf d j (.ok (d, j)) := .stop fun s hs => by
 rw [List.mem_singleton.mp hs]; exact h
theorem wrap_leaf {n i : Nat} {d : PyData} {q : List (Str × V)} (h : At ts i (sgK "(" :: (q ++ [sgK ")"]))) (k : SumN ts m n (i + 1) (.ok (d, i + 1 + q.length))) : LeafN ts m (n + 1) i (.ok (d, i + 1 + q.length + 1)) := by
 obtain ⟨hi, h1, h2, h3⟩ := h.hd
 have o := At.is h "sign" "("
 have c := At.is (At.app h3).2 "sign" ")"
 show LeafR ts m true (SumN ts m n) i _
 unfold LeafR
 rw [if_neg (by rw [h1]; decide +kernel), if_neg, if_neg (by rw [o]; decide +kernel)]
 ·exact .inr ⟨d, _, k, by rw [if_pos (by rw [c]; decide +kernel)]⟩
 ·rintro (x | ⟨_, x⟩)
  ·rw [h1] at x; exact absurd x (by decide +kernel)
  ·have := At.is h "kept" "me"
   rw [this] at x
   exact absurd x (by decide +kernel)
theorem tight_le (e : SumE) : 1 ≤ tightE e ∧ tightE e ≤ 3 := by
 cases e with
 | op s a b =>
  show 1 ≤ (if s = "*" then 2 else 1) ∧ (if s = "*" then 2 else 1) ≤ 3
  split <;> exact ⟨by decide, by decide⟩
 | val u => exact ⟨show 1 ≤ 3 by decide, show 3 ≤ 3 by decide⟩
 | var x => exact ⟨show 1 ≤ 3 by decide, show 3 ≤ 3 by decide⟩
theorem sum_read : ∀ (e : SumE) {k : Nat}, SumG k e → ∀ (n i : Nat), e.deep ≤ n → At ts i (sumK e) →
  (∀ r, isT ts (i + (sumK e).length) "sign" "*" = false → LoopR ts ["+", "-"] (PRn ts m n) e.d (i + (sumK e).length) r → SumN ts m n i r) ∧
  (2 ≤ tightE e → ∀ r, LoopR ts ["*"] (LFn ts m n) e.d (i + (sumK e).length) r → PRn ts m n i r) ∧ (tightE e = 3 → LeafN ts m n i (.ok (e.d, i + (sumK e).length)))
 | .val u, _, _, n, i, _, h => by
  obtain ⟨hi, h1, h2, _⟩ := At.hd h
  have lf : LeafN ts m n i (.ok ((SumE.val u).d, i + 1)) := by
   rw [leafN_eq]
   unfold LeafR
   rw [if_pos h1]
   unfold valD
   rw [h2]
   rfl
  have pr : ∀ r, LoopR ts ["*"] (LFn ts m n) (SumE.val u).d (i + 1) r → PRn ts m n i r := fun r hr => .inr ⟨_, _, lf, hr⟩
  exact ⟨fun r h1 h2 => sumN_ch n i r (.inr ⟨_, _, pr _ (stop2 h1), h2⟩), fun _ => pr, fun _ => lf⟩
 | .var x, _, _, n, i, _, h => by
  obtain ⟨hi, h1, h2, _⟩ := At.hd h
  have lf : LeafN ts m n i (.ok ((SumE.var x).d, i + 1)) := by
   rw [leafN_eq]
   unfold LeafR
   rw [if_neg (by rw [h1]; decide +kernel), if_pos (.inl h1)]
   unfold varD
   rw [h2]
   rfl
  have pr : ∀ r, LoopR ts ["*"] (LFn ts m n) (SumE.var x).d (i + 1) r → PRn ts m n i r := fun r hr => .inr ⟨_, _, lf, hr⟩
  exact ⟨fun r h1 h2 => sumN_ch n i r (.inr ⟨_, _, pr _ (stop2 h1), h2⟩), fun _ => pr, fun _ => lf⟩
 | .op s a b, k, hw, n, i, hd, h => by
  obtain ⟨k, rfl, hs, ha, hb⟩ : ∃ k', k = k' + 1 ∧ isSg s ∧ SumG k' a ∧ SumG k' b := by
   cases hw with
   | op h1 h2 h3 => exact ⟨_, rfl, h1, h2, h3⟩
  have hda : a.deep + 1 ≤ n := Nat.le_trans (Nat.succ_le_succ (Nat.le_max_left _ _)) hd
  have hdb : b.deep + 1 ≤ n := Nat.le_trans (Nat.succ_le_succ (Nat.le_max_right _ _)) hd
  obtain ⟨n, rfl⟩ : ∃ n', n = n' + 1 := ⟨n - 1, by omega⟩
  have wr : ∀ (e : SumE) {k : Nat}, SumG k e → e.deep ≤ n → (∀ i, At ts i (sumK e) → ∀ r, isT ts (i + (sumK e).length) "sign" "*" = false → LoopR ts ["+", "-"] (PRn ts m n) e.d (i + (sumK e).length) r → SumN ts m n i r) →
    ∀ i, At ts i (sgK "(" :: (sumK e ++ [sgK ")"])) → LeafN ts m (n + 1) i (.ok (e.d, i + (sgK "(" :: (sumK e ++ [sgK ")"])).length)) := fun e k hw hd ih i h => by
   obtain ⟨_, _, _, h3⟩ := h.hd
   obtain ⟨h4, h5⟩ := At.app h3
   have z := wrap_leaf h (ih (i + 1) h4 _ (by rw [At.is h5]; decide +kernel) (stop1 (by rw [At.is h5]; decide +kernel) (by rw [At.is h5]; decide +kernel)))
   rw [show i + (sgK "(" :: (sumK e ++ [sgK ")"])).length = i + 1 + (sumK e).length + 1 by simp; omega]
   exact z
  have wa : ∀ i, At ts i (sgK "(" :: (sumK a ++ [sgK ")"])) → LeafN ts m (n + 1) i (.ok (a.d, i + (sgK "(" :: (sumK a ++ [sgK ")"])).length)) := wr a ha (by omega) fun i h => (sum_read a ha n i (by omega) h).1
  have wb : ∀ i, At ts i (sgK "(" :: (sumK b ++ [sgK ")"])) → LeafN ts m (n + 1) i (.ok (b.d, i + (sgK "(" :: (sumK b ++ [sgK ")"])).length)) := wr b hb (by omega) fun i h => (sum_read b hb n i (by omega) h).1
  have ta := tight_le a
  have tb := tight_le b
  by_cases c : s = "*"
  ·subst c
   have e1 : sumK (.op "*" a b) = wrapK 2 a (sumK a) ++ sgK "*" :: wrapK 3 b (sumK b) := rfl
   rw [e1] at h ⊢
   obtain ⟨h1, h2⟩ := At.app h
   obtain ⟨hj, _, _, h3⟩ := h2.hd
   have st := At.is h2 "sign" "*"
   rw [show i + (wrapK 2 a (sumK a) ++ sgK "*" :: wrapK 3 b (sumK b)).length = i + (wrapK 2 a (sumK a)).length + 1 + (wrapK 3 b (sumK b)).length by simp; omega]
   generalize hja : i + (wrapK 2 a (sumK a)).length = ja at *
   have lb : LeafN ts m (n + 1) (ja + 1) (.ok (b.d, ja + 1 + (wrapK 3 b (sumK b)).length)) := by
    unfold wrapK at h3 ⊢
    by_cases cb : tightE b < 3
    ·rw [if_pos cb] at h3 ⊢; exact wb _ h3
    ·rw [if_neg cb] at h3 ⊢; exact (sum_read b hb (n + 1) _ (by omega) h3).2.2 (by omega)
   have pr : ∀ r, LoopR ts ["*"] (LFn ts m (n + 1)) (SumE.op "*" a b).d (ja + 1 + (wrapK 3 b (sumK b)).length) r → PRn ts m (n + 1) i r := fun r hr => by
    have lp : LoopR ts ["*"] (LFn ts m (n + 1)) a.d ja r := .step (s := "*") (by simp) (by rw [st]; decide +kernel) lb hr
    unfold wrapK at h1 hja
    by_cases ca : tightE a < 2
    ·rw [if_pos ca] at h1 hja
     rw [← hja] at lp
     exact .inr ⟨_, _, wa _ h1, lp⟩
    ·rw [if_neg ca] at h1 hja
     rw [← hja] at lp
     exact (sum_read a ha (n + 1) _ (by omega) h1).2.1 (by omega) _ lp
   exact ⟨fun r h1 h2 => sumN_ch _ i r (.inr ⟨_, _, pr _ (stop2 h1), h2⟩), fun _ => pr, fun z => by
    have z2 : (if ("*" : Str) = "*" then 2 else 1) = 3 := z
    rw [if_pos rfl] at z2
    omega⟩
  ·have e1 : sumK (.op s a b) = sumK a ++ sgK s :: wrapK 2 b (sumK b) := by
    show wrapK (if s = "*" then 2 else 1) a (sumK a) ++ sgK s :: wrapK ((if s = "*" then 2 else 1) + 1) b (sumK b) = _
    rw [if_neg c]
    unfold wrapK
    rw [if_neg (by omega : ¬ tightE a < 1)]
   have hs2 : s ∈ (["+", "-"] : List Str) := by
    rcases hs with h | h | h
    ·rw [h]; simp
    ·rw [h]; simp
    ·exact absurd h c
   have tt : tightE (.op s a b) = 1 := by
    show (if s = "*" then 2 else 1) = 1
    rw [if_neg c]
   rw [e1] at h ⊢
   obtain ⟨h1, h2⟩ := At.app h
   obtain ⟨hj, _, _, h3⟩ := h2.hd
   have st : ∀ z, isT ts (i + (sumK a).length) "sign" z = decide (s = z) := fun z => by
    rw [At.is h2 "sign" z]
    rw [decide_eq_true rfl, Bool.true_and]
   rw [show i + (sumK a ++ sgK s :: wrapK 2 b (sumK b)).length = i + (sumK a).length + 1 + (wrapK 2 b (sumK b)).length by simp; omega]
   refine ⟨fun r g1 g2 => ?_, fun z => by omega, fun z => by omega⟩
   have pb : PRn ts m (n + 1) (i + (sumK a).length + 1) (.ok (b.d, i + (sumK a).length + 1 + (wrapK 2 b (sumK b)).length)) := by
    unfold wrapK at h3 g1 ⊢
    by_cases cb : tightE b < 2
    ·rw [if_pos cb] at h3 g1 ⊢
     exact .inr ⟨_, _, wb _ h3, stop2 g1⟩
    ·rw [if_neg cb] at h3 g1 ⊢
     exact (sum_read b hb (n + 1) _ (by omega) h3).2.1 (by omega) _ (stop2 g1)
   exact (sum_read a ha (n + 1) _ (by omega) h1).1 r (by rw [st, decide_eq_false c]) (.step hs2 (by rw [st, decide_eq_true rfl]) pb g2)
end
def termK : TermE → List (Str × V)
 | .any => [sgK "_"]
 | .s e => sumK e
def listK : List (List (Str × V)) → List (Str × V)
 | [] => []
 | [a] => a
 | a :: r => a ++ sgK "," :: listK r
def srtN (x : Str) : Str := if nameB x = true then "name" else "full"
def atomK (x : Str) (as : List TermE) : List (Str × V) := (srtN x, .str x) :: sgK "(" :: (listK (as.map termK) ++ [sgK ")"])
def partK : PartE → List (Str × V)
 | .atom no x as => if no then ("kept", .str "not") :: atomK x as else atomK x as
 | .lt x e => ("name", .str x) :: ("kept", .str "is") :: sumK e
 | .test s a b => sumK a ++ sgK s :: sumK b
def argK : ArgE → List (Str × V)
 | .s e => sumK e
 | .fold w none => [("kept", .str w)]
 | .fold w (some x) => [("kept", .str w), ("name", .str x)]
def Nx (ts : List Th) (j : Nat) : Prop := isT ts j "sign" "*" = false ∧ isT ts j "sign" "+" = false ∧ isT ts j "sign" "-" = false
theorem Nx.sg {ts : List Th} {j : Nat} {z : Str} {q : List (Str × V)} (h : At ts j (sgK z :: q)) (hz : z ∉ (["*", "+", "-"] : List Str)) : Nx ts j := by
 simp only [List.mem_cons, List.not_mem_nil, or_false, not_or] at hz
 refine ⟨?_, ?_, ?_⟩ <;> rw [At.is h]
 ·rw [decide_eq_false hz.1, Bool.and_false]
 ·rw [decide_eq_false hz.2.1, Bool.and_false]
 ·rw [decide_eq_false hz.2.2, Bool.and_false]
theorem Nx.o {ts : List Th} {j : Nat} {s : Str} {v : V} {q : List (Str × V)} (h : At ts j ((s, v) :: q)) (hs : s ≠ "sign") : Nx ts j := ⟨At.isO h hs, At.isO h hs, At.isO h hs⟩
theorem Nx.e {ts : List Th} {j : Nat} (h : (tkn ts j).s = "end") (hj : j < ts.length) : Nx ts j := by
 have k : ∀ z, isT ts j "sign" z = false := fun z => by
  unfold isT
  rw [th_tk hj, h, decide_eq_false (by decide +kernel), Bool.false_and]
 exact ⟨k _, k _, k _⟩
section
variable {ts : List Th}
theorem sum_ok {m : Bool} {e : SumE} {k n i : Nat} (hw : SumG k e) (hd : e.deep ≤ n) (h : At ts i (sumK e)) (hn : Nx ts (i + (sumK e).length)) : SumN ts m n i (.ok (e.d, i + (sumK e).length)) :=
 (sum_read e hw n i hd h).1 _ hn.1 (stop1 hn.2.1 hn.2.2)
theorem SumG.dp {k : Nat} {e : SumE} (h : SumG k e) : e.deep ≤ k := by
 induction h with
 | val _ => exact Nat.zero_le _
 | var _ => exact Nat.zero_le _
 | op _ _ _ h1 h2 => exact Nat.succ_le_succ (Nat.max_le.mpr ⟨h1, h2⟩)
theorem test_ok {m : Bool} {s : Str} {a b : SumE} {k i : Nat} (hs : s ∈ testsW) (ha : SumG k a) (hb : SumG k b) (hk : k ≤ 12) (h : At ts i (sumK a ++ sgK s :: sumK b)) (hn : Nx ts (i + (sumK a ++ sgK s :: sumK b).length)) :
  TestR ts m i (.ok ((PartE.test s a b).d, i + (sumK a ++ sgK s :: sumK b).length)) := by
 obtain ⟨h1, h2⟩ := At.app h
 obtain ⟨hj, g1, g2, h3⟩ := h2.hd
 have sne : s ∉ (["*", "+", "-"] : List Str) := by
  have : ∀ s ∈ testsW, s ∉ (["*", "+", "-"] : List Str) := by decide +kernel
  exact this s hs
 have el : i + (sumK a ++ sgK s :: sumK b).length = i + (sumK a).length + 1 + (sumK b).length := by simp; omega
 rw [el] at hn ⊢
 have ra := sum_ok (m := m) ha (Nat.le_trans ha.dp hk) h1 (Nx.sg h2 sne)
 have rb := sum_ok (m := m) hb (Nat.le_trans hb.dp hk) h3 hn
 have it : isTest (tkn ts (i + (sumK a).length)) = true := by
  unfold isTest
  rw [g1, g2, decide_eq_true rfl, decide_eq_true (List.mem_map_of_mem hs)]
  rfl
 have z := testR_ok ra it rb
 rw [g2] at z
 exact z
theorem term_ok {t : TermE} {i : Nat} (ht : TermG t) (h : At ts i (termK t)) : TermR ts i (.ok (t.d, i + (termK t).length)) := by
 unfold TermR
 cases ht with
 | any =>
  have := At.is h "sign" "_"
  rw [if_pos (by rw [this]; decide +kernel)]
  rfl
 | @s e he =>
  cases he with
  | @val _ u hu =>
   obtain ⟨_, g1, g2, _⟩ := At.hd (show At ts i (("value", u) :: []) from h)
   rw [if_neg (by rw [At.isO (show At ts i (("value", u) :: []) from h) (by decide +kernel)]; exact Bool.false_ne_true), if_pos g1]
   unfold valD
   rw [g2]
   rfl
  | @var _ x hx =>
   have h' : At ts i (("name", .str x) :: []) := h
   obtain ⟨_, g1, g2, _⟩ := At.hd h'
   rw [if_neg (by rw [At.isO h' (by decide +kernel)]; exact Bool.false_ne_true), if_neg (by rw [g1]; decide +kernel), if_pos g1]
   unfold varD
   rw [g2]
   rfl
theorem many_ok {item : List PyData → Nat → Res → Prop} {full : List PyData → Bool} {j : Nat} (hj : isT ts j "sign" "," = false) (hx : Nx ts j) : ∀ (its : List (List (Str × V) × PyData)) (ds : List PyData) (i : Nat),
  (∀ k, k < its.length → full (ds ++ (its.take k).map (·.2)) = false) → At ts i (its.map fun q => sgK "," :: q.1).flatten → i + (its.map fun q => sgK "," :: q.1).flatten.length = j →
  (∀ k q, its[k]? = some q → ∀ i, At ts i q.1 → Nx ts (i + q.1.length) → item (ds ++ (its.take k).map (·.2)) i (.ok (q.2, i + q.1.length))) → ManyR ts item full ds i (.ok (ds ++ its.map (·.2), j))
 | [], ds, i, _, _, e, _ => by
  have : i = j := by simpa using e
  subst this
  rw [List.map_nil, List.append_nil]
  exact .stop hj
 | q :: r, ds, i, hf, h, e, hi => by
  rw [List.map_cons, List.flatten_cons] at h e
  obtain ⟨h1, h2⟩ := At.app h
  obtain ⟨_, _, _, h3⟩ := h1.hd
  have c : isT ts i "sign" "," = true := by rw [At.is h1]; decide +kernel
  rw [List.length_append, List.length_cons] at e
  rw [List.length_cons] at h2
  have nx : Nx ts (i + 1 + q.1.length) := by
   rw [show i + 1 + q.1.length = i + (q.1.length + 1) by omega]
   cases r with
   | nil =>
    rw [show i + (q.1.length + 1) = j by simpa using (by simpa using e : i + (q.1.length + 1) = j)]
    exact hx
   | cons q2 r2 =>
    rw [List.map_cons, List.flatten_cons, List.cons_append] at h2
    exact Nx.sg h2 (by decide +kernel)
  have f0 := hf 0 (by simp)
  rw [List.take_zero, List.map_nil, List.append_nil] at f0
  have rc := many_ok hj hx r (ds ++ [q.2]) (i + (q.1.length + 1)) (fun k hk => by
   have := hf (k + 1) (by simp; omega)
   rw [List.take_succ_cons, List.map_cons] at this
   rw [List.append_assoc]
   exact this) h2 (by omega) (fun k q' hq' i a1 a2 => by
   have := hi (k + 1) q' hq' i a1 a2
   rw [List.take_succ_cons, List.map_cons] at this
   rw [List.append_assoc]
   exact this)
  rw [List.append_assoc] at rc
  rw [show i + (q.1.length + 1) = i + 1 + q.1.length by omega] at rc
  have h0 := hi 0 q rfl (i + 1) h3 nx
  rw [List.take_zero, List.map_nil, List.append_nil] at h0
  exact .step c f0 h0 rc
theorem listK_cons (a : List (Str × V)) (r : List (List (Str × V))) : listK (a :: r) = a ++ (r.map fun q => sgK "," :: q).flatten := by
 induction r generalizing a with
 | nil => simp [listK]
 | cons b r ih => rw [show listK (a :: b :: r) = a ++ sgK "," :: listK (b :: r) from rfl, ih b, List.map_cons, List.flatten_cons, List.cons_append]
theorem seq_ok {item : List PyData → Nat → Res → Prop} {full : List PyData → Bool} {q : List (Str × V) × PyData} {its : List (List (Str × V) × PyData)} {i : Nat} (hf : ∀ k, k < (q :: its).length → full (((q :: its).take k).map (·.2)) = false) (h : At ts i (listK ((q :: its).map (·.1))))
  (hj : isT ts (i + (listK ((q :: its).map (·.1))).length) "sign" "," = false) (hx : Nx ts (i + (listK ((q :: its).map (·.1))).length)) (hi : ∀ k q', (q :: its)[k]? = some q' → ∀ i, At ts i q'.1 → Nx ts (i + q'.1.length) → item (((q :: its).take k).map (·.2)) i (.ok (q'.2, i + q'.1.length))) :
  SeqR ts item full i (.ok ((q :: its).map (·.2), i + (listK ((q :: its).map (·.1))).length)) := by
 have em : (q :: its).map (·.1) = q.1 :: its.map (·.1) := rfl
 rw [em, listK_cons] at h hj hx ⊢
 obtain ⟨h1, h2⟩ := At.app h
 rw [List.length_append] at hj hx ⊢
 have ef : ((its.map (·.1)).map fun q => sgK "," :: q).flatten = (its.map fun q => sgK "," :: q.1).flatten := by rw [List.map_map]; rfl
 rw [ef] at h2 hj hx ⊢
 have nx : Nx ts (i + q.1.length) := by
  cases its with
  | nil => simpa using hx
  | cons q2 r2 =>
   rw [List.map_cons, List.flatten_cons, List.cons_append] at h2
   exact Nx.sg h2 (by decide +kernel)
 have a := hi 0 q rfl i h1 nx
 rw [List.take_zero, List.map_nil] at a
 have b := many_ok (item := item) (full := full) hj hx its [q.2] (i + q.1.length) (fun k hk => by
  have := hf (k + 1) (by simp; omega)
  rw [List.take_succ_cons, List.map_cons] at this
  exact this) h2 (by omega) (fun k q' hq' i a1 a2 => by
  have := hi (k + 1) q' hq' i a1 a2
  rw [List.take_succ_cons, List.map_cons] at this
  exact this)
 exact .inr ⟨_, _, a, b⟩
end
section
variable {ts : List Th}
theorem atom_ok {pl : Bool} {w x : Str} {as : List TermE} {i : Nat} (hs : srtN x = "full" ∨ pl = true) (h1 : 1 ≤ as.length) (h4 : as.length ≤ 4) (ht : ∀ t ∈ as, TermG t) (h : At ts i (atomK x as)) : AtomR ts pl w i (.ok (.tuple [.str w, .str x, .tuple (as.map TermE.d)], i + (atomK x as).length)) := by
 obtain ⟨t, r, rfl⟩ : ∃ t r, as = t :: r := by
  cases as with
  | nil => simp at h1
  | cons t r => exact ⟨t, r, rfl⟩
 unfold atomK at h ⊢
 obtain ⟨hi, g1, g2, k1⟩ := h.hd
 obtain ⟨hi2, g3, g4, k2⟩ := k1.hd
 obtain ⟨k3, k4⟩ := At.app k2
 have o := At.is k1 "sign" "("
 have c := At.is k4 "sign" ")"
 have sn : srtN x = "full" ∨ srtN x = "name" := by unfold srtN; split <;> simp
 have em : (((t :: r).map fun t => (termK t, t.d)).map (·.1)) = (t :: r).map termK := by rw [List.map_map]; rfl
 have ed : (((t :: r).map fun t => (termK t, t.d)).map (·.2)) = (t :: r).map TermE.d := by rw [List.map_map]; rfl
 have sq := seq_ok (ts := ts) (item := fun _ => TermR ts) (full := fun ds => decide (ds.length = 4)) (q := (termK t, t.d)) (its := r.map fun t => (termK t, t.d)) (i := i + 2) (fun k hk => by
   refine decide_eq_false ?_
   rw [List.length_map, List.length_take]
   simp at hk h4 ⊢
   omega) (by
   have : ((termK t, t.d) :: r.map fun t => (termK t, t.d)).map (·.1) = (t :: r).map termK := em
   rw [this]; exact k3) (by
   have : ((termK t, t.d) :: r.map fun t => (termK t, t.d)).map (·.1) = (t :: r).map termK := em
   rw [this, show i + 2 + (listK ((t :: r).map termK)).length = i + 1 + 1 + (listK ((t :: r).map termK)).length by omega, At.is k4]; decide +kernel) (by
   have : ((termK t, t.d) :: r.map fun t => (termK t, t.d)).map (·.1) = (t :: r).map termK := em
   rw [this, show i + 2 + (listK ((t :: r).map termK)).length = i + 1 + 1 + (listK ((t :: r).map termK)).length by omega]; exact Nx.sg k4 (by decide +kernel)) (fun k q' hq i' a1 a2 => by
   have : (t :: r)[k]?.map (fun t => (termK t, t.d)) = some q' := by rw [← List.getElem?_map]; exact hq
   cases e : (t :: r)[k]? with
   | none => rw [e] at this; cases this
   | some t' =>
    rw [e] at this
    cases this
    exact term_ok (ht t' (List.mem_of_getElem? e)) a1)
 have e1 : ((termK t, t.d) :: r.map fun t => (termK t, t.d)).map (·.1) = (t :: r).map termK := em
 have e2 : ((termK t, t.d) :: r.map fun t => (termK t, t.d)).map (·.2) = (t :: r).map TermE.d := ed
 rw [e1, e2] at sq
 unfold AtomR
 rw [if_neg, if_neg (by rw [o]; decide +kernel)]
 ·refine .inr ⟨_, _, sq, ?_⟩
  rw [show i + 2 + (listK ((t :: r).map termK)).length = i + 1 + 1 + (listK ((t :: r).map termK)).length by omega, if_pos (by rw [c]; decide +kernel), g2]
  rw [show i + ((srtN x, V.str x) :: sgK "(" :: (listK ((t :: r).map termK) ++ [sgK ")"])).length = i + 1 + 1 + (listK ((t :: r).map termK)).length + 1 by simp; omega]
  rfl
 ·rw [g1]
  intro z
  rcases hs with k | k
  ·exact z (.inl k)
  ·rcases sn with e | e
   ·exact z (.inl e)
   ·exact z (.inr ⟨e, k⟩)
def PartOk (pl : Bool) : PartE → Prop
 | .atom _ x as => (srtN x = "full" ∨ pl = true) ∧ 1 ≤ as.length ∧ as.length ≤ 4 ∧ ∀ t ∈ as, TermG t
 | .lt _ e => SumG 1 e
 | .test s a b => s ∈ testsW ∧ SumG 1 a ∧ SumG 1 b
theorem sum_hd : ∀ (e : SumE) {k : Nat}, SumG k e → ∀ {z : Str} {q : List (Str × V)}, z ≠ "(" → ∃ t r, sumK e ++ sgK z :: q = t :: r ∧ (t.1 = "sign" ∨ t.1 = "value" ∨ (t.1 = "name" ∧ ∃ z' r', r = sgK z' :: r' ∧ z' ≠ "("))
 | .val u, _, _, z, q, hz => ⟨_, _, rfl, .inr (.inl rfl)⟩
 | .var x, _, _, z, q, hz => ⟨_, _, rfl, .inr (.inr ⟨rfl, _, _, rfl, hz⟩)⟩
 | .op s a b, k, hw, z, q, hz => by
  obtain ⟨k, hs, ha⟩ : ∃ k', isSg s ∧ SumG k' a := by
   cases hw with
   | op h1 h2 h3 => exact ⟨_, h1, h2⟩
  have sne : s ≠ "(" := by rcases hs with rfl | rfl | rfl <;> decide +kernel
  show ∃ t r, (wrapK (if s = "*" then 2 else 1) a (sumK a) ++ sgK s :: wrapK ((if s = "*" then 2 else 1) + 1) b (sumK b)) ++ sgK z :: q = t :: r ∧ _
  generalize wrapK ((if s = "*" then 2 else 1) + 1) b (sumK b) = w2
  generalize (if s = "*" then 2 else 1) = p
  unfold wrapK
  by_cases c : tightE a < p
  ·rw [if_pos c]
   exact ⟨sgK "(", _, rfl, .inl rfl⟩
  ·rw [if_neg c]
   obtain ⟨t, r, e, h⟩ := sum_hd a ha (z := s) (q := w2 ++ sgK z :: q) sne
   exact ⟨t, r, by rw [List.append_assoc]; exact e, h⟩
theorem part_ok {m pl : Bool} {p : PartE} {i : Nat} (hp : PartOk pl p) (h : At ts i (partK p)) (hn : Nx ts (i + (partK p).length)) : PartR ts m pl i (.ok (p.d, i + (partK p).length)) := by
 cases p with
 | atom no x as =>
  obtain ⟨h0, h1, h2, h3⟩ := hp
  cases no with
  | true =>
   have h' : At ts i (("kept", .str "not") :: atomK x as) := h
   have c := At.is h' "kept" "not"
   obtain ⟨_, _, _, k1⟩ := h'.hd
   unfold PartR
   rw [if_pos (by rw [c]; decide +kernel)]
   have z := atom_ok (w := "not") h0 h1 h2 h3 k1
   rw [show i + (partK (.atom true x as)).length = i + 1 + (atomK x as).length by show i + ((("kept" : Str), V.str "not") :: atomK x as).length = _; simp; omega]
   exact z
  | false =>
   have h' : At ts i (atomK x as) := h
   have h2' : At ts i ((srtN x, .str x) :: sgK "(" :: (listK (as.map termK) ++ [sgK ")"])) := h
   obtain ⟨_, g1, _, k1⟩ := h2'.hd
   have sn : srtN x ∈ (["full", "name"] : List Str) ∧ srtN x ≠ "kept" := by
    unfold srtN
    split
    ·exact ⟨by simp, by decide +kernel⟩
    ·exact ⟨by simp, by decide +kernel⟩
   unfold PartR
   rw [if_neg (by rw [At.isO h2' sn.2]; exact Bool.false_ne_true), if_pos ⟨by rw [g1]; exact sn.1, by rw [At.is k1]; decide +kernel⟩]
   exact atom_ok (w := "atom") h0 h1 h2 h3 h'
 | lt x e =>
  have h' : At ts i (("name", .str x) :: ("kept", .str "is") :: sumK e) := h
  obtain ⟨_, g1, g2, k1⟩ := h'.hd
  obtain ⟨_, _, _, k2⟩ := k1.hd
  have el : i + (partK (.lt x e)).length = i + 2 + (sumK e).length := by show i + ((("name" : Str), V.str x) :: (("kept" : Str), V.str "is") :: sumK e).length = _; simp; omega
  rw [el] at hn ⊢
  have z := sum_ok (m := m) (n := 12) hp (Nat.le_trans (SumG.dp hp) (by decide)) k2 hn
  unfold PartR
  rw [if_neg (by rw [At.isO h' (by decide +kernel)]; exact Bool.false_ne_true), if_neg, if_pos ⟨g1, by rw [At.is k1]; decide +kernel⟩]
  ·refine .inr ⟨_, _, z, ?_⟩
   rw [g2]
   rfl
  ·rintro ⟨_, k⟩
   rw [At.isO k1 (by decide +kernel)] at k
   cases k
 | test s a b =>
  obtain ⟨hs, ha, hb⟩ := hp
  have h' : At ts i (sumK a ++ sgK s :: sumK b) := h
  have sne : s ≠ "(" := by
   have : ∀ s ∈ testsW, s ≠ "(" := by decide +kernel
   exact this s hs
  obtain ⟨t, r, e, ht⟩ := sum_hd a ha (z := s) (q := sumK b) sne
  have h2 := h'
  rw [e] at h2
  obtain ⟨t1, t2⟩ := t
  obtain ⟨_, g1, g2, k1⟩ := h2.hd
  have z := test_ok (m := m) hs ha hb (by decide) h' hn
  have nk : t1 ≠ "kept" := by
   rcases ht with k | k | ⟨k, _⟩ <;> (have k' : t1 = _ := k; rw [k']; decide +kernel)
  unfold PartR
  rw [if_neg (by rw [At.isO h2 nk]; exact Bool.false_ne_true), if_neg, if_neg]
  ·exact z
  ·rintro ⟨k, k'⟩
   rw [g1] at k
   rcases ht with q | q | ⟨_, z', r', q, hz⟩
   ·have q' : t1 = _ := q; rw [q'] at k; exact absurd k (by decide +kernel)
   ·have q' : t1 = _ := q; rw [q'] at k; exact absurd k (by decide +kernel)
   ·rw [q] at k1
    rw [At.isO k1 (by decide +kernel)] at k'
    cases k'
  ·rintro ⟨k, k'⟩
   rw [g1] at k
   rcases ht with q | q | ⟨_, z', r', q, hz⟩
   ·have q' : t1 = _ := q; rw [q'] at k; exact absurd k (by decide +kernel)
   ·have q' : t1 = _ := q; rw [q'] at k; exact absurd k (by decide +kernel)
   ·rw [q] at k1
    rw [At.is k1, decide_eq_false hz, Bool.and_false] at k'
    cases k'
def ArgOk : ArgE → Prop
 | .s e => SumG 0 e
 | .fold w none => w = "count"
 | .fold w (some _) => w ∈ foldsW
theorem arg_ok {b : Bool} {a : ArgE} {i : Nat} (ha : ArgOk a) (hb : isFoldE a = true → b = false) (h : At ts i (argK a)) : ArgR ts b i (.ok (a.d, i + (argK a).length)) := by
 unfold ArgR
 cases a with
 | s e =>
  cases (show SumG 0 e from ha) with
  | @val _ u hu =>
   obtain ⟨_, g1, g2, _⟩ := At.hd (show At ts i (("value", u) :: []) from h)
   rw [if_pos g1]
   unfold valD
   rw [g2]
   rfl
  | @var _ x hx =>
   obtain ⟨_, g1, g2, _⟩ := At.hd (show At ts i (("name", .str x) :: []) from h)
   rw [if_neg (by rw [g1]; decide +kernel), if_pos (by rw [g1]; decide +kernel), if_pos g1]
   unfold varD
   rw [g2]
   rfl
 | fold w o =>
  have hb := hb rfl
  subst hb
  cases o with
  | none =>
   have hw : w = "count" := ha
   subst hw
   obtain ⟨_, g1, g2, _⟩ := At.hd (show At ts i (("kept", .str "count") :: []) from h)
   rw [if_neg (by rw [g1]; decide +kernel), if_neg (by rw [g1]; decide +kernel), if_neg, if_pos g2, g2]
   ·rfl
   ·rintro (k | ⟨k, _⟩)
    ·cases k
    ·exact k g2
  | some x =>
   have hw : w ∈ foldsW := ha
   obtain ⟨_, g1, g2, k1⟩ := At.hd (show At ts i (("kept", .str w) :: ("name", .str x) :: []) from h)
   obtain ⟨_, g3, g4, _⟩ := k1.hd
   have wc : w ≠ "count" := by
    have : ∀ w ∈ foldsW, w ≠ "count" := by decide +kernel
    exact this w hw
   rw [if_neg (by rw [g1]; decide +kernel), if_neg (by rw [g1]; decide +kernel), if_neg, if_neg, if_pos g3, g2, g4]
   ·rfl
   ·rw [g2]; intro k; injection k with k; exact wc k
   ·rintro (k | ⟨_, k⟩)
    ·cases k
    ·rw [g2] at k; exact k (List.mem_map_of_mem hw)
end
def kpK (z : Str) : Str × V := ("kept", .str z)
def endK : Str × V := ("end", .str "")
def ruleK (r : Str × List ArgE × List PartE) : List (Str × V) := ("name", .str r.1) :: sgK "(" :: (listK (r.2.1.map argK) ++ sgK ")" :: (if r.2.2 = [] then [] else kpK "if" :: listK (r.2.2.map partK)))
def questK (r : List ArgE × List PartE) : List (Str × V) := listK (r.1.map argK) ++ kpK "if" :: listK (r.2.map partK)
def Whole (ts : List Th) (q : List (Str × V)) : Prop := ts.map thP = q ++ [endK]
section
variable {ts : List Th}
theorem Whole.at {q : List (Str × V)} (h : Whole ts q) : At ts 0 q := by
 have h : ts.map thP = q ++ [endK] := h
 exact ⟨[endK], by simp, by rw [List.drop_zero]; exact h⟩
theorem Whole.end_ {q : List (Str × V)} (h : Whole ts q) : q.length < ts.length ∧ (tkn ts q.length).s = "end" := by
 have h : ts.map thP = q ++ [endK] := h
 have l := congrArg List.length h
 rw [List.length_map, List.length_append, List.length_singleton] at l
 have hi : q.length < ts.length := by omega
 refine ⟨hi, ?_⟩
 have e1 : ts[q.length]? = some ts[q.length] := List.getElem?_eq_getElem hi
 have et : tkn ts q.length = ts[q.length] := by unfold tkn; rw [List.getD_eq_getElem?_getD, e1]; rfl
 have e2 := congrArg (fun l => l[q.length]?) h
 simp only [List.getElem?_map, e1, List.getElem?_append_right (Nat.le_refl _), Nat.sub_self, Option.map_some] at e2
 have e3 := Option.some.inj e2
 rw [et]
 exact congrArg Prod.fst e3
theorem Whole.isO {q : List (Str × V)} (h : Whole ts q) {s z : Str} (hs : ("end" : Str) ≠ s) : isT ts q.length s z = false := by
 obtain ⟨hi, e⟩ := h.end_
 unfold isT
 rw [th_tk hi, e, decide_eq_false hs, Bool.false_and]
theorem Whole.nx {q : List (Str × V)} (h : Whole ts q) : Nx ts q.length := Nx.e h.end_.2 h.end_.1
theorem Whole.fin {q : List (Str × V)} (h : Whole ts q) (d : PyData) : EndR ts d q.length (.ok (d, q.length)) := by
 unfold EndR
 rw [if_pos h.end_.2]
theorem seqT_list {α : Type} {f : α → List (Str × V)} {g : α → PyData} {item : List PyData → Nat → Res → Prop} {full : List PyData → Bool} {as : List α} {i : Nat} (hne : as ≠ []) (hf : ∀ k, k < as.length → full ((as.take k).map g) = false) (h : At ts i (listK (as.map f)))
  (hj : isT ts (i + (listK (as.map f)).length) "sign" "," = false) (hx : Nx ts (i + (listK (as.map f)).length)) (hi : ∀ k a, as[k]? = some a → ∀ i, At ts i (f a) → Nx ts (i + (f a).length) → item ((as.take k).map g) i (.ok (g a, i + (f a).length))) :
  SeqT ts item full i (.ok (.tuple (as.map g), i + (listK (as.map f)).length)) := by
 obtain ⟨a, r, rfl⟩ : ∃ a r, as = a :: r := by
  cases as with
  | nil => exact absurd rfl hne
  | cons a r => exact ⟨a, r, rfl⟩
 have e0 : (f a, g a) :: r.map (fun a => (f a, g a)) = (a :: r).map fun a => (f a, g a) := rfl
 have e1 : ((f a, g a) :: r.map (fun a => (f a, g a))).map (·.1) = (a :: r).map f := by rw [e0, List.map_map]; rfl
 have e2 : ((f a, g a) :: r.map (fun a => (f a, g a))).map (·.2) = (a :: r).map g := by rw [e0, List.map_map]; rfl
 have et : ∀ k, (((f a, g a) :: r.map (fun a => (f a, g a))).take k).map (·.2) = ((a :: r).take k).map g := fun k => by rw [List.map_take, e2, List.map_take]
 have sq := seq_ok (ts := ts) (item := item) (full := full) (q := (f a, g a)) (its := r.map fun a => (f a, g a)) (i := i) (fun k hk => by
   rw [et]
   refine hf k ?_
   rw [e0, List.length_map] at hk
   exact hk) (by rw [e1]; exact h) (by rw [e1]; exact hj) (by rw [e1]; exact hx) (fun k q' hq i' a1 a2 => by
   rw [et]
   rw [e0, List.getElem?_map] at hq
   cases e : (a :: r)[k]? with
   | none => rw [e] at hq; cases hq
   | some t' =>
    rw [e] at hq
    cases hq
    exact hi k t' e i' a1 a2)
 rw [e1, e2] at sq
 exact .inr ⟨_, _, sq, rfl⟩
theorem isFold_d {a : ArgE} (h : ArgOk a) : isFold a.d = isFoldE a := by
 cases a with
 | s e =>
  cases (show SumG 0 e from h) with
  | @val _ u hu => exact (decide_eq_false (by decide +kernel) : decide (("value" : Str) = "fold") = false)
  | @var _ x hx => exact (decide_eq_false (by decide +kernel) : decide (("var" : Str) = "fold") = false)
 | fold w o => cases o <;> exact (decide_eq_true rfl : decide (("fold" : Str) = "fold") = true)
theorem args_ok {as : List ArgE} {i : Nat} (h1 : 1 ≤ as.length) (h4 : as.length ≤ 4) (ha : ∀ a ∈ as, ArgOk a) (one : FoldOne as) (h : At ts i (listK (as.map argK))) (hj : isT ts (i + (listK (as.map argK)).length) "sign" "," = false) (hx : Nx ts (i + (listK (as.map argK)).length)) :
  ArgsR ts i (.ok (argsD as, i + (listK (as.map argK)).length)) := by
 refine seqT_list (f := argK) (g := ArgE.d) (fun e => by rw [e] at h1; exact absurd h1 (by decide)) (fun k hk => decide_eq_false (by rw [List.length_map, List.length_take]; omega)) h hj hx fun k a hk i' a1 a2 => ?_
 refine arg_ok (ha a (List.mem_of_getElem? hk)) (fun hf => ?_) a1
 rw [Bool.eq_false_iff]
 intro c
 rw [List.any_eq_true] at c
 obtain ⟨d, hd, hfd⟩ := c
 obtain ⟨x, hxm, rfl⟩ := List.mem_map.mp hd
 obtain ⟨j, hj2⟩ := List.mem_iff_getElem?.mp hxm
 rw [List.getElem?_take] at hj2
 split at hj2
 ·rename_i c
  rw [isFold_d (ha x (List.mem_of_getElem? hj2))] at hfd
  have := one j k x a hj2 hk hfd hf
  omega
 ·cases hj2
theorem parts_ok {m pl : Bool} {most : Nat} {ps : List PartE} {i : Nat} (h1 : ps ≠ []) (h4 : ps.length ≤ most) (hp : ∀ p ∈ ps, PartOk pl p) (h : At ts i (listK (ps.map partK))) (hj : isT ts (i + (listK (ps.map partK)).length) "sign" "," = false) (hx : Nx ts (i + (listK (ps.map partK)).length)) :
  PartsR ts m pl most i (.ok (partsD ps, i + (listK (ps.map partK)).length)) :=
 seqT_list (f := partK) (g := PartE.d) h1 (fun k hk => decide_eq_false (by rw [List.length_map, List.length_take]; omega)) h hj hx fun k a hk i' a1 a2 => part_ok (hp a (List.mem_of_getElem? hk)) a1 a2
def RuleOk (r : Str × List ArgE × List PartE) : Prop := 1 ≤ r.2.1.length ∧ r.2.1.length ≤ 4 ∧ (∀ a ∈ r.2.1, ArgOk a) ∧ FoldOne r.2.1 ∧ r.2.2.length ≤ 6 ∧ ∀ p ∈ r.2.2, PartOk true p
def QuestOk (r : List ArgE × List PartE) : Prop := 1 ≤ r.1.length ∧ r.1.length ≤ 4 ∧ (∀ a ∈ r.1, ArgOk a) ∧ FoldOne r.1 ∧ r.2 ≠ [] ∧ r.2.length ≤ 8 ∧ ∀ p ∈ r.2, PartOk false p
theorem rule_ok {r : Str × List ArgE × List PartE} (hr : RuleOk r) (h : Whole ts (ruleK r)) : RuleR ts (.ok (ruleD r, (ruleK r).length)) := by
 obtain ⟨hd, as, ps⟩ := r
 obtain ⟨r1, r2, r3, r4, r5, r6⟩ := hr
 have h0 : At ts 0 (("name", .str hd) :: sgK "(" :: (listK (as.map argK) ++ sgK ")" :: (if ps = [] then [] else kpK "if" :: listK (ps.map partK)))) := h.at
 obtain ⟨_, g1, g2, k1⟩ := h0.hd
 have o := At.is k1 "sign" "("
 obtain ⟨_, _, _, k2⟩ := k1.hd
 obtain ⟨k3, k4⟩ := k2.app
 have c := At.is k4 "sign" ")"
 obtain ⟨_, _, _, k5⟩ := k4.hd
 have a := args_ok r1 r2 r3 r4 k3 (by rw [At.is k4]; decide +kernel) (Nx.sg k4 (by decide +kernel))
 have el : (ruleK (hd, as, ps)).length = 0 + 1 + 1 + (listK (as.map argK)).length + 1 + (if ps = [] then ([] : List (Str × V)) else kpK "if" :: listK (ps.map partK)).length := by
  show ((("name" : Str), V.str hd) :: sgK "(" :: (listK (as.map argK) ++ sgK ")" :: (if ps = [] then [] else kpK "if" :: listK (ps.map partK)))).length = _
  simp only [List.length_cons, List.length_append]
  omega
 have fin := h.fin
 have nx := h.nx
 have iso : ∀ {s z : Str}, ("end" : Str) ≠ s → isT ts (ruleK (hd, as, ps)).length s z = false := fun hs => h.isO hs
 rw [el] at fin nx iso ⊢
 unfold RuleR
 rw [if_pos g1, if_pos (by rw [o]; decide +kernel)]
 refine .inr ⟨_, _, a, ?_⟩
 show if isT ts (0 + 1 + 1 + (listK (as.map argK)).length) "sign" ")" = true then _ else _
 rw [if_pos (by rw [c]; decide +kernel), g2]
 by_cases e : ps = []
 ·subst e
  rw [if_pos rfl] at fin nx iso ⊢
  rw [if_neg (by
   have := iso (s := "kept") (z := "if") (by decide +kernel)
   intro x
   rw [show 0 + 1 + 1 + (listK (as.map argK)).length + 1 + ([] : List (Str × V)).length = 0 + 1 + 1 + (listK (as.map argK)).length + 1 from rfl, x] at this
   cases this)]
  exact fin _
 ·rw [if_neg e] at k5 fin nx iso ⊢
  have i1 := At.is k5 "kept" "if"
  obtain ⟨_, _, _, k6⟩ := k5.hd
  rw [if_pos (by rw [i1]; decide +kernel)]
  have e2 : 0 + 1 + 1 + (listK (as.map argK)).length + 1 + (kpK "if" :: listK (ps.map partK)).length = 0 + 1 + 1 + (listK (as.map argK)).length + 1 + 1 + (listK (ps.map partK)).length := by rw [List.length_cons]; omega
  rw [e2] at fin nx iso ⊢
  exact .inr ⟨_, _, parts_ok e r5 r6 k6 (iso (by decide +kernel)) nx, fin _⟩
theorem quest_ok {r : List ArgE × List PartE} (hr : QuestOk r) (h : Whole ts (questK r)) : QuestionR ts (.ok (questD r, (questK r).length)) := by
 obtain ⟨as, ps⟩ := r
 obtain ⟨r1, r2, r3, r4, r5, r6, r7⟩ := hr
 have h0 : At ts 0 (listK (as.map argK) ++ kpK "if" :: listK (ps.map partK)) := h.at
 obtain ⟨k3, k4⟩ := h0.app
 have i1 := At.is k4 "kept" "if"
 obtain ⟨_, _, _, k5⟩ := k4.hd
 have a := args_ok r1 r2 r3 r4 k3 (At.isO k4 (by decide +kernel)) (Nx.o k4 (by decide +kernel))
 have el : (questK (as, ps)).length = 0 + (listK (as.map argK)).length + 1 + (listK (ps.map partK)).length := by
  show (listK (as.map argK) ++ kpK "if" :: listK (ps.map partK)).length = _
  simp only [List.length_cons, List.length_append]
  omega
 have fin := h.fin
 have nx := h.nx
 have iso : ∀ {s z : Str}, ("end" : Str) ≠ s → isT ts (questK (as, ps)).length s z = false := fun hs => h.isO hs
 rw [el] at fin nx iso ⊢
 refine .inr ⟨_, _, a, ?_⟩
 show if isT ts (0 + (listK (as.map argK)).length) "kept" "if" = true then _ else _
 rw [if_pos (by rw [i1]; decide +kernel)]
 exact .inr ⟨_, _, parts_ok r5 r6 r7 k5 (iso (by decide +kernel)) nx, fin _⟩
def repK (k : Nat) (s : Str) : List (Str × V) := List.replicate k (sgK s)
theorem deep_ok {m : Bool} {e : SumE} {k : Nat} (hw : SumG k e) : ∀ (j n i : Nat), e.deep + j ≤ n → At ts i (repK j "(" ++ sumK e ++ repK j ")") → Nx ts (i + (repK j "(" ++ sumK e ++ repK j ")").length) → SumN ts m n i (.ok (e.d, i + (repK j "(" ++ sumK e ++ repK j ")").length))
 | 0, n, i, hd, h, hx => by
  have e1 : repK 0 "(" ++ sumK e ++ repK 0 ")" = sumK e := by simp [repK]
  rw [e1] at h hx ⊢
  exact sum_ok hw hd h hx
 | j + 1, n, i, hd, h, hx => by
  obtain ⟨n, rfl⟩ : ∃ n', n = n' + 1 := ⟨n - 1, by omega⟩
  have e1 : repK (j + 1) "(" ++ sumK e ++ repK (j + 1) ")" = sgK "(" :: ((repK j "(" ++ sumK e ++ repK j ")") ++ [sgK ")"]) := by
   unfold repK
   rw [List.replicate_succ, List.replicate_succ']
   simp
  rw [e1] at h hx ⊢
  obtain ⟨_, _, _, h3⟩ := h.hd
  obtain ⟨h4, h5⟩ := At.app h3
  have s := deep_ok (m := m) hw j n (i + 1) (by omega) h4 (Nx.sg h5 (by decide +kernel))
  have lf := wrap_leaf (m := m) h s
  have el : i + (sgK "(" :: ((repK j "(" ++ sumK e ++ repK j ")") ++ [sgK ")"])).length = i + 1 + (repK j "(" ++ sumK e ++ repK j ")").length + 1 := by rw [List.length_cons, List.length_append, List.length_singleton]; omega
  rw [el] at hx ⊢
  exact sumN_ch _ i _ (.inr ⟨_, _, .inr ⟨_, _, lf, stop2 hx.1⟩, stop1 hx.2.1 hx.2.2⟩)
theorem sum_first : ∀ e : SumE, ∃ t r, sumK e = t :: r ∧ t.1 ≠ "end"
 | .val u => ⟨_, _, rfl, (by decide +kernel : (("value" : Str) ≠ "end"))⟩
 | .var x => ⟨_, _, rfl, (by decide +kernel : (("name" : Str) ≠ "end"))⟩
 | .op s a b => by
  show ∃ t r, wrapK (if s = "*" then 2 else 1) a (sumK a) ++ sgK s :: wrapK ((if s = "*" then 2 else 1) + 1) b (sumK b) = t :: r ∧ _
  generalize wrapK ((if s = "*" then 2 else 1) + 1) b (sumK b) = w2
  generalize (if s = "*" then 2 else 1) = p
  unfold wrapK
  split
  ·exact ⟨sgK "(", _, rfl, by decide +kernel⟩
  ·obtain ⟨t, r, e, h⟩ := sum_first a
   exact ⟨t, r ++ sgK s :: w2, by rw [e]; rfl, h⟩
theorem tests1_ok {e1 e2 : SumE} {s : Str} {k1 k2 j : Nat} (hs : s ∈ testsW) (h1 : SumG k1 e1) (h2 : SumG k2 e2) (hd : e1.deep + j ≤ 12) (hk : k2 ≤ 12) (h : Whole ts (repK j "(" ++ sumK e1 ++ repK j ")" ++ sgK s :: sumK e2)) :
  TestsR ts (.ok (.tuple [(PartE.test s e1 e2).d], (repK j "(" ++ sumK e1 ++ repK j ")" ++ sgK s :: sumK e2).length)) := by
 have h0 := h.at
 obtain ⟨ha, hb⟩ := h0.app
 have sne : s ∉ (["*", "+", "-"] : List Str) := by
  have : ∀ s ∈ testsW, s ∉ (["*", "+", "-"] : List Str) := by decide +kernel
  exact this s hs
 obtain ⟨_, g1, g2, hc⟩ := hb.hd
 have ra := deep_ok (m := true) h1 j 12 0 hd ha (Nx.sg hb sne)
 have fin := h.fin
 have nx := h.nx
 have iso : ∀ {s' z : Str}, ("end" : Str) ≠ s' → isT ts (repK j "(" ++ sumK e1 ++ repK j ")" ++ sgK s :: sumK e2).length s' z = false := fun hs => h.isO hs
 have el : (repK j "(" ++ sumK e1 ++ repK j ")" ++ sgK s :: sumK e2).length = 0 + (repK j "(" ++ sumK e1 ++ repK j ")").length + 1 + (sumK e2).length := by rw [List.length_append (bs := sgK s :: sumK e2), List.length_cons]; omega
 rw [el] at fin nx iso ⊢
 have rb := sum_ok (m := true) h2 (Nat.le_trans h2.dp hk) hc nx
 have it : isTest (tkn ts (0 + (repK j "(" ++ sumK e1 ++ repK j ")").length)) = true := by
  unfold isTest
  rw [g1, g2, decide_eq_true rfl, decide_eq_true (List.mem_map_of_mem hs)]
  rfl
 have z := testR_ok ra it rb
 rw [g2] at z
 have t0 : (tkn ts 0).s ≠ "end" := by
  obtain ⟨t, r, e, ht⟩ : ∃ t r, repK j "(" ++ sumK e1 ++ repK j ")" = t :: r ∧ t.1 ≠ "end" := by
   cases j with
   | succ j => exact ⟨sgK "(", repK j "(" ++ sumK e1 ++ repK (j + 1) ")", rfl, by decide +kernel⟩
   | zero =>
    obtain ⟨t, r, e, ht⟩ := sum_first e1
    exact ⟨t, r ++ repK 0 ")", by rw [e]; rfl, ht⟩
  rw [e] at ha
  obtain ⟨t1, t2⟩ := t
  obtain ⟨_, g, _, _⟩ := ha.hd
  rw [g]
  exact ht
 unfold TestsR
 rw [if_neg t0]
 exact .inr ⟨_, _, .inr ⟨_, _, .inr ⟨_, _, z, .stop (iso (by decide +kernel))⟩, rfl⟩, fin _⟩
end
def SpA (l : List Nat) (q : List (Str × V)) : Prop := ∀ last, Spell last l q
def SpF (l : List Nat) (q : List (Str × V)) : Prop := ∀ last, lastF last = true → Spell last l q
theorem SpA.f {l : List Nat} {q : List (Str × V)} (h : SpA l q) : SpF l q := fun last _ => h last
theorem SpA.bl {l : List Nat} {q : List (Str × V)} (h : SpA l q) : SpA (32 :: l) q := fun last => .blank (h last)
theorem SpF.bl {l : List Nat} {q : List (Str × V)} (h : SpF l q) : SpF (32 :: l) q := fun last k => .blank (h last k)
theorem SpA.sg {c : Nat} {l : List Nat} {q : List (Str × V)} (hc : c ∈ sgnL) (h45 : c = 45 → noFig l = true) (h60 : c = 60 ∨ c = 62 → l.head? ≠ some 61) (hf : c ≠ 41) (h : SpF l q) : SpA (c :: l) (sgK (tx [c]) :: q) := fun last => .sign hc (fun e => .inl (h45 e)) h60 (h _ (by
 have : ∀ c ∈ sgnL, c ≠ 41 → lastF (some (sgK (tx [c]))) = true := by decide +kernel
 exact this c hc hf))
theorem SpA.cl {l : List Nat} {q : List (Str × V)} (h : SpA l q) : SpA (41 :: l) (sgK ")" :: q) := fun last => .sign (c := 41) (by decide) (fun e => absurd e (by decide)) (fun e => absurd e (by decide)) (h _)
def Say (t : List Nat) (k : List (Str × V)) : Prop := ∀ l q, noRun l = true → SpA l q → SpF (t ++ l) (k ++ q)
theorem say_run {x : Str} {s : Str} {v : V} {c : Nat} {w : List Nat} (e : x.cps.toList = c :: w) (hc : isRun c = true ∨ (c = 45 ∧ noFig w = false)) (hw : w.all isRun = true) (hr : runT x = some (s, v)) : Say x.cps.toList [(s, v)] := fun l q hl h last hf => by
 rw [e]
 have et : tx (c :: w) = x := str_ext (by rw [tx_list, e])
 refine .run (hc.imp id fun k => ⟨k.1, ?_, hf⟩) hw hl (by rw [et]; exact hr) (h _)
 cases w with
 | nil => exact absurd k.2 (by decide)
 | cons d r => exact k.2
theorem say_runF {x : Str} {s : Str} {v : V} {c : Nat} {w l : List Nat} {q : List (Str × V)} (e : x.cps.toList = c :: w) (hc : isRun c = true) (hw : w.all isRun = true) (hr : runT x = some (s, v)) (hf : lastF (some (s, v)) = true) (hl : noRun l = true) (h : SpF l q) : SpA (x.cps.toList ++ l) ((s, v) :: q) := fun last => by
 rw [e]
 have et : tx (c :: w) = x := str_ext (by rw [tx_list, e])
 exact .run (.inl hc) hw hl (by rw [et]; exact hr) (h _ hf)
theorem VarN.good {x : Str} (h : VarN x) : goodW x = true := by
 obtain ⟨⟨c, r, e, hc, hr, hl⟩, _⟩ := h
 unfold goodW goodL
 rw [e]
 simp only [decide_eq_true hl, hc, Bool.true_and, List.all_cons, Bool.true_or, List.all_eq_true]
 exact hr
theorem VarN.name {x : Str} (h : VarN x) : nameB x = true := by
 unfold nameB
 rw [h.good, decide_eq_false (show ¬ x ∈ keptW from h.2)]
 rfl
theorem runT_name {x : Str} (h : VarN x) : runT x = some (("name" : Str), V.str x) := by
 have n : ¬ x ∈ keptW := h.2
 unfold runT
 rw [if_neg, if_neg n, if_pos h.name]
 rintro (e | e)
 ·exact n (by rw [e]; decide +kernel)
 ·exact n (by rw [e]; decide +kernel)
theorem let_run {c : Nat} (h : isLet c = true) : isRun c = true := by unfold isRun; rw [h]; rfl
theorem lf_run {c : Nat} (h : (isLet c || isFig c) = true) : isRun c = true := by unfold isRun; rw [h]; rfl
theorem VarN.cps {x : Str} (h : VarN x) : ∃ c w, x.cps.toList = c :: w ∧ isRun c = true ∧ isLet c = true ∧ w.all isRun = true ∧ 46 ∉ x.cps.toList := by
 obtain ⟨⟨c, r, e, hc, hr, hl⟩, _⟩ := h
 refine ⟨c, r, e, let_run hc, hc, List.all_eq_true.mpr fun d hd => lf_run (hr d hd), fun hm => ?_⟩
 rw [e] at hm
 have z : (isLet 46 || isFig 46) = true := by
  rcases List.mem_cons.mp hm with k | k
  ·rw [k, hc]; rfl
  ·exact hr _ k
 exact absurd z (by decide)
theorem say_name {x : Str} (h : VarN x) : Say x.cps.toList [("name", .str x)] := by
 obtain ⟨c, w, e, hc, _, hw, _⟩ := h.cps
 exact say_run e (.inl hc) hw (runT_name h)
theorem dot_l : (".": Str).cps.toList = [46] := by decide +kernel
theorem full_say {x : Str} {ps : List Str} (hx : x = Txt.join "." ps) (hl : ps.length = 2 ∨ ps.length = 3) (hp : ∀ p ∈ ps, VarN p) (hc : ∃ c w, x.cps.toList = c :: w ∧ isRun c = true ∧ w.all isRun = true ∧ 46 ∈ x.cps.toList) : srtN x = "full" ∧ runT x = some (("full" : Str), V.str x) ∧ Say x.cps.toList [("full", .str x)] := by
 obtain ⟨c, w, e, h1, h2, h3⟩ := hc
 have sp : Txt.split x "." = ps := by
  rw [hx, show Txt.join "." ps = Txt.join "." ps from rfl]
  exact TL.split_join (y := ".") (s := 46) (S := []) (by decide +kernel) (by decide +kernel) (fun z => by rw [z] at hl; exact absurd hl (by decide)) fun p hpm => (hp p hpm).cps.choose_spec.choose_spec.2.2.2.2
 have fb : fullB x = true := by
  unfold fullB
  rw [sp, decide_eq_true hl, Bool.true_and]
  exact List.all_eq_true.mpr fun p hpm => (hp p hpm).name
 have ng : goodW x = false := by
  unfold goodW goodL
  rw [e] at h3 ⊢
  have : (c :: w).all (fun d => isLet d || isFig d) = false := by
   rw [List.all_eq_false]
   exact ⟨46, h3, by decide⟩
  simp only [this, Bool.and_false]
 have nn : nameB x = false := by unfold nameB; rw [ng]; rfl
 have nk : ¬ x ∈ keptW := fun hm => by
  have : ∀ z ∈ keptW, 46 ∉ z.cps.toList := by decide +kernel
  exact this x hm h3
 have rt : runT x = some (("full" : Str), V.str x) := by
  unfold runT
  rw [if_neg, if_neg nk, if_neg (by rw [nn]; exact Bool.false_ne_true), if_pos fb]
  rintro (z | z)
  ·exact nk (by rw [z]; decide +kernel)
  ·exact nk (by rw [z]; decide +kernel)
 refine ⟨by unfold srtN; rw [if_neg (by rw [nn]; exact Bool.false_ne_true)], rt, say_run e (.inl h1) h2 rt⟩
theorem NameD.say {x : Str} (h : NameD x) : Say x.cps.toList [(srtN x, .str x)] ∧ (46 ∈ x.cps.toList → srtN x = "full") := by
 have nxt : ∀ {a b : Str}, VarN a → VarN b → ∃ c w, (a ++ "." ++ b : Str).cps.toList = c :: w ∧ isRun c = true ∧ w.all isRun = true ∧ 46 ∈ (a ++ "." ++ b : Str).cps.toList := fun {a b} ha hb => by
  obtain ⟨c, w, e, h1, _, h2, _⟩ := ha.cps
  obtain ⟨c', w', e', h1', _, h2', _⟩ := hb.cps
  have ee : (a ++ "." ++ b : Str).cps.toList = c :: (w ++ 46 :: c' :: w') := by rw [tl_app, tl_app, e, e', dot_l]; simp
  refine ⟨c, _, ee, h1, ?_, by rw [ee]; simp⟩
  rw [List.all_append, h2, List.all_cons, List.all_cons, h1', h2']
  rfl
 cases h with
 | one h => exact ⟨by unfold srtN; rw [if_pos h.name]; exact say_name h, fun hm => absurd hm h.cps.choose_spec.choose_spec.2.2.2.2⟩
 | @two a b ha hb =>
  obtain ⟨s1, _, s2⟩ := full_say (x := a ++ "." ++ b) (ps := [a, b]) (by rw [join_cons]; rfl) (.inl rfl) (fun p hp => by
   simp only [List.mem_cons, List.not_mem_nil, or_false] at hp
   rcases hp with rfl | rfl
   ·exact ha
   ·exact hb) (nxt ha hb)
  exact ⟨by rw [s1]; exact s2, fun _ => s1⟩
 | @three a b c ha hb hc =>
  obtain ⟨d, w, e, h1, h2, h3⟩ := nxt ha hb
  obtain ⟨d', w', e', h1', _, h2', _⟩ := hc.cps
  have ee : (a ++ "." ++ b ++ "." ++ c : Str).cps.toList = d :: (w ++ 46 :: d' :: w') := by rw [tl_app, tl_app, e, e', dot_l]; simp
  obtain ⟨s1, _, s2⟩ := full_say (x := a ++ "." ++ b ++ "." ++ c) (ps := [a, b, c]) (by
   rw [join_cons, join_cons]
   refine str_ext ?_
   simp only [tl_app, List.append_assoc]
   rfl) (.inr rfl) (fun p hp => by
   simp only [List.mem_cons, List.not_mem_nil, or_false] at hp
   rcases hp with rfl | rfl | rfl
   ·exact ha
   ·exact hb
   ·exact hc) ⟨d, _, ee, h1, by rw [List.all_append, h2, List.all_cons, List.all_cons, h1', h2']; rfl, by rw [ee]; simp⟩
  exact ⟨by rw [s1]; exact s2, fun _ => s1⟩
theorem numL_head {n : Nat} (h : 1 ≤ n) : (TL.numL n).head? ≠ some 48 := by
 induction n using Nat.strongRecOn with
 | _ n ih =>
  by_cases h2 : n < 10
  ·rw [TL.numL_lt h2]
   simp
   omega
  ·rw [TL.numL_step (by omega)]
   have z := ih (n / 10) (by omega) (by omega)
   cases e : TL.numL (n / 10) with
   | nil => exact absurd e (TL.numL_ne _)
   | cons c r => rw [e] at z; simpa using z
theorem fig_all {l : List Nat} (h : NumText.AllDigits l) : l.all isFig = true := List.all_eq_true.mpr fun c hc => decide_eq_true (h c hc)
theorem num_ok {z : Str} {f : List Nat} {n : Nat} (hf : figL z.cps.toList = f) (hn : f = TL.numL n) (hb : n < 10 ^ 30) (h0 : z.cps.toList ≠ [45, 48]) : numB z = true := by
 have h1 : f.length ≤ 30 := by rw [hn]; exact TL.numL_len (by decide) hb
 have h2 : 1 ≤ f.length := by
  have := TL.numL_ne n
  rw [hn]
  exact List.length_pos_iff.mpr this
 unfold numB
 rw [hf, decide_eq_true ⟨h2, h1⟩, hn, fig_all (TL.numL_digits n), Bool.true_and, Bool.true_and]
 rw [decide_eq_false (show ¬ z = "-0" from fun e => h0 (by rw [e]; decide +kernel)), Bool.not_false, Bool.true_and]
 by_cases c : n = 0
 ·subst c
  rw [TL.numL_lt (by decide)]
  rfl
 ·rw [decide_eq_false (numL_head (by omega))]
  simp
theorem runT_num {z : Str} {n : Int} {c : Nat} {w : List Nat} (e : z.cps.toList = c :: w) (hc : isFig c = true ∨ c = 45) (h46 : 46 ∉ z.cps.toList) (hb : numB z = true) (hi : intText? z = some n) : runT z = some (("value" : Str), V.int n) := by
 have nl : isLet c = false := by
  rcases hc with h | h
  ·unfold isFig at h
   have := of_decide_eq_true h
   unfold isLet
   exact decide_eq_false (by omega)
  ·rw [h]; rfl
 have nk : ¬ z ∈ keptW := fun hm => by
  have : ∀ z ∈ keptW, (z.cps.toList.head?.map isLet) = some true := by decide +kernel
  have k := this z hm
  rw [e] at k
  injection k with k
  rw [nl] at k
  cases k
 have ng : nameB z = false := by
  unfold nameB goodW goodL
  rw [e]
  simp only [nl, Bool.false_and, Bool.and_false]
 have nf : fullB z = false := by
  have sp : Txt.split z "." = [z] := by
   have := TL.split_join (y := ".") (s := 46) (S := []) (parts := [z]) (by decide +kernel) (by decide +kernel) (by simp) fun p hp => by rw [List.mem_singleton.mp hp]; exact h46
   rwa [show Txt.join "." [z] = z from TL.join_eq _ _] at this
  unfold fullB
  rw [sp]
  rfl
 unfold runT
 rw [if_neg, if_neg nk, if_neg (by rw [ng]; exact Bool.false_ne_true), if_neg (by rw [nf]; exact Bool.false_ne_true), if_pos hb, hi]
 ·rfl
 ·rintro (z | z)
  ·exact nk (by rw [z]; decide +kernel)
  ·exact nk (by rw [z]; decide +kernel)
theorem say_int {n : Int} (h : n.natAbs < 10 ^ 30) : Say (toString n : Str).cps.toList [("value", .int n)] := by
 have figs : ∀ m, ∀ c ∈ TL.numL m, isFig c = true := fun m c hc => List.all_eq_true.mp (fig_all (TL.numL_digits m)) c hc
 have f46 : ∀ m, 46 ∉ TL.numL m := fun m hm => absurd (figs m 46 hm) (by decide)
 have frun : ∀ {c : Nat}, isFig c = true → isRun c = true := fun h => lf_run (by rw [h, Bool.or_true])
 by_cases c : 0 ≤ n
 ·obtain ⟨m, rfl⟩ : ∃ m : Nat, n = (m : Int) := ⟨n.toNat, by omega⟩
  have e : (toString (m : Int) : Str).cps.toList = TL.numL m := TL.tl_num m
  have hb : m < 10 ^ 30 := by omega
  have hl : (TL.numL m).length ≤ 30 := TL.numL_len (by decide) hb
  obtain ⟨d, r, el⟩ : ∃ d r, TL.numL m = d :: r := by
   cases q : TL.numL m with
   | nil => exact absurd q (TL.numL_ne m)
   | cons d r => exact ⟨d, r, rfl⟩
  have hd := figs m d (by rw [el]; exact List.mem_cons_self)
  have hd2 := of_decide_eq_true (show decide (48 ≤ d ∧ d ≤ 57) = true from hd)
  refine say_run (e.trans el) (.inl (frun hd)) (List.all_eq_true.mpr fun x hx => frun (figs m x (by rw [el]; exact List.mem_cons_of_mem _ hx))) (runT_num (e.trans el) (.inl hd) (by rw [e]; exact f46 m) (num_ok (f := TL.numL m) (n := m) ?_ rfl hb ?_) (TL.int_num (by omega)))
  ·rw [e, el, figL_cons, if_neg (by omega)]
  ·rw [e, el]; simp; omega
 ·obtain ⟨m, rfl⟩ : ∃ m : Nat, n = Int.negSucc m := ⟨(-n - 1).toNat, by omega⟩
  have e : (toString (Int.negSucc m) : Str).cps.toList = 45 :: TL.numL (m + 1) := by
   show (Str.ofString ("-" ++ toString (m + 1))).cps.toList = _
   rw [PyProof.Rows.signs_ofString, String.toList_append, List.map_append]
   have e2 := TL.tl_num (m + 1)
   unfold TL.tl at e2
   rw [PyProof.Rows.signs_ofString] at e2
   have e3 : (toString (m + 1)) = (toString ((m + 1 : Nat) : Int)) := rfl
   rw [e3, e2]
   rfl
  have hb : m + 1 < 10 ^ 30 := by omega
  have hl : (TL.numL (m + 1)).length ≤ 30 := TL.numL_len (by decide) hb
  refine say_run e (.inr ⟨rfl, ?_⟩) (List.all_eq_true.mpr fun x hx => frun (figs _ x hx)) (runT_num e (.inr rfl) (by rw [e]; intro hm; rcases List.mem_cons.mp hm with k | k; exact absurd k (by decide); exact f46 _ k) (num_ok (f := TL.numL (m + 1)) (n := m + 1) (by rw [e, figL_cons, if_pos rfl]) rfl hb ?_) ?_)
  ·cases q : TL.numL (m + 1) with
   | nil => exact absurd q (TL.numL_ne _)
   | cons d r =>
    have := figs (m + 1) d (by rw [q]; exact List.mem_cons_self)
    show (!isFig d) = false
    rw [this]
    rfl
  ·rw [e]
   intro z
   have z2 : TL.numL (m + 1) = [48] := (List.cons.inj z).2
   exact numL_head (n := m + 1) (by omega) (by rw [z2]; rfl)
  ·rw [PySem.intText_neg e (TL.numL_digits _) (TL.numL_ne _) (by rw [len_l, e, List.length_cons]; omega), TL.numL_val]
   rfl
theorem say_val {u : V} (h : ValW u) : Say (valT u).cps.toList [("value", u)] := by
 rcases h with ⟨i, rfl, h⟩ | ⟨b, rfl⟩ | ⟨x, rfl, hx⟩
 ·exact say_int h
 ·have key : ∀ (z : Str) (b : Bool) (c : Nat) (w : List Nat), z.cps.toList = c :: w → isRun c = true → w.all isRun = true → (z = "yes" ∨ z = "no") → decide (z = "yes") = b → Say z.cps.toList [("value", .bl b)] := fun z b c w e h1 h2 h3 h4 => by
   refine say_run e (.inl h1) h2 ?_
   unfold runT
   rw [if_pos h3, h4]
  cases b
  ·exact key "no" false 110 [111] (by decide +kernel) (by decide) (by decide) (.inr rfl) (by decide +kernel)
  ·exact key "yes" true 121 [101, 115] (by decide +kernel) (by decide) (by decide) (.inl rfl) (by decide +kernel)
 ·intro l q hl h last hf
  have e : (valT (.str x)).cps.toList = 39 :: (x.cps.toList ++ [39]) := by
   show ("'" ++ x ++ "'" : Str).cps.toList = _
   rw [tl_app, tl_app]
   rfl
  have g : goodL x.cps.toList = true := by
   obtain ⟨c, r, e, hc, hr, hl⟩ := hx
   rw [e]
   unfold goodL
   simp only [decide_eq_true hl, hc, Bool.true_and, List.all_cons, Bool.true_or, List.all_eq_true]
   exact hr
  have et : tx x.cps.toList = x := str_ext (tx_list _)
  have z := Spell.word (last := last) (w := x.cps.toList) (l := l) (ts := q) g (h _)
  rw [et] at z
  rw [e]
  simpa using z
def nmK (x : Str) : Str × V := ("name", .str x)
theorem l_bl : (" " : Str).cps.toList = [32] := by decide +kernel
theorem l_op : ("(" : Str).cps.toList = [40] := by decide +kernel
theorem l_cl : (")" : Str).cps.toList = [41] := by decide +kernel
theorem l_cm : (", " : Str).cps.toList = [44, 32] := by decide +kernel
theorem tx_op : tx [40] = "(" := by decide +kernel
theorem tx_cm : tx [44] = "," := by decide +kernel
theorem tx_an : tx [95] = "_" := by decide +kernel
theorem sp_open {l : List Nat} {q : List (Str × V)} (h : SpF l q) : SpA (40 :: l) (sgK "(" :: q) := by
 have z := SpA.sg (c := 40) (by decide) (fun e => absurd e (by decide)) (fun e => absurd e (by decide)) (by decide) h
 rw [tx_op] at z
 exact z
theorem sp_comma {l : List Nat} {q : List (Str × V)} (h : SpF l q) : SpA (44 :: l) (sgK "," :: q) := by
 have z := SpA.sg (c := 44) (by decide) (fun e => absurd e (by decide)) (fun e => absurd e (by decide)) (by decide) h
 rw [tx_cm] at z
 exact z
theorem say_wrap {k : Nat} {e : SumE} (h : Say (sumT e).cps.toList (sumK e)) : Say (wrapS k e (sumT e)).cps.toList (wrapK k e (sumK e)) := by
 unfold wrapS wrapK
 split
 ·intro l q hl hq
  rw [tl_app, tl_app, l_op, l_cl]
  have z := sp_open (h (41 :: l) (sgK ")" :: q) rfl hq.cl)
  have e1 : [40] ++ (sumT e).cps.toList ++ [41] ++ l = 40 :: ((sumT e).cps.toList ++ 41 :: l) := by simp
  have e2 : sgK "(" :: (sumK e ++ [sgK ")"]) ++ q = sgK "(" :: (sumK e ++ sgK ")" :: q) := by simp
  rw [e1, e2]
  exact z.f
 ·exact h
theorem say_sum {n : Nat} {e : SumE} (h : SumW n e) : Say (sumT e).cps.toList (sumK e) := by
 induction h with
 | val h => exact say_val h
 | var h => exact say_name h
 | @op n s a b hs _ _ ha hb =>
  intro l q hl hq
  have sg : ∃ c, s = tx [c] ∧ c ∈ sgnL ∧ c ≠ 41 ∧ c ≠ 60 ∧ c ≠ 62 := by
   rcases hs with rfl | rfl | rfl
   ·exact ⟨43, by decide +kernel, by decide, by decide, by decide, by decide⟩
   ·exact ⟨45, by decide +kernel, by decide, by decide, by decide, by decide⟩
   ·exact ⟨42, by decide +kernel, by decide, by decide, by decide, by decide⟩
  obtain ⟨c, ec, h1, h2, h3, h4⟩ := sg
  have e1 : (sumT (.op s a b)).cps.toList ++ l = (wrapS (if s = "*" then 2 else 1) a (sumT a)).cps.toList ++ (32 :: c :: 32 :: ((wrapS ((if s = "*" then 2 else 1) + 1) b (sumT b)).cps.toList ++ l)) := by
   show (wrapS (if s = "*" then 2 else 1) a (sumT a) ++ " " ++ s ++ " " ++ wrapS ((if s = "*" then 2 else 1) + 1) b (sumT b)).cps.toList ++ l = _
   have es : s.cps.toList = [c] := by rw [ec, tx_list]
   simp only [tl_app, l_bl, es, List.append_assoc, List.cons_append, List.nil_append]
  have e2 : sumK (.op s a b) ++ q = wrapK (if s = "*" then 2 else 1) a (sumK a) ++ (sgK s :: (wrapK ((if s = "*" then 2 else 1) + 1) b (sumK b) ++ q)) := by
   show (wrapK (if s = "*" then 2 else 1) a (sumK a) ++ sgK s :: wrapK ((if s = "*" then 2 else 1) + 1) b (sumK b)) ++ q = _
   simp
  rw [e1, e2]
  refine say_wrap ha _ _ rfl (SpA.bl ?_)
  have z := SpA.sg (c := c) h1 (fun _ => rfl) (fun e => absurd e (by rintro (e | e); exact h3 e; exact h4 e)) h2 (say_wrap (k := (if s = "*" then 2 else 1) + 1) hb l q hl hq).bl
  rw [← ec] at z
  exact z
theorem say_term {t : TermE} (h : TermW t) : Say (termT t).cps.toList (termK t) := by
 cases h with
 | any =>
  intro l q hl hq
  have z := SpA.sg (c := 95) (by decide) (fun e => absurd e (by decide)) (fun e => absurd e (by decide)) (by decide) hq.f
  rw [tx_an] at z
  have e1 : (termT .any).cps.toList = [95] := by show ("_" : Str).cps.toList = _; decide +kernel
  rw [e1]
  exact z.f
 | s h => exact say_sum h
theorem say_list {α : Type} {t : α → Str} {k : α → List (Str × V)} : ∀ {xs : List α}, xs ≠ [] → (∀ x ∈ xs, Say (t x).cps.toList (k x)) → Say (listT (xs.map t)).cps.toList (listK (xs.map k))
 | [], h, _ => absurd rfl h
 | [a], _, h => by
  have e : listT ([a].map t) = t a := TL.join_eq _ _
  rw [e]
  exact h a List.mem_cons_self
 | a :: b :: r, _, h => by
  intro l q hl hq
  have ih := say_list (t := t) (k := k) (xs := b :: r) (by simp) (fun x hx => h x (List.mem_cons_of_mem _ hx)) l q hl hq
  have e : listT ((a :: b :: r).map t) = t a ++ ", " ++ listT ((b :: r).map t) := join_cons _ _ _ _
  have e1 : (listT ((a :: b :: r).map t)).cps.toList ++ l = (t a).cps.toList ++ (44 :: 32 :: ((listT ((b :: r).map t)).cps.toList ++ l)) := by
   rw [e]
   simp only [tl_app, l_cm, List.append_assoc, List.cons_append, List.nil_append]
  have e2 : listK ((a :: b :: r).map k) ++ q = k a ++ (sgK "," :: (listK ((b :: r).map k) ++ q)) := by
   show (k a ++ sgK "," :: listK ((b :: r).map k)) ++ q = _
   simp
  rw [e1, e2]
  exact h a List.mem_cons_self _ _ rfl (sp_comma ih.bl)
theorem say_atom {x : Str} {ts : List TermE} (hx : NameD x) (h1 : 1 ≤ ts.length) (ht : ∀ t ∈ ts, TermW t) : Say (atomT x ts).cps.toList (atomK x ts) := by
 intro l q hl hq
 have e1 : (atomT x ts).cps.toList ++ l = x.cps.toList ++ (40 :: ((listT (ts.map termT)).cps.toList ++ 41 :: l)) := by
  unfold atomT
  simp only [tl_app, l_op, l_cl, List.append_assoc, List.cons_append, List.nil_append]
 have e2 : atomK x ts ++ q = [(srtN x, .str x)] ++ (sgK "(" :: (listK (ts.map termK) ++ (sgK ")" :: q))) := by
  unfold atomK
  simp
 rw [e1, e2]
 exact hx.say.1 _ _ rfl (sp_open (say_list (fun e => by rw [e] at h1; exact absurd h1 (by decide)) (fun t h => say_term (ht t h)) _ _ rfl hq.cl))
theorem kept_say {x : Str} {l : List Nat} {q : List (Str × V)} (hx : x ∈ (["if", "not", "is", "count", "sum", "least", "most"] : List Str)) (hl : noRun l = true) (h : SpF l q) : SpA (x.cps.toList ++ l) (kpK x :: q) := by
 have k : ∀ x ∈ (["if", "not", "is", "count", "sum", "least", "most"] : List Str), (x.cps.toList ≠ [] ∧ x.cps.toList.all isRun = true) ∧ (x ≠ "yes" ∧ x ≠ "no") ∧ x ∈ keptW ∧ lastF (some (kpK x)) = true := by decide +kernel
 obtain ⟨⟨k1, k2⟩, ⟨k3, k4⟩, k5, k6⟩ := k x hx
 cases e : x.cps.toList with
 | nil => exact absurd e k1
 | cons c w =>
  rw [e, List.all_cons, Bool.and_eq_true_iff] at k2
  have rt : runT x = some (("kept" : Str), V.str x) := by
   unfold runT
   rw [if_neg (by rintro (z | z); exact k3 z; exact k4 z), if_pos k5]
  have z := say_runF e k2.1 k2.2 rt k6 hl h
  rw [e] at z
  exact z
theorem say_test {s : Str} {a b : SumE} {n m : Nat} (hs : s ∈ testL) (ha : SumW n a) (hb : SumW m b) : Say (sumT a ++ " " ++ s ++ " " ++ sumT b).cps.toList (sumK a ++ sgK s :: sumK b) := by
 intro l q hl hq
 have e1 : (sumT a ++ " " ++ s ++ " " ++ sumT b).cps.toList ++ l = (sumT a).cps.toList ++ (32 :: (s.cps.toList ++ (32 :: ((sumT b).cps.toList ++ l)))) := by simp only [tl_app, l_bl, List.append_assoc, List.cons_append, List.nil_append]
 have e2 : sumK a ++ sgK s :: sumK b ++ q = sumK a ++ (sgK s :: (sumK b ++ q)) := by simp
 rw [e1, e2]
 refine say_sum ha _ _ rfl (SpA.bl ?_)
 have sb := (say_sum hb l q hl hq).bl
 have one : ∀ {s : Str} {c : Nat}, s = tx [c] → c ∈ sgnL → c ≠ 41 → SpA (s.cps.toList ++ (32 :: ((sumT b).cps.toList ++ l))) (sgK s :: (sumK b ++ q)) := fun {s c} e h1 h2 => by
  rw [e, tx_list]
  exact SpA.sg h1 (fun _ => rfl) (fun _ z => absurd z (by simp)) h2 sb
 have two : ∀ {s : Str} {c : Nat}, s = tx [c, 61] → (c = 33 ∨ c = 60 ∨ c = 62) → lastF (some (sgK (tx [c, 61]))) = true → SpA (s.cps.toList ++ (32 :: ((sumT b).cps.toList ++ l))) (sgK s :: (sumK b ++ q)) := fun {s c} e h1 h2 last => by
  rw [e, tx_list]
  exact .sign2 h1 (sb _ h2)
 simp only [testL, List.mem_cons, List.not_mem_nil, or_false] at hs
 rcases hs with rfl | rfl | rfl | rfl | rfl | rfl
 ·exact one (c := 61) (by decide +kernel) (by decide) (by decide)
 ·exact two (c := 33) (by decide +kernel) (by decide) (by decide +kernel)
 ·exact one (c := 60) (by decide +kernel) (by decide) (by decide)
 ·exact two (c := 60) (by decide +kernel) (by decide) (by decide +kernel)
 ·exact one (c := 62) (by decide +kernel) (by decide) (by decide)
 ·exact two (c := 62) (by decide +kernel) (by decide) (by decide +kernel)
theorem say_part {p : PartE} (h : PartW p) : Say (partT p).cps.toList (partK p) := by
 cases h with
 | @atom no x ts _ hx h1 _ ht =>
  cases no with
  | false => exact say_atom hx h1 ht
  | true =>
   intro l q hl hq
   have e1 : (partT (.atom true x ts)).cps.toList ++ l = ("not" : Str).cps.toList ++ (32 :: ((atomT x ts).cps.toList ++ l)) := by
    show ("not " ++ atomT x ts).cps.toList ++ l = _
    rw [tl_app, List.append_assoc]
    rfl
   have e2 : partK (.atom true x ts) ++ q = kpK "not" :: (atomK x ts ++ q) := rfl
   rw [e1, e2]
   exact (kept_say (by simp) rfl (say_atom hx h1 ht l q hl hq).bl).f
 | @lt x e hx he =>
  intro l q hl hq
  have e1 : (partT (.lt x e)).cps.toList ++ l = x.cps.toList ++ (32 :: (("is" : Str).cps.toList ++ (32 :: ((sumT e).cps.toList ++ l)))) := by
   show (x ++ " is " ++ sumT e).cps.toList ++ l = _
   rw [tl_app, tl_app, show (" is " : Str).cps.toList = 32 :: (("is" : Str).cps.toList ++ [32]) by decide +kernel]
   simp only [List.append_assoc, List.cons_append, List.nil_append]
  have e2 : partK (.lt x e) ++ q = [nmK x] ++ (kpK "is" :: (sumK e ++ q)) := rfl
  rw [e1, e2]
  exact say_name hx _ _ rfl (kept_say (by simp) rfl (say_sum he l q hl hq).bl).bl
 | @test s a b hs ha hb => exact say_test hs ha hb
theorem say_arg {a : ArgE} (h : ArgW a) : Say (argT a).cps.toList (argK a) := by
 cases h with
 | s h => exact say_sum h
 | fold0 => exact fun l q hl hq => (kept_say (x := "count") (by simp) hl hq.f).f
 | @fold w x hw hx =>
  intro l q hl hq
  have e1 : (argT (.fold w (some x))).cps.toList ++ l = w.cps.toList ++ (32 :: (x.cps.toList ++ l)) := by
   show (w ++ " " ++ x).cps.toList ++ l = _
   simp only [tl_app, l_bl, List.append_assoc, List.cons_append, List.nil_append]
  have e2 : argK (.fold w (some x)) ++ q = kpK w :: ([nmK x] ++ q) := rfl
  rw [e1, e2]
  refine (kept_say ?_ rfl (say_name hx l q hl hq).bl).f
  simp only [List.mem_cons, List.not_mem_nil, or_false] at hw ⊢
  rcases hw with h | h | h <;> simp [h]
theorem l_if : (" if " : Str).cps.toList = 32 :: (("if" : Str).cps.toList ++ [32]) := by decide +kernel
theorem say_rule {r : Str × List ArgE × List PartE} (h : RuleW r) : SpF (ruleT r.1 r.2.1 r.2.2).cps.toList (ruleK r) := by
 obtain ⟨hd, as, ps⟩ := r
 obtain ⟨h1, h2, _, h3, _, h4⟩ := h
 have ne : as ≠ [] := fun e => by
  have h2 : 1 ≤ as.length := h2
  rw [e] at h2
  exact absurd h2 (by decide)
 have tail : ∃ l, (ruleT hd as ps).cps.toList = hd.cps.toList ++ (40 :: ((argsT as).cps.toList ++ 41 :: l)) ∧ SpA l (if ps = [] then [] else kpK "if" :: listK (ps.map partK)) := by
  unfold ruleT
  by_cases c : ps = []
  ·rw [if_pos c, if_pos c]
   exact ⟨[], by simp only [tl_app, l_op, l_cl, List.append_assoc, List.cons_append, List.nil_append], fun _ => .nil⟩
  ·rw [if_neg c, if_neg c]
   refine ⟨32 :: (("if" : Str).cps.toList ++ (32 :: ((partsT ps).cps.toList ++ []))), by simp only [tl_app, l_op, l_cl, l_if, List.append_assoc, List.cons_append, List.nil_append, List.append_nil], (kept_say (by simp) rfl (SpF.bl ?_)).bl⟩
   have z := say_list (t := partT) (k := partK) c (fun p hp => say_part (h4 p hp)) [] [] rfl (fun _ => .nil)
   rw [List.append_nil (listK _)] at z
   exact z
 obtain ⟨l, e, hl⟩ := tail
 show SpF (ruleT hd as ps).cps.toList ([nmK hd] ++ (sgK "(" :: (listK (as.map argK) ++ sgK ")" :: (if ps = [] then [] else kpK "if" :: listK (ps.map partK)))))
 rw [e]
 exact say_name h1 _ _ rfl (sp_open (say_list (t := argT) (k := argK) ne (fun a ha => say_arg (h3 a ha)) _ _ rfl hl.cl))
theorem say_quest {as : List ArgE} {ps : List PartE} (h1 : as ≠ []) (h2 : ∀ a ∈ as, ArgW a) (h3 : ps ≠ []) (h4 : ∀ p ∈ ps, PartW p) : SpF (questT as ps).cps.toList (questK (as, ps)) := by
 have e : (questT as ps).cps.toList = (argsT as).cps.toList ++ (32 :: (("if" : Str).cps.toList ++ (32 :: ((partsT ps).cps.toList ++ [])))) := by
  unfold questT
  simp only [tl_app, l_if, List.append_assoc, List.cons_append, List.nil_append, List.append_nil]
 rw [e]
 refine say_list (t := argT) (k := argK) h1 (fun a ha => say_arg (h2 a ha)) _ (kpK "if" :: listK (ps.map partK)) rfl (kept_say (by simp) rfl (SpF.bl ?_)).bl
 have z := say_list (t := partT) (k := partK) h3 (fun p hp => say_part (h4 p hp)) [] [] rfl (fun _ => .nil)
 rw [List.append_nil (listK _)] at z
 exact z
theorem say_deep {n : Nat} {e : SumE} (h : SumW n e) : ∀ j, Say (List.replicate j 40 ++ (sumT e).cps.toList ++ List.replicate j 41) (repK j "(" ++ sumK e ++ repK j ")")
 | 0 => by
  have z := say_sum h
  simpa [repK] using z
 | j + 1 => by
  intro l q hl hq
  have z := sp_open (say_deep h j (41 :: l) (sgK ")" :: q) rfl hq.cl)
  have e1 : List.replicate (j + 1) 40 ++ (sumT e).cps.toList ++ List.replicate (j + 1) 41 ++ l = 40 :: (List.replicate j 40 ++ (sumT e).cps.toList ++ List.replicate j 41 ++ (41 :: l)) := by
   rw [List.replicate_succ, List.replicate_succ']
   simp
  have e2 : repK (j + 1) "(" ++ sumK e ++ repK (j + 1) ")" ++ q = sgK "(" :: (repK j "(" ++ sumK e ++ repK j ")" ++ (sgK ")" :: q)) := by
   unfold repK
   rw [List.replicate_succ, List.replicate_succ']
   simp
  rw [e1, e2]
  exact z.f
theorem cuts_of {z : Str} {q : List (Str × V)} (h : SpF z.cps.toList q) : ∃ ts, Cuts z 0 [] (.ok ts) ∧ Whole ts q := by
 obtain ⟨ts', h1, h2⟩ := spell_cuts (z := z) (h none rfl) [] [] (by simp) rfl
 refine ⟨_, h1, ?_⟩
 show (([] : List Th) ++ ts' ++ [endT z]).map thP = q ++ [endK]
 rw [List.nil_append, List.map_append, h2]
 rfl
theorem PartW.ok {p : PartE} (h : PartW p) : PartOk true p := by
 cases h with
 | atom _ _ h1 h2 h3 => exact ⟨.inr rfl, h1, h2, fun t ht => (h3 t ht).g⟩
 | lt _ h => exact h.g
 | test hs h k => exact ⟨hs, h.g, k.g⟩
theorem ArgW.ok {a : ArgE} (h : ArgW a) : ArgOk a := by
 cases h with
 | s h => exact h.g
 | fold0 => rfl
 | fold hw _ => exact hw
theorem RuleW.ok {r : Str × List ArgE × List PartE} (h : RuleW r) (k : FoldOne r.2.1) : RuleOk r := ⟨h.2.1, h.2.2.1, fun a ha => (h.2.2.2.1 a ha).ok, k, h.2.2.2.2.1, fun p hp => (h.2.2.2.2.2 p hp).ok⟩
theorem q_ok : VarN "q" := varB_ok (by decide +kernel)
theorem PartW.full_ok {p : PartE} (h : PartW p) : PartW (fullP p) ∧ PartOk false (fullP p) := by
 cases h with
 | @atom no x ts hx hn h1 h2 h3 =>
  have dot : (".": Str) = ⟨#[46]⟩ := by decide +kernel
  unfold fullP
  dsimp only
  rw [dot, StrLaws.found_one]
  split
  ·rename_i c
   exact ⟨.atom hx hn h1 h2 h3, .inl (hn.say.2 (of_decide_eq_true c)), h1, h2, fun t ht => (h3 t ht).g⟩
  ·rename_i c
   have v : VarN x := by
    cases hn with
    | one h => exact h
    | two _ _ => exact absurd (decide_eq_true (by simp [tl_app, dot_l])) c
    | three _ _ _ => exact absurd (decide_eq_true (by simp [tl_app, dot_l])) c
   have e : ("q." ++ x : Str) = "q" ++ "." ++ x := by
    refine str_ext ?_
    rw [tl_app, tl_app, tl_app]
    rfl
   have n2 : NameD ("q." ++ x) := by rw [e]; exact .two q_ok v
   refine ⟨.atom (n2.tx.mono (by decide)) n2 h1 h2 h3, .inl (n2.say.2 ?_), h1, h2, fun t ht => (h3 t ht).g⟩
   rw [e]
   simp [tl_app, dot_l]
 | lt hx h => exact ⟨.lt hx h, h.g⟩
 | test hs h k => exact ⟨.test hs h k, hs, h.g, k.g⟩
theorem rule_reads {z : Str} {r : Str × List ArgE × List PartE} (hz : SpF z.cps.toList (ruleK r)) (h : RuleW r) (k : FoldOne r.2.1) : ReadR z RuleR (.ok (ruleD r)) := by
 obtain ⟨ts, h1, h2⟩ := cuts_of hz
 exact .inr ⟨ts, h1, .inl ⟨_, _, rule_ok (h.ok k) h2, rfl⟩⟩
theorem quest_reads {z : Str} {as : List ArgE} {ps : List PartE} (hz : SpF z.cps.toList (questK (as, ps.map fullP))) (h1 : 1 ≤ as.length) (h4 : as.length ≤ 4) (ha : ∀ a ∈ as, ArgW a) (k : FoldOne as) (hn : ps ≠ []) (hl : ps.length ≤ 6) (hp : ∀ p ∈ ps, PartW p) : ReadR z QuestionR (.ok (questD (as, ps.map fullP))) := by
 obtain ⟨ts, h2, h3⟩ := cuts_of hz
 refine .inr ⟨ts, h2, .inl ⟨_, _, quest_ok (r := (as, ps.map fullP)) ⟨h1, h4, fun a h => (ha a h).ok, k, fun e => hn (List.map_eq_nil_iff.mp e), by show (ps.map fullP).length ≤ 8; rw [List.length_map]; omega, fun p hp' => ?_⟩ h3, rfl⟩⟩
 obtain ⟨x, hx, rfl⟩ := List.mem_map.mp hp'
 exact (hp x hx).full_ok.2
theorem tests_reads {z : Str} {e1 e2 : SumE} {s : Str} {k1 k2 j : Nat} (hz : SpF z.cps.toList (repK j "(" ++ sumK e1 ++ repK j ")" ++ sgK s :: sumK e2)) (hs : s ∈ testsW) (h1 : SumG k1 e1) (h2 : SumG k2 e2) (hd : e1.deep + j ≤ 12) (hk : k2 ≤ 12) : ReadR z TestsR (.ok (.tuple [(PartE.test s e1 e2).d])) := by
 obtain ⟨ts, h3, h4⟩ := cuts_of hz
 exact .inr ⟨ts, h3, .inl ⟨_, _, tests1_ok hs h1 h2 hd hk h4, rfl⟩⟩
theorem none_reads {z : Str} (hz : z.cps.toList = []) : ReadR z TestsR (.ok (.tuple [])) := by
 obtain ⟨ts, h3, h4⟩ := cuts_of (z := z) (q := []) (by rw [hz]; exact fun _ _ => .nil)
 refine .inr ⟨ts, h3, .inl ⟨_, 0, ?_, rfl⟩⟩
 unfold TestsR
 rw [if_pos (show (tkn ts 0).s = "end" from h4.end_.2)]
inductive Spr : Bool → List Nat → List Nat → Prop
 | nil {b : Bool} {k : Nat} : Spr b [] (List.replicate k 32)
 | cons {b : Bool} {c k : Nat} {l l' : List Nat} : (k = 0 ∨ (c ∈ [32, 44, 40, 41] ∧ (b != decide (c = 39)) = false)) → Spr (b != decide (c = 39)) l l' → Spr b (c :: l) (c :: (List.replicate k 32 ++ l'))
theorem Spell.bls {last : Option (Str × V)} {l : List Nat} {q : List (Str × V)} (h : Spell last l q) : ∀ k, Spell last (List.replicate k 32 ++ l) q
 | 0 => h
 | k + 1 => by
  rw [List.replicate_succ]
  exact .blank (h.bls k)
theorem Spr.uncons {b : Bool} {c : Nat} {l l' : List Nat} (h : Spr b (c :: l) l') : ∃ k l'', l' = c :: (List.replicate k 32 ++ l'') ∧ Spr (b != decide (c = 39)) l l'' ∧ (k = 0 ∨ (c ∈ [32, 44, 40, 41] ∧ (b != decide (c = 39)) = false)) := by
 cases h with
 | cons h1 h2 => exact ⟨_, _, rfl, h2, h1⟩
theorem Spr.head {b : Bool} {l l' : List Nat} (h : Spr b l l') : l'.head? = l.head? ∨ (l = [] ∧ l'.head? = some 32) := by
 cases h with
 | @nil b k => cases k with
  | zero => exact .inl rfl
  | succ k => exact .inr ⟨rfl, rfl⟩
 | cons _ _ => exact .inl rfl
theorem noRun_hd {l l' : List Nat} (h : l'.head? = l.head? ∨ (l = [] ∧ l'.head? = some 32)) (n : noRun l = true) : noRun l' = true := by
 cases l' with
 | nil => rfl
 | cons c r =>
  rcases h with h | ⟨_, h⟩
  ·cases l with
   | nil => cases h
   | cons d s => injection h with h; subst h; exact n
  ·injection h with h; subst h; rfl
theorem noFig_hd {l l' : List Nat} (h : l'.head? = l.head? ∨ (l = [] ∧ l'.head? = some 32)) : noFig l' = noFig l := by
 rcases h with h | ⟨h1, h⟩
 ·cases l' with
  | nil => cases l with
   | nil => rfl
   | cons d s => cases h
  | cons c r => cases l with
   | nil => cases h
   | cons d s => injection h with h; subst h; rfl
 ·subst h1
  cases l' with
  | nil => cases h
  | cons c r => injection h with h; subst h; rfl
def PlainC (c : Nat) : Prop := c ∉ [32, 44, 40, 41] ∧ c ≠ 39
theorem Spr.plain {l : List Nat} : ∀ {w l' : List Nat}, (∀ c ∈ w, PlainC c) → Spr false (w ++ l) l' → ∃ l'', l' = w ++ l'' ∧ Spr false l l''
 | [], l', _, h => ⟨l', rfl, h⟩
 | c :: w, l', hp, h => by
  obtain ⟨k, l2, e, h2, hk⟩ := Spr.uncons (l := w ++ l) h
  have pc := hp c List.mem_cons_self
  rw [decide_eq_false pc.2] at h2
  have k0 : k = 0 := hk.resolve_right fun z => pc.1 z.1
  subst k0
  obtain ⟨l3, e3, h3⟩ := Spr.plain (fun d hd => hp d (List.mem_cons_of_mem _ hd)) h2
  exact ⟨l3, by rw [e, e3]; rfl, h3⟩
theorem Spr.word {l : List Nat} : ∀ {w l' : List Nat}, (∀ c ∈ w, c ≠ 39) → Spr true (w ++ 39 :: l) l' → ∃ l'', l' = w ++ 39 :: l'' ∧ Spr false l l''
 | [], l', _, h => by
  obtain ⟨k, l2, e, h2, hk⟩ := Spr.uncons (l := l) h
  have k0 : k = 0 := hk.resolve_right fun z => absurd z.1 (by decide)
  subst k0
  exact ⟨l2, e, h2⟩
 | c :: w, l', hp, h => by
  obtain ⟨k, l2, e, h2, hk⟩ := Spr.uncons (l := w ++ 39 :: l) h
  have pc := hp c List.mem_cons_self
  rw [decide_eq_false pc] at h2 hk
  have k0 : k = 0 := hk.resolve_right fun z => absurd z.2 (by decide)
  subst k0
  obtain ⟨l3, e3, h3⟩ := Spr.word (fun d hd => hp d (List.mem_cons_of_mem _ hd)) h2
  exact ⟨l3, by rw [e, e3]; rfl, h3⟩
theorem run_plain {c : Nat} (h : isRun c = true ∨ c = 45) : PlainC c := by
 unfold isRun isLet isFig at h
 simp only [Bool.or_eq_true, decide_eq_true_eq] at h
 refine ⟨?_, by omega⟩
 simp only [List.mem_cons, List.not_mem_nil, or_false]
 omega
theorem Spell.spread {last : Option (Str × V)} {l : List Nat} {q : List (Str × V)} (h : Spell last l q) : ∀ l', Spr false l l' → Spell last l' q := by
 induction h with
 | @nil last =>
  intro l' hs
  cases hs with
  | @nil b k =>
   have z := Spell.bls (last := last) (l := []) (q := []) .nil k
   rwa [List.append_nil] at z
 | blank h ih =>
  intro l' hs
  obtain ⟨k, l2, rfl, h2, _⟩ := hs.uncons
  exact .blank ((ih l2 h2).bls k)
 | @run last c w l s v q hc hw hl hr h ih =>
  intro l' hs
  obtain ⟨l2, rfl, h2⟩ := Spr.plain (w := c :: w) (l := l) (fun d hd => run_plain (by
   rcases List.mem_cons.mp hd with rfl | hd
   ·exact hc.imp id And.left
   ·exact .inl (List.all_eq_true.mp hw d hd))) hs
  have hh := h2.head
  refine .run (hc.imp id fun k => ⟨k.1, ?_, k.2.2⟩) hw (noRun_hd hh hl) hr (ih l2 h2)
  have kf := k.2.1
  cases w with
  | nil => rw [List.nil_append] at kf ⊢; rw [noFig_hd hh]; exact kf
  | cons d r => exact kf
 | @word last w l q hw h ih =>
  intro l' hs
  obtain ⟨k, l2, rfl, h2, hk⟩ := hs.uncons
  have k0 : k = 0 := hk.resolve_right fun z => absurd z.1 (by decide)
  subst k0
  obtain ⟨l3, rfl, h3⟩ := Spr.word (good_all hw) h2
  exact .word hw (ih l3 h3)
 | @sign last c l q hc h1 h2 h ih =>
  intro l' hs
  obtain ⟨k, l2, rfl, h3, _⟩ := hs.uncons
  have cn := not_run_sgn hc
  rw [decide_eq_false cn.2.1] at h3
  have hh : (List.replicate k 32 ++ l2).head? = l.head? ∨ (k ≠ 0 ∧ (List.replicate k 32 ++ l2).head? = some 32) ∨ (l = [] ∧ (List.replicate k 32 ++ l2).head? = some 32) := by
   cases k with
   | zero => exact h3.head.imp id .inr
   | succ k => exact .inr (.inl ⟨by simp, rfl⟩)
  refine .sign hc (fun e => (h1 e).imp (fun hf => ?_) id) (fun e z => ?_) ((ih l2 h3).bls k)
  ·have n32 : ∀ {l : List Nat}, l.head? = some 32 → noFig l = true := fun {l} e => by
    cases l with
    | nil => rfl
    | cons d r => injection e with e; subst e; rfl
   rcases hh with hh | ⟨_, hh⟩ | ⟨_, hh⟩
   ·rw [noFig_hd (.inl hh)]; exact hf
   ·exact n32 hh
   ·exact n32 hh
  ·rcases hh with hh | ⟨_, hh⟩ | ⟨_, hh⟩
   ·rw [hh] at z; exact h2 e z
   ·rw [hh] at z; exact absurd z (by decide)
   ·rw [hh] at z; exact absurd z (by decide)
 | @sign2 last c l q hc h ih =>
  intro l' hs
  obtain ⟨l2, rfl, h2⟩ := Spr.plain (w := [c, 61]) (l := l) (fun d hd => by
   rcases List.mem_cons.mp hd with rfl | hd
   ·rcases hc with rfl | rfl | rfl <;> exact ⟨by decide, by decide⟩
   ·rw [List.mem_singleton.mp hd]; exact ⟨by decide, by decide⟩) hs
  exact .sign2 hc (ih l2 h2)
theorem SpF.spread {l l' : List Nat} {q : List (Str × V)} (h : SpF l q) (k : Nat) (hs : Spr false l l') : SpF (List.replicate k 32 ++ l') q := fun last hf => ((h last hf).spread l' hs).bls k
def rMulT : R2 := fun x y H Q => ∃ (a : Str) (k : Int), x = .str a ∧ y = .int k ∧ 0 ≤ k ∧ k ≤ 1000 ∧ a.length = 1 ∧ Q (.str (repS a k)) H
theorem op_mulT {X : Cx} : OpR X (binaryOp .Mult) rMulT := by
 intro pins s σ H x y v u Q I rx ry h
 obtain ⟨a, k, rfl, rfl, k0, k1, ha, q⟩ := h
 obtain ⟨ta, rfl⟩ := rx
 obtain ⟨tk, rfl⟩ := ry
 have h63 : (decide (k < -(2 ^ 63 : Int)) || decide (k ≥ 2 ^ 63)) = false := by
  rw [decide_eq_false (by omega), decide_eq_false (by omega)]; rfl
 refine PySem.P.mul_str h63 (fun h _ => ?_) (fun _ _ => ?_) ?_
 ·have : (1 : Int) ≤ (2 ^ 63 - 1) / k := Int.le_ediv_of_mul_le (by omega) (by omega)
  omega
 ·unfold Builtin.Str.tooLong sizeLine
  rw [ha]
  exact decide_eq_false (by omega)
 ·by_cases c0 : k < 1
  ·rw [if_pos c0]
   obtain rfl : k = 0 := by omega
   exact ⟨by decide, ⟨.str (repS a 0), H, I.tok _, ⟨_, rfl⟩, q⟩⟩
  ·rw [if_neg c0]
   by_cases c1 : k = 1
   ·subst c1
    rw [if_pos (by rfl)]
    rw [repS_one] at q
    exact ⟨.str a, H, I, ⟨_, rfl⟩, q⟩
   ·rw [if_neg (by rw [Bool.or_eq_true]; rintro (h | h); exact c1 (eq_of_beq h); rw [ha] at h; cases h)]
    exact ⟨by have := repS_len ha k; show (repS a k).length ≤ sizeLine; rw [this, sizeLine_eq]; omega, ⟨.str (repS a k), H, I.tok _, ⟨_, rfl⟩, q⟩⟩
theorem for_sg {z : Str} {g : TG} {tb : TS} {D : Ends} {σ : L2.St} {H : Hp} (Pv : Nat → L2.St → Hp → Prop) (h0 : Pv 0 σ H)
  (hs : ∀ i c σ H, z.cps.toList[i]? = some c → Pv i σ H → g (.str ⟨#[c]⟩) σ H fun σ2 H2 => tb { D with nx := Pv (i + 1), ct := Pv (i + 1), bk := D.nx } σ2 H2) (hd : ∀ σ H, Pv z.cps.toList.length σ H → D.nx σ H) :
  ∃ W : Nat → Nat → L2.St → Hp → Prop, (∃ m, W 0 m σ H) ∧ ∀ i m σ H, W i m σ H →
   ((Its z).stop i H ∧ D.nx σ H) ∨ ((Its z).go i H ∧ ∃ N : L2.St → Hp → Prop, (∀ σ' H', N σ' H' → ∃ m', m' < m ∧ W (i + 1) m' σ' H') ∧ ∀ x H', (Its z).yld i H x H' → g x σ H' fun σ2 H2 => tb { D with nx := N, ct := N, bk := D.nx } σ2 H2) := by
 have ll : z.cps.toList.length = z.cps.size := Array.length_toList
 refine ⟨fun i m σ H => m = z.cps.size - i ∧ i ≤ z.cps.size ∧ Pv i σ H, ⟨_, rfl, Nat.zero_le _, h0⟩, ?_⟩
 rintro i m σ H ⟨rfl, hi, p⟩
 by_cases hlt : i < z.cps.size
 ·refine .inr ⟨hlt, Pv (i + 1), fun σ' H' p' => ⟨z.cps.size - (i + 1), by omega, rfl, hlt, p'⟩, fun x H' y => ?_⟩
  obtain ⟨e, c, hc, y⟩ := y
  subst e y
  exact hs i c σ _ (by rw [Array.getElem?_toList]; exact hc) p
 ·have e : i = z.cps.size := by omega
  subst e
  rw [← ll] at p
  exact .inl ⟨Nat.le_refl _, hd σ H p⟩
def spSpread : Sp := fun vs H Q _ => ∃ (b cs : Addr) (t : Str), vs = [.ref b, .str t] ∧ BagAt H b cs ∧ Tx 2400 t ∧
 ∀ t' H', (∃ k l', t'.cps.toList = List.replicate k 32 ++ l' ∧ Spr false t.cps.toList l') → Tx 4802 t' → BagAt H' b cs → Fr [b] H H' → Q (.str t') H'
theorem rep_bl {k : Int} : (repS " " k).cps.toList = List.replicate k.toNat 32 := by
 rw [repS_toList, l_bl]
 generalize k.toNat = n
 induction n with
 | zero => rfl
 | succ n ih => rw [List.replicate_succ, List.replicate_succ, List.flatten_cons, ih]; rfl
theorem rep_tx {k : Int} {n : Nat} (h0 : 0 ≤ k) (h : k ≤ n) : Tx n (repS " " k) := ⟨by rw [len_l, rep_bl, List.length_replicate]; omega, fun c hc => by
 rw [rep_bl] at hc
 rw [List.eq_of_mem_replicate hc]
 decide⟩
abbrev s__law_spread : Stmt := topS 87
theorem sc__law_spread : FnScope ["_law_bag_here", "_law_text", "_law_found", "_law_word_here", "_law_sign"] ["_law_bag_here", "_law_text"] (defScope s__law_spread) := ⟨rfl, rfl, rfl, by decide +kernel, rfl, by decide +kernel, by decide +kernel⟩
section
variable {P : Program} {w : World} {K : PySem.W.Frag} {mg : Str → Option Value} {base : Heap} {f : Addr} {fd : FuncData}
theorem ok__law_spread (F : FnP K "_law_spread" s__law_spread f fd) (C__law_pull : CalG P w K mg base 10 "_law_pull" spPull) : FnG P w K mg base CX0 17 f fd ["_law_bag_here", "_law_text"] spSpread := by
 refine okG F sc__law_spread (fun vs H Q E h => ?_) (fun cdv A outer s H vs Q E hr h => ?_)
 ·obtain ⟨b, cs, t, rfl, _⟩ := h
  rfl
 obtain ⟨b, cs, t, rfl, hB, ht, q⟩ := h
 refine ⟨_, PSs.nox (pss_cons (ps_set (i := 2) sc__law_spread.nd rfl (.inl rfl) pe_str)
 (pss_cons (ps_set (i := 3) sc__law_spread.nd rfl (.inl rfl) pe_bl)
 (pss_cons (ps_for PassesOwn.never rfl (pi_str (pv 1)) (pg_name (i := 4) sc__law_spread.nd rfl (by first | exact Or.inl rfl | exact Or.inr rfl)) (pss_cons (ps_if (pt_cmpR (kOp (K := K) (r := uEq) rfl (opu_eq hr.units)) (pv 4) pe_str (nomark _)) (pss_one (ps_set (i := 3) sc__law_spread.nd rfl (.inl rfl) (pe_notTK (K := K) rfl (pv 3) ))) pss_nil)
 (pss_cons (ps_set (i := 2) sc__law_spread.nd rfl (.inl rfl) (pe_op (kOp (K := K) (r := uAdd) rfl opu_add) (pv 2) (pv 4)))
 (pss_one (ps_if (PW.pt (pw_and (pt_cmpR (kOp (K := K) (r := uIn) rfl opu_in) (pv 4) pe_str (by rfl)) (pw_and1 (pt_not (pt_val (pv 3)))))) (pss_one (ps_set (i := 2) sc__law_spread.nd rfl (.inl rfl) (pe_op (kOp (K := K) (r := uAdd) rfl opu_add) (pv 2) (pe_op op_mulT pe_str (pe_op opu_div (pe_calG C__law_pull hr rfl (pa_cons (pv 0) (pa_cons pe_int pa_nil))) pe_int))))) pss_nil)))))
 (pss_one (ps_ret (pe_op (kOp (K := K) (r := uAdd) rfl opu_add) (pe_op (kOp (K := K) (r := uAdd) rfl opu_add) (pe_op op_mulT pe_str (pe_calG C__law_pull hr rfl (pa_cons (pv 0) (pa_cons pe_int pa_nil)))) (pv 2)) (pe_op op_mulT pe_str (pe_calG C__law_pull hr rfl (pa_cons (pv 0) (pa_cons pe_int pa_nil)))))))))), rd_start (σ0 := [some (.ref b), some (.str t), none, none, none]) rfl ?_⟩
 repeat walk_at "rd"
 refine ⟨t, rfl, for_sg (fun i σ H' => BagAt H' b cs ∧ Fr [b] H H' ∧ ∃ (g : Str) (wf : Bool) (z : Option V), σ = [some (.ref b), some (.str t), some (.str g), some (.bl wf), z] ∧ Tx (2 * i) g ∧ ∀ l', Spr wf (t.cps.toList.drop i) l' → Spr false t.cps.toList (g.cps.toList ++ l'))
  ⟨hB, Fr.refl, _, _, _, rfl, Tx.lit (by decide +kernel), fun l' h => h⟩ (fun i c σ H1 hc h => ?_) (fun σ H1 h => ?_)⟩
 ·obtain ⟨hB1, e1, g, wf, z, rfl, hg, hs⟩ := h
  have hi : i < t.cps.toList.length := (List.getElem?_eq_some_iff.mp hc).1
  have ed : t.cps.toList.drop i = c :: t.cps.toList.drop (i + 1) := by
   rw [List.drop_eq_getElem_cons hi]
   congr 1
   exact (List.getElem?_eq_some_iff.mp hc).2
  have lt := ht.len
  rw [len_l] at lt
  have hcq : decide ((⟨#[c]⟩ : Str) = "'") = decide (c = 39) := sg_eq c 39
  have ec : (⟨#[c]⟩ : Str).cps.toList = [c] := rfl
  have cx : c < 0x110000 := ht.ok c (List.mem_of_getElem? hc)
  have tc : Tx 1 (⟨#[c]⟩ : Str) := ⟨Nat.le_refl 1, fun d hd => by rw [List.mem_singleton.mp hd]; exact cx⟩
  obtain ⟨w2, hw⟩ : ∃ w2, w2 = (wf != decide (c = 39)) := ⟨_, rfl⟩
  have fin : ∀ (k : Nat) (g' : Str), (k = 0 ∨ (c ∈ [32, 44, 40, 41] ∧ w2 = false)) → g'.cps.toList = g.cps.toList ++ [c] ++ List.replicate k 32 → ∀ l', Spr w2 (t.cps.toList.drop (i + 1)) l' → Spr false t.cps.toList (g'.cps.toList ++ l') := fun k g' hk e l' hl => by
   have z := hs (c :: (List.replicate k 32 ++ l')) (by rw [ed]; exact .cons (by rw [← hw]; exact hk) (by rw [← hw]; exact hl))
   rw [e]
   simpa using z
  have lg := hg.len
  repeat walk_at "rdif"
  try dsimp only
  with_reducible refine g_cutS (fun σ H' => H' = H1 ∧ σ = [some (.ref b), some (.str t), some (.str g), some (.bl w2), some (.str ⟨#[c]⟩)]) (fun σ H2 h => ?_) (fun N k => ?_)
  ·obtain ⟨rfl, rfl⟩ := h
   repeat walk_at "rd"
   refine g_addS (le_of (by have := tc.len; omega)) ?_
   have tgc := hg.app tc
   have lgc := tgc.len
   have l2 : ∀ {k : Nat}, k ≤ 1 → 2 * i + 1 + k ≤ 2 * (i + 1) := fun h => by omega
   have e4 : (" ,()" : Str).cps.toList = [32, 44, 40, 41] := by decide +kernel
   have eg : (g ++ ⟨#[c]⟩ : Str).cps.toList = g.cps.toList ++ [c] := by rw [tl_app]
   have stay : BagAt H2 b cs ∧ SL.Fr [b] H H2 ∧ ∃ (g' : Str) (wf : Bool) (z : Option V), [some (V.ref b), some (V.str t), some (V.str (g ++ ⟨#[c]⟩)), some (V.bl w2), some (V.str ⟨#[c]⟩)] = [some (V.ref b), some (V.str t), some (V.str g'), some (V.bl wf), z] ∧ Tx (2 * (i + 1)) g' ∧ ∀ l', Spr wf (t.cps.toList.drop (i + 1)) l' → Spr false t.cps.toList (g'.cps.toList ++ l') :=
    ⟨hB1, e1, _, _, _, rfl, tgc.mono (by omega), fin 0 _ (.inl rfl) (by rw [eg]; simp)⟩
   repeat walk_at "rdif"
   refine g_inS ?_
   rw [StrLaws.found_one, e4]
   refine ⟨_, rfl, ?_⟩
   refine g_byB (fun c4 => ?_) (fun c4 => ?_)
   ·repeat walk_at "rd"
    cases w2 with
    | true =>
     repeat walk_at "rd"
     exact stay
    | false =>
     repeat walk_at "rd"
     refine ⟨b, cs, 3, rfl, hB1, by decide, by decide, fun k2 H3 k20 k21 hB3 e3 => ?_⟩
     repeat walk_at "rd"
     refine ⟨" ", k2 / 2, rfl, rfl, by omega, by omega, by decide +kernel, ?_⟩
     have t2 := rep_tx (k := k2 / 2) (n := 1) (by omega) (by omega)
     have tt := tgc.app t2
     refine g_addS (le_of (by have := tt.len; rw [app_len] at this; omega)) ?_
     repeat walk_at "rd"
     refine ⟨hB3, e1.trans e3, _, _, _, rfl, tt.mono (by omega), fin (k2 / 2).toNat _ (.inr ⟨of_decide_eq_true c4, rfl⟩) ?_⟩
     rw [tl_app, eg, rep_bl]
   ·repeat walk_at "rd"
    exact stay
  ·repeat walk_at "rdif"
   have hq : (⟨#[c]⟩ : Str) = "'" ↔ c = 39 := decide_eq_decide.mp hcq
   refine g_by (fun cc => ?_) (fun cc => ?_)
   ·repeat walk_at "rd"
    refine k _ _ ⟨rfl, ?_⟩
    rw [hw, decide_eq_true (hq.mp cc), Bool.bne_true]
    rfl
   ·repeat walk_at "rd"
    refine k _ _ ⟨rfl, ?_⟩
    rw [hw, decide_eq_false (fun e => cc (hq.mpr e)), Bool.bne_false]
    rfl
 ·obtain ⟨hB1, e1, g, wf, z, rfl, hg, hs⟩ := h
  have lg := hg.len
  have lt := ht.len
  rw [len_l] at lt
  repeat walk_at "rd"
  refine ⟨b, cs, 2, rfl, hB1, by decide, by decide, fun k2 H2 k20 k21 hB2 e2 => ?_⟩
  refine ⟨" ", k2, rfl, rfl, k20, by omega, by decide +kernel, ?_⟩
  have t2 := rep_tx (n := 1) k20 (by omega)
  repeat walk_at "rd"
  refine g_addS (le_of (by have := t2.len; omega)) ?_
  repeat walk_at "rd"
  refine ⟨b, cs, 2, rfl, hB2, by decide, by decide, fun k3 H3 k30 k31 hB3 e3 => ?_⟩
  refine ⟨" ", k3, rfl, rfl, k30, by omega, by decide +kernel, ?_⟩
  have t3 := rep_tx (n := 1) k30 (by omega)
  have t4 := (t2.app hg).app t3
  refine g_addS (le_of (by have := t4.len; rw [app_len] at this; omega)) ?_
  refine q _ _ ⟨k2.toNat, g.cps.toList ++ List.replicate k3.toNat 32, ?_, hs _ ?_⟩ (t4.mono (by omega)) hB3 ((e1.trans e2).trans e3)
  ·rw [tl_app, tl_app, rep_bl, rep_bl, List.append_assoc]
  ·rw [List.drop_length]
   exact .nil
end
theorem calmF {P : Program} {w : World} {K : PySem.W.Frag} {mg : Str → Option Value} {base : Heap} {k : Nat} {f : Addr} {fd : FuncData} {ps : List Str} {sp : Sp} (F : FnG P w K mg base (L2.CX P w) k f fd ps sp) : FnG P w K mg base CX0 k f fd ps (fun vs H Q _ => sp vs H Q fun _ _ _ => False) :=
 ⟨fun vs H Q E z => F.len _ _ _ _ z, fun A outer s H args us vs Q E r e b v z => codeAny_mono (F.go A outer s H args us vs Q (fun _ _ _ => False) r e b v z) fun res s2 hq => by
  cases res with
  | ok fl => cases fl <;> exact hq
  | error z =>
   obtain ⟨_, _, _, _, _, _, _, _, _, _, _, _, h⟩ := hq
   exact h.elim⟩
theorem calmX {P : Program} {w : World} {K : PySem.W.Frag} {mg : Str → Option Value} {base : Heap} {k : Nat} {x : Str} {sp : Sp} (c : CalX P w K mg base k x sp) : CalG P w K mg base k x (fun vs H Q _ => sp vs H Q fun _ _ _ => False) := by
 obtain ⟨f, fd, ps, F, m, kp, b⟩ := c.ex
 exact ⟨f, fd, ps, calmF F, m, kp, b⟩
def spGood (K : PySem.W.Frag) (F : List Th → Res → Prop) : Sp := fun vs H Q _ => ∃ (z : Str) (d : PyData), vs = [.str z] ∧ Tx 8999 z ∧ ReadR z F (.ok d) ∧ ∀ v H', Fr [] H H' → Td K H' v d → Q v H'
theorem goodX {P : Program} {w : World} {K : PySem.W.Frag} {mg : Str → Option Value} {base : Heap} {k : Nat} {x : Str} {B : Addr} {F : List Th → Res → Prop} (hF : ∀ ts r r', F ts r → F ts r' → r = r') (c : CalX P w K mg base k x (spRead K B F)) : CalG P w K mg base k x (spGood K F) :=
 (calmX c).imp fun vs H Q E ⟨z, d, e, tz, hr, q⟩ => ⟨z, e, tz, fun d' v H' h fr td => by
  have := ReadR.det hF hr h
  cases this
  exact q v H' fr td, fun n dd H' h _ _ => absurd (ReadR.det hF hr h) (fun x => nomatch x)⟩
def spPaper (K : PySem.W.Frag) : Sp := fun vs H Q _ => ∃ (z : Str) (zs : List Str) (ds : List PyData), vs = [.str z] ∧ Tx 8000 z ∧ ((z = "" ∧ zs = []) ∨ (z ≠ "" ∧ Txt.split z "\n" = zs)) ∧ zs.length = ds.length ∧ zs.length ≤ 100 ∧
 (∀ (i : Nat) (y : Str), zs[i]? = some y → ∃ d, ds[i]? = some d ∧ Tx 8999 y ∧ ReadR y RuleR (.ok d)) ∧ ∀ v H', Fr [] H H' → Td K H' v (.tuple ds) → Q v H'
abbrev s_read_paper : Stmt := topS 45
theorem sc_read_paper : FnScope ["text", "found", "place", "line", "e"] ["text"] (defScope s_read_paper) := ⟨rfl, rfl, rfl, by decide +kernel, rfl, by decide +kernel, by decide +kernel⟩
structure BiP (mg : Str → Option Value) : Prop where
 b_len : mg "len" = none
 b_tuple : mg "tuple" = none
section
variable {P : Program} {w : World} {K : PySem.W.Frag} {mg : Str → Option Value} {base : Heap} {f : Addr} {fd : FuncData}
theorem ok_read_paper (F : FnP K "read_paper" s_read_paper f fd) (B : BiP mg) (C_read_rule : CalG P w K mg base 57 "read_rule" (spGood K RuleR)) : FnG P w K mg base CX0 58 f fd ["text"] (spPaper K) := by
 refine okG F sc_read_paper (fun vs H Q E h => ?_) (fun cdv A outer s H vs Q E hr h => ?_)
 ·obtain ⟨z, zs, ds, rfl, _⟩ := h
  rfl
 obtain ⟨z, zs, ds, rfl, tz, hz, hl, hl1, hrd, q⟩ := h
 refine ⟨_, PSs.nox (pss_cons (ps_set (i := 1) sc_read_paper.nd rfl (.inl rfl) (pe_lst pa_nil))
 (pss_cons (ps_set (i := 2) sc_read_paper.nd rfl (.inl rfl) pe_int)
 (pss_cons (ps_for PassesOwn.never rfl (pi_listK (K := K) rfl (pe_ifExp (pt_cmpR (kOp (K := K) (r := uNe) rfl (opu_ne hr.units)) (pv 0) pe_str (nomark _)) (kBM (K := K) rfl (pe_bm PySem.F.plainAttrs_str PySem.F.slot_str_split PySem.F.type_str_split mt_split (pv 0) (pa_cons pe_str pa_nil))) (pe_lst pa_nil))) (pg_name (i := 3) sc_read_paper.nd rfl (by first | exact Or.inl rfl | exact Or.inr rfl)) (pss_cons (ps_try_thru0 (pss_one (ps_expr (kBM (K := K) rfl (pe_bm PySem.F.plainAttrs_list PySem.F.slot_list_append PySem.F.type_list_append mt_append (pv 1) (pa_cons (pe_calG C_read_rule hr rfl (pa_cons (pv 3) pa_nil)) pa_nil))))))
 (pss_one (ps_aug (i := 2) sc_read_paper.nd rfl (.inl rfl) (pe_op (kOp (K := K) (r := uAdd) rfl opu_add) (pe_callB (kCall (K := K) (r := uLen) rfl callu_len) (by rfl) B.b_len (by decide +kernel) (pa_cons (pv 3) pa_nil)) pe_int) ip_add))))
 (pss_one (ps_ret (pe_callTy (kCall (K := K) (r := uTuple) rfl callu_tuple) (by rfl) B.b_tuple (by decide +kernel) (pa_cons (pv 1) pa_nil))))))), rd_start (σ0 := [some (.str z), none, none, none, none]) rfl ?_⟩
 repeat walk_at "rd"
 refine ⟨le_of (by simp), fun D hD => ?_⟩
 have hD0 : (upd H D (.lst [])) D = some (.lst []) := upd_same
 have e0 : Fr [] H (upd H D (.lst [])) := Fr.new hD
 generalize upd H D (.lst []) = H0 at *
 repeat walk_at "rd"
 have hDH : H D = none := hD
 have loop : ∀ (L : Addr) (H1 : Hp), L ≠ D → H1 L = some (.lst (zs.map V.str)) → Fr [] H0 H1 → ∃ Pv : Nat → L2.St → Hp → Prop, Pv 0 [some (.str z), some (.ref D), some (.int 0), none, none] H1 ∧ (∀ i σ H', Pv i σ H' → SqL K H' L (zs.map V.str)) ∧
   (∀ i σ H', Pv i σ H' → ∃ (pl : Nat) (z3 z4 : Option V) (ys : List V), σ = [some (.str z), some (.ref D), some (.int (pl : Int)), z3, z4] ∧ pl ≤ 9001 * i ∧ H' D = some (.lst ys) ∧ TdAll K H' ys (ds.take i) ∧ ys.length = i ∧ Fr [] H H') ∧
   (∀ i (pl : Nat) (z3 z4 : Option V) (ys : List V) (H' : Hp), pl ≤ 9001 * i → H' L = some (.lst (zs.map V.str)) → H' D = some (.lst ys) → TdAll K H' ys (ds.take i) → ys.length = i → Fr [] H H' → Pv i [some (.str z), some (.ref D), some (.int (pl : Int)), z3, z4] H') ∧ (∀ i σ H', Pv i σ H' → H' L = some (.lst (zs.map V.str))) :=
  fun L H1 hLD hL e1 => ⟨fun i σ H' => H' L = some (.lst (zs.map V.str)) ∧ ∃ (pl : Nat) (z3 z4 : Option V) (ys : List V), σ = [some (.str z), some (.ref D), some (.int (pl : Int)), z3, z4] ∧ pl ≤ 9001 * i ∧ H' D = some (.lst ys) ∧ TdAll K H' ys (ds.take i) ∧ ys.length = i ∧ Fr [] H H',
   ⟨hL, 0, none, none, [], rfl, Nat.zero_le _, e1.at hD0 (fun z => nomatch z), .nil, rfl, e0.trans e1⟩, fun i σ H' h => SqL.of h.1, fun i σ H' h => h.2, fun i pl z3 z4 ys H' h1 h2 h3 h4 h5 h6 => ⟨h2, pl, z3, z4, ys, rfl, h1, h3, h4, h5, h6⟩, fun i σ H' h => h.1⟩
 refine g_byN (fun c => ?_) (fun c => ?_)
 ·have hs : Txt.split z "\n" = zs := by
   rcases hz with ⟨h, _⟩ | ⟨_, h⟩
   ·exact absurd h c
   ·exact h
  have ltz := tz.len
  repeat walk_at "rd"
  refine ⟨z, "\n", rfl, rfl, by decide +kernel, le_of (by omega), fun L hL => ?_⟩
  rw [hs]
  have hLD : L ≠ D := fun e => by rw [e, hD0] at hL; cases hL
  have eL : Fr [] H0 (upd H0 L (.lst (zs.map V.str))) := Fr.new hL
  obtain ⟨Pv, p0, p1, p2, p3, p4⟩ := loop L _ hLD upd_same eL
  refine ⟨L, rfl, ⟨_, SqL.of upd_same⟩, for_list (xs := zs.map V.str) Pv p0 (fun i σ H' _ h => p1 i σ H' h) (fun i x σ H1 hx h => ?_) (fun σ H1 h => ?_)⟩
  ·have hL1 := p4 _ _ _ h
   obtain ⟨pl, z3, z4, ys, rfl, hpl, hD1, hty, hyl, e1⟩ := p2 _ _ _ h
   rw [List.getElem?_map] at hx
   cases ey : zs[i]? with
   | none => rw [ey] at hx; cases hx
   | some y =>
    rw [ey] at hx
    cases hx
    obtain ⟨d, hd, ty, hr1⟩ := hrd i y ey
    have hi : i < zs.length := (List.getElem?_eq_some_iff.mp ey).1
    have lty := ty.len
    repeat walk_at "rd"
    refine ⟨y, d, rfl, ty, hr1, fun v H2 e2 tv => ?_⟩
    have hD2 := e2.at hD1 (fun z => nomatch z)
    refine ⟨D, ys, _, rfl, rfl, hD2, lt_of (by omega), ?_⟩
    have eD : Fr [D] H2 (upd H2 D (.lst (ys ++ [v]))) := Fr.mut (List.mem_singleton.mpr rfl) hD2 nofix_lst
    have ht3 : TdAll K (upd H2 D (.lst (ys ++ [v]))) (ys ++ [v]) (ds.take (i + 1)) := by
     rw [show ds.take (i + 1) = ds.take i ++ [d] by rw [List.take_succ, hd]; rfl]
     exact (tda_snoc (hty.fr e2) tv).fr eD
    have hL3 : (upd H2 D (.lst (ys ++ [v]))) L = some (.lst (zs.map V.str)) := by rw [upd_ne hLD]; exact e2.at hL1 (fun z => nomatch z)
    have e3 : Fr [] H (upd H2 D (.lst (ys ++ [v]))) := (e1.trans e2).over hDH
    have hD3 : (upd H2 D (.lst (ys ++ [v]))) D = some (.lst (ys ++ [v])) := upd_same
    generalize upd H2 D (.lst (ys ++ [v])) = H3 at *
    try dsimp only
    refine ⟨_, rfl, ?_⟩
    repeat walk_at "rd"
    refine g_lenS (le_of (by omega)) ?_
    repeat walk_at "rd"
    refine ⟨_, _, rfl, rfl, ?_⟩
    try dsimp only
    have p := p3 (i + 1) (pl + (y.length + 1)) (some (.str y)) z4 (ys ++ [v]) H3 (by omega) hL3 hD3 ht3 (by rw [List.length_append, hyl]; rfl) e3
    have en : (pl : Int) + ((y.length : Int) + 1) = ((pl + (y.length + 1) : Nat) : Int) := by omega
    show Pv (i + 1) _ H3
    rw [en]
    exact p
  ·obtain ⟨pl, z3, z4, ys, rfl, hpl, hD1, hty, hyl, e1⟩ := p2 _ _ _ h
   rw [List.length_map, hl, List.take_length] at hty
   repeat walk_at "rd"
   refine g_tupleL (SqL.of hD1) fun p hp => ?_
   have ep : Fr [] H1 (upd H1 p (.tup ys)) := Fr.new hp
   exact q _ _ (e1.trans ep) (.tup (SqT.of upd_same) (hty.fr ep))
 ·have hzs : zs = [] := by
   rcases hz with ⟨_, h⟩ | ⟨h, _⟩
   ·exact h
   ·exact absurd c h
  have hds : ds = [] := by
   rw [hzs] at hl
   exact List.length_eq_zero_iff.mp hl.symm
  subst hzs
  subst hds
  repeat walk_at "rd"
  refine ⟨le_of (by simp), fun L hL => ?_⟩
  have hLD : L ≠ D := fun e => by rw [e, hD0] at hL; cases hL
  have eL : Fr [] H0 (upd H0 L (.lst [])) := Fr.new hL
  obtain ⟨Pv, p0, p1, p2, p3, p4⟩ := loop L _ hLD upd_same eL
  refine ⟨L, rfl, ⟨[], SqL.of upd_same⟩, for_list (xs := ([] : List V)) Pv p0 (fun i σ H' _ h => p1 i σ H' h) (fun i x σ H1 hx h => by cases hx) (fun σ H1 h => ?_)⟩
  obtain ⟨pl, z3, z4, ys, rfl, hpl, hD1, hty, hyl, e1⟩ := p2 _ _ _ h
  have hy0 : ys = [] := List.length_eq_zero_iff.mp hyl
  subst hy0
  repeat walk_at "rd"
  refine g_tupleL (SqL.of hD1) fun p hp => ?_
  have ep : Fr [] H1 (upd H1 p (.tup [])) := Fr.new hp
  exact q _ _ (e1.trans ep) (.tup (SqT.of upd_same) .nil)
end
theorem sm_mono : ∀ {n m : Nat} {d : PyData}, Sm n d → n ≤ m → Sm m d
 | 0, _, _, h, _ => (sm_zero h).elim
 | n + 1, 0, _, _, l => absurd l (by omega)
 | n + 1, m + 1, d, h, l => by
  cases d with
  | list ds => exact ⟨h.1, fun d hd => sm_mono (h.2 d hd) (by omega)⟩
  | tuple ds => exact ⟨h.1, fun d hd => sm_mono (h.2 d hd) (by omega)⟩
  | int i => simp only [Sm] at h ⊢; exact h
  | str z => simp only [Sm] at h ⊢; exact h
  | bool b => simp only [Sm]
  | none => simp only [Sm]
  | dict _ => simp only [Sm] at h
theorem sm_tup {n : Nat} {ds : List PyData} (hl : ds.length ≤ 10000) (h : ∀ d ∈ ds, Sm n d) : Sm (n + 1) (.tuple ds) := ⟨hl, h⟩
theorem sm_t2 {n : Nat} {a b : PyData} (ha : Sm n a) (hb : Sm n b) : Sm (n + 1) (.tuple [a, b]) := sm_tup (by simp) fun d hd => by
 simp only [List.mem_cons, List.not_mem_nil, or_false] at hd
 rcases hd with rfl | rfl
 ·exact ha
 ·exact hb
theorem sm_t3 {n : Nat} {a b c : PyData} (ha : Sm n a) (hb : Sm n b) (hc : Sm n c) : Sm (n + 1) (.tuple [a, b, c]) := sm_tup (by simp) fun d hd => by
 simp only [List.mem_cons, List.not_mem_nil, or_false] at hd
 rcases hd with rfl | rfl | rfl
 ·exact ha
 ·exact hb
 ·exact hc
theorem sm_str {n k : Nat} {z : Str} (h : Tx k z) (hk : k ≤ 9000) : Sm (n + 1) (.str z) := by
 simp only [Sm]
 exact h.short hk
theorem sm_lit {n : Nat} {z : Str} (h : txB 9000 z = true) : Sm (n + 1) (.str z) := sm_str (Tx.lit h) (by decide)
theorem sm_v {n : Nat} {v : V} (h : ValG v) : Sm (n + 1) (scD v) := by
 rcases h with ⟨i, rfl, h⟩ | ⟨b, rfl⟩ | ⟨x, rfl, h⟩
 ·show Sm (n + 1) (.int i)
  simp only [Sm]
  by_cases z : i.natAbs = 0
  ·rw [z]; decide
  ·exact Nat.lt_of_lt_of_le ((Nat.log2_lt z).mpr (Nat.lt_of_lt_of_le h (by decide : 10 ^ 30 ≤ 2 ^ 100))) (by decide)
 ·show Sm (n + 1) (.bool b); simp only [Sm]
 ·exact sm_str h (by decide)
theorem sum_sm {k : Nat} {e : SumE} (h : SumG k e) : Sm (k + 2) e.d := by
 induction h with
 | @val n u h => exact sm_t2 (n := n + 1) (sm_lit (by decide +kernel)) (sm_v h)
 | @var n x h => exact sm_t2 (n := n + 1) (sm_lit (by decide +kernel)) (sm_str h (by decide))
 | @op n s a b hs _ _ h1 h2 => exact sm_t3 (n := n + 2) (by
  rcases hs with rfl | rfl | rfl <;> exact sm_lit (by decide +kernel)) h1 h2
theorem term_sm {t : TermE} (h : TermG t) : Sm 2 t.d := by
 cases h with
 | any => exact sm_tup (n := 1) (by simp) fun d hd => by rw [List.mem_singleton.mp hd]; exact sm_lit (by decide +kernel)
 | s h => exact sum_sm h
theorem test_sm {k n : Nat} {s : Str} {a b : SumE} (hs : Tx n s) (hn : n ≤ 9000) (ha : SumG k a) (hb : SumG k b) : Sm (k + 3) (PartE.test s a b).d := sm_tup (n := k + 2) (by simp) fun d hd => by
 simp only [List.mem_cons, List.not_mem_nil, or_false] at hd
 rcases hd with rfl | rfl | rfl | rfl
 ·exact sm_lit (by decide +kernel)
 ·exact sm_str hs hn
 ·exact sum_sm ha
 ·exact sum_sm hb
theorem part_sm {p : PartE} (h : PartG p) : Sm 4 p.d := by
 cases h with
 | @atom no x ts hx hl h => exact sm_t3 (n := 3) (by cases no <;> exact sm_lit (by decide +kernel)) (sm_str hx (by decide)) (sm_tup (n := 2) (by rw [List.length_map]; omega) fun d hd => by
  obtain ⟨t, ht, rfl⟩ := List.mem_map.mp hd
  exact term_sm (h t ht))
 | @lt x e hx h => exact sm_t3 (n := 3) (sm_lit (by decide +kernel)) (sm_str hx (by decide)) (sum_sm h)
 | @test s a b hs h k => exact test_sm hs (by decide) h k
theorem arg_sm {a : ArgE} (h : ArgG a) : Sm 2 a.d := by
 cases h with
 | s h => exact sum_sm h
 | fold0 h => exact sm_t3 (n := 1) (sm_lit (by decide +kernel)) (sm_str h (by decide)) (by simp only [Sm])
 | fold h k => exact sm_t3 (n := 1) (sm_lit (by decide +kernel)) (sm_str h (by decide)) (sm_str k (by decide))
theorem args_sm {as : List ArgE} (h : argsG as) : Sm 3 (argsD as) := sm_tup (n := 2) (by rw [List.length_map]; have := h.1; omega) fun d hd => by
 obtain ⟨t, ht, rfl⟩ := List.mem_map.mp hd
 exact arg_sm (h.2 t ht)
theorem parts_sm {ps : List PartE} (h : partsG ps) : Sm 5 (partsD ps) := sm_tup (n := 4) (by rw [List.length_map]; have := h.1; omega) fun d hd => by
 obtain ⟨t, ht, rfl⟩ := List.mem_map.mp hd
 exact part_sm (h.2 t ht)
theorem rule_sm {r : Str × List ArgE × List PartE} (h : ruleG r) : Sm 6 (ruleD r) := sm_t3 (n := 5) (sm_str h.1 (by decide)) (sm_mono (args_sm h.2.1) (by decide)) (parts_sm h.2.2)
theorem quest_sm {r : List ArgE × List PartE} (h : questG r) : Sm 6 (questD r) := sm_t2 (n := 5) (sm_mono (args_sm h.1) (by decide)) (parts_sm h.2)
theorem Spell.no10 {last : Option (Str × V)} {l : List Nat} {q : List (Str × V)} (h : Spell last l q) : 10 ∉ l := by
 have run : ∀ {c : Nat}, isRun c = true ∨ c = 45 → c ≠ 10 := fun h => by
  unfold isRun isLet isFig at h
  simp only [Bool.or_eq_true, decide_eq_true_eq] at h
  omega
 induction h with
 | nil => simp
 | blank _ ih => simp [ih]
 | @run last c w l s v q hc hw hl hr h ih =>
  have h1 := run (hc.imp id And.left)
  have h2 : 10 ∉ w := fun hm => run (.inl (List.all_eq_true.mp hw 10 hm)) rfl
  simp only [List.mem_cons, List.mem_append, not_or]
  exact ⟨fun e => h1 e.symm, h2, ih⟩
 | @word last w l q hw h ih =>
  have h2 : 10 ∉ w := fun hm => by
   cases w with
   | nil => cases hm
   | cons d r =>
    have z := (Bool.and_eq_true_iff.mp (Bool.and_eq_true_iff.mp (show (decide (r.length ≤ 11) && (isLet d && (d :: r).all (fun d => isLet d || isFig d))) = true from hw)).2).2
    exact absurd (List.all_eq_true.mp z 10 hm) (by decide)
  simp only [List.mem_cons, List.mem_append, not_or]
  exact ⟨by decide, h2, by decide, ih⟩
 | @sign last c l q hc h1 h2 h ih =>
  have : ∀ c ∈ sgnL, c ≠ 10 := by decide
  simp only [List.mem_cons, not_or]
  exact ⟨fun e => this c hc e.symm, ih⟩
 | @sign2 last c l q hc h ih =>
  simp only [List.mem_cons, not_or]
  exact ⟨by omega, by decide, ih⟩
def tightP : PartE := .test "<=" (.op "-" (.var "x") (.val (.int 1))) (.op "*" (.var "y") (.val (.int (-2))))
theorem x_ok : VarN "x" := varB_ok (by decide +kernel)
theorem y_ok : VarN "y" := varB_ok (by decide +kernel)
def vlK (i : Int) : Str × V := ("value", .int i)
theorem tight_spell : SpF ("x-1<=y*-2" : Str).cps.toList (repK 0 "(" ++ sumK (.op "-" (.var "x") (.val (.int 1))) ++ repK 0 ")" ++ sgK "<=" :: sumK (.op "*" (.var "y") (.val (.int (-2))))) := by
 have e : ("x-1<=y*-2" : Str).cps.toList = 120 :: ([] ++ 45 :: ((toString (1 : Int) : Str).cps.toList ++ 60 :: 61 :: (("y" : Str).cps.toList ++ 42 :: ((toString (-2 : Int) : Str).cps.toList ++ [])))) := by decide +kernel
 have e2 : repK 0 "(" ++ sumK (.op "-" (.var "x") (.val (.int 1))) ++ repK 0 ")" ++ sgK "<=" :: sumK (.op "*" (.var "y") (.val (.int (-2)))) = nmK "x" :: (sgK "-" :: ([vlK 1] ++ (sgK "<=" :: ([nmK "y"] ++ (sgK "*" :: ([vlK (-2)] ++ [])))))) := by
  have s1 : ("*" : Str) = "*" := rfl
  have s2 : ¬ (("-" : Str) = "*") := by decide +kernel
  show repK 0 "(" ++ (wrapK (if ("-" : Str) = "*" then 2 else 1) (.var "x") [nmK "x"] ++ sgK "-" :: wrapK ((if ("-" : Str) = "*" then 2 else 1) + 1) (.val (.int 1)) [vlK 1]) ++ repK 0 ")" ++ sgK "<=" :: (wrapK (if ("*" : Str) = "*" then 2 else 1) (.var "y") [nmK "y"] ++ sgK "*" :: wrapK ((if ("*" : Str) = "*" then 2 else 1) + 1) (.val (.int (-2))) [vlK (-2)]) = _
  rw [if_neg s2, if_pos s1]
  rfl
 have a1 : SpA (42 :: ((toString (-2 : Int) : Str).cps.toList ++ [])) (sgK "*" :: ([vlK (-2)] ++ [])) := by
  have z := SpA.sg (c := 42) (by decide) (fun e => absurd e (by decide)) (fun e => absurd e (by decide)) (by decide) (say_int (n := -2) (by decide) [] [] rfl fun _ => .nil)
  rw [show tx [42] = "*" by decide +kernel] at z
  exact z
 have a2 := say_name y_ok _ _ rfl a1
 have a3 : SpA (60 :: 61 :: (("y" : Str).cps.toList ++ 42 :: ((toString (-2 : Int) : Str).cps.toList ++ []))) (sgK "<=" :: ([nmK "y"] ++ (sgK "*" :: ([vlK (-2)] ++ [])))) := fun last => by
  have z := Spell.sign2 (last := last) (c := 60) (.inr (.inl rfl)) (a2 _ (by decide +kernel))
  rw [show tx [60, 61] = "<=" by decide +kernel] at z
  exact z
 have a4 := say_int (n := 1) (by decide) _ _ rfl a3
 rw [e, e2]
 intro last hf
 refine .run (c := 120) (w := []) (.inl (by decide)) rfl rfl (by rw [show tx [120] = "x" by decide +kernel]; exact runT_name x_ok) ?_
 have z := Spell.sign (last := some (nmK "x")) (c := 45) (by decide) (fun _ => .inr (by decide +kernel)) (fun e => absurd e (by decide)) (a4 _ (by decide +kernel))
 rw [show tx [45] = "-" by decide +kernel] at z
 exact z
def RulesAt (K : PySem.W.Frag) (H : Hp) (D : Addr) (rs : List (Str × List ArgE × List PartE)) : Prop := ∃ us, H D = some (.lst us) ∧ TdAll K H us (rs.map ruleD)
theorem RulesAt.fr {K : PySem.W.Frag} {H H' : Hp} {D : Addr} {rs : List (Str × List ArgE × List PartE)} {M : List Addr} (h : RulesAt K H D rs) (e : Fr M H H') (n : D ∉ M) : RulesAt K H' D rs := by
 obtain ⟨us, h1, h2⟩ := h
 exact ⟨us, e.at h1 n, h2.fr e⟩
def spLaw (K : PySem.W.Frag) : Sp := fun vs H Q _ => ∃ (a : Addr) (ns : List Int), vs = [.ref a] ∧ SqL K H a (ns.map V.int) ∧ ns.length ≤ 63 ∧ ∀ H', Q (.bl true) H'
abbrev s_law : Stmt := topS 90
theorem sc_law : FnScope ["_law_script", "_law_bag_here", "_law_rules", "_law_k", "_law_rule", "_law_text", "_law_question", "_law_thing", "_law_deep", "_law_tight"] ["_law_script"] (defScope s_law) := ⟨rfl, rfl, rfl, by decide +kernel, rfl, by decide +kernel, by decide +kernel⟩
structure BiK (mg : Str → Option Value) : Prop where
 b_range : mg "range" = none
 b_tuple : mg "tuple" = none
theorem ruleT_tx {r : Str × List ArgE × List PartE} (hG : ruleG r) : Tx 2400 (ruleT r.1 r.2.1 r.2.2) := by
 unfold ruleT
 split
 ·exact (((hG.1.app (Tx.lit (n := 1) (by decide +kernel))).app hG.2.1.tx).app (Tx.lit (n := 1) (by decide +kernel))).mono (by decide)
 ·exact (((((hG.1.app (Tx.lit (n := 1) (by decide +kernel))).app hG.2.1.tx).app (Tx.lit (n := 1) (by decide +kernel))).app (Tx.lit (n := 4) (t := " if ") (by decide +kernel))).app hG.2.2.tx).mono (by decide)
theorem rep_ch {x : Str} {c : Nat} (hx : x.cps.toList = [c]) (k : Int) : (repS x k).cps.toList = List.replicate k.toNat c := by
 rw [repS_toList, hx]
 generalize k.toNat = n
 induction n with
 | zero => rfl
 | succ n ih => rw [List.replicate_succ, List.replicate_succ, List.flatten_cons, ih]; rfl
theorem rep_txc {x : Str} {c : Nat} (hx : x.cps.toList = [c]) (hc : c < 0x110000) {k : Int} {n : Nat} (h0 : 0 ≤ k) (h : k ≤ n) : Tx n (repS x k) := ⟨by rw [len_l, rep_ch hx, List.length_replicate]; omega, fun d hd => by
 rw [rep_ch hx] at hd
 rw [List.eq_of_mem_replicate hd]
 exact hc⟩
theorem l_lt3 : (" < 3" : Str).cps.toList = 32 :: 60 :: 32 :: ((toString (3 : Int) : Str).cps.toList ++ []) := by decide +kernel
theorem say_deep3 {n m : Nat} {e : SumE} (h : SumW n e) : SpF (repS "(" (m : Int) ++ sumT e ++ repS ")" (m : Int) ++ " < 3" : Str).cps.toList (repK m "(" ++ sumK e ++ repK m ")" ++ sgK "<" :: sumK (.val (.int 3))) := by
 have e1 : (repS "(" (m : Int) ++ sumT e ++ repS ")" (m : Int) ++ " < 3" : Str).cps.toList = (List.replicate m 40 ++ (sumT e).cps.toList ++ List.replicate m 41) ++ (32 :: 60 :: 32 :: ((toString (3 : Int) : Str).cps.toList ++ [])) := by
  rw [tl_app, tl_app, tl_app, rep_ch l_op, rep_ch l_cl, l_lt3]
  rfl
 rw [e1]
 refine say_deep h m _ (sgK "<" :: sumK (.val (.int 3))) rfl (SpA.bl ?_)
 have z := SpA.sg (c := 60) (l := 32 :: ((toString (3 : Int) : Str).cps.toList ++ [])) (q := [vlK 3] ++ []) (by decide) (fun e => absurd e (by decide)) (fun _ z => absurd z (by decide)) (by decide) (SpF.bl (say_int (n := 3) (by decide) [] [] rfl fun _ => .nil))
 rw [show tx [60] = "<" by decide +kernel] at z
 exact z
section
variable {P : Program} {w : World} {K : PySem.W.Frag} {mg : Str → Option Value} {base : Heap} {f : Addr} {fd : FuncData}
theorem ok_law (F : FnP K "law" s_law f fd) (B : BiK mg) (C__law_bag : CalG P w K mg base 10 "_law_bag" (spBag K)) (C__law_any_rule : CalG P w K mg base 63 "_law_any_rule" (spAnyRule K)) (C__law_same : CalG P w K mg base 12 "_law_same" (spSame K 12))
  (C_rule_text : CalG P w K mg base 16 "rule_text" (spTx K ruleD ruleG fun r => ruleT r.1 r.2.1 r.2.2)) (C__law_rule_text : CalG P w K mg base 16 "_law_rule_text" (spTx K ruleD ruleG fun r => ruleT r.1 r.2.1 r.2.2)) (C__law_full_parts : CalG P w K mg base 16 "_law_full_parts" (spFull K))
  (C_question_text : CalG P w K mg base 16 "question_text" (spTx K questD questG fun r => questT r.1 r.2)) (C__law_asking : CalG P w K mg base 16 "_law_asking" (spTx K questD questG fun r => questT r.1 r.2)) (C__law_sum : CalG P w K mg base 55 "_law_sum" (spSum K 5))
  (C__law_sum_text : CalG P w K mg base 11 "_law_sum_text" (spSumT K 5)) (C__law_pull : CalG P w K mg base 10 "_law_pull" spPull) (C__law_spread : CalG P w K mg base 17 "_law_spread" spSpread)
  (C_read_rule : CalG P w K mg base 57 "read_rule" (spGood K RuleR)) (C_read_question : CalG P w K mg base 57 "read_question" (spGood K QuestionR)) (C_read_tests : CalG P w K mg base 57 "read_tests" (spGood K TestsR)) (C_read_paper : CalG P w K mg base 58 "read_paper" (spPaper K)) :
  FnG P w K mg base CX0 100 f fd ["_law_script"] (spLaw K) := by
 refine okG F sc_law (fun vs H Q E h => ?_) (fun cdv A outer s H vs Q E hr h => ?_)
 ·obtain ⟨a, ns, rfl, _⟩ := h
  rfl
 obtain ⟨a, ns, rfl, hS, hl, q⟩ := h
 refine ⟨_, PSs.nox (pss_cons (ps_set (i := 1) sc_law.nd rfl (.inl rfl) (pe_calG C__law_bag hr rfl (pa_cons (pv 0) pa_nil)))
 (pss_cons (ps_set (i := 2) sc_law.nd rfl (.inl rfl) (pe_lst pa_nil))
 (pss_cons (ps_for PassesOwn.never rfl (pi_range1 rfl B.b_range (pa_cons pe_int pa_nil)) (pg_name (i := 3) sc_law.nd rfl (by first | exact Or.inl rfl | exact Or.inr rfl)) (pss_cons (ps_set (i := 4) sc_law.nd rfl (.inl rfl) (pe_calG C__law_any_rule hr rfl (pa_cons (pv 1) pa_nil)))
 (pss_cons (ps_expr (kBM (K := K) rfl (pe_bm PySem.F.plainAttrs_list PySem.F.slot_list_append PySem.F.type_list_append mt_append (pv 2) (pa_cons (pv 4) pa_nil))))
 (pss_cons (ps_set (i := 5) sc_law.nd rfl (.inl rfl) (pe_calG C__law_rule_text hr rfl (pa_cons (pv 4) pa_nil)))
 (pss_cons (ps_if (PW.pt (pw_or (pt_not (pt_val (pe_calG C__law_same hr rfl (pa_cons (pe_calG C_read_rule hr rfl (pa_cons (pv 5) pa_nil)) (pa_cons (pv 4) pa_nil))))) (pw_or1 (pt_cmpR (kOp (K := K) (r := uNe) rfl (opu_ne hr.units)) (pe_calG C_rule_text hr rfl (pa_cons (pe_calG C_read_rule hr rfl (pa_cons (pv 5) pa_nil)) pa_nil)) (pv 5) (nomark _))))) (pss_one (ps_ret pe_bl)) pss_nil)
 (pss_cons (ps_if (pt_not (pt_val (pe_calG C__law_same hr rfl (pa_cons (pe_calG C_read_rule hr rfl (pa_cons (pe_calG C__law_spread hr rfl (pa_cons (pv 1) (pa_cons (pv 5) pa_nil))) pa_nil)) (pa_cons (pv 4) pa_nil))))) (pss_one (ps_ret pe_bl)) pss_nil)
 (pss_cons (ps_set (i := 6) sc_law.nd rfl (.inl rfl) (pe_tup (pa_cons (pe_ix (kIx (K := K) (r := rIx) rfl ix_seq) (pv 4) pe_int (fun _ _ => rfl)) (pa_cons (pe_calG C__law_full_parts hr rfl (pa_cons (pe_ix (kIx (K := K) (r := rIx) rfl ix_seq) (pv 4) pe_int (fun _ _ => rfl)) pa_nil)) pa_nil))))
 (pss_cons (ps_if (pt_cmpR (kOp (K := K) (r := uNe) rfl (opu_ne hr.units)) (pe_ix (kIx (K := K) (r := rIx) rfl ix_seq) (pv 6) pe_int (fun _ _ => rfl)) (pe_tup pa_nil) (nomark _)) (pss_cons (ps_set (i := 5) sc_law.nd rfl (.inl rfl) (pe_calG C__law_asking hr rfl (pa_cons (pv 6) pa_nil)))
 (pss_cons (ps_if (pt_not (pt_val (pe_calG C__law_same hr rfl (pa_cons (pe_calG C_read_question hr rfl (pa_cons (pe_calG C__law_spread hr rfl (pa_cons (pv 1) (pa_cons (pv 5) pa_nil))) pa_nil)) (pa_cons (pv 6) pa_nil))))) (pss_one (ps_ret pe_bl)) pss_nil)
 (pss_one (ps_if (pt_cmpR (kOp (K := K) (r := uNe) rfl (opu_ne hr.units)) (pe_calG C_question_text hr rfl (pa_cons (pe_calG C_read_question hr rfl (pa_cons (pv 5) pa_nil)) pa_nil)) (pv 5) (nomark _)) (pss_one (ps_ret pe_bl)) pss_nil)))) pss_nil)
 (pss_cons (ps_set (i := 7) sc_law.nd rfl (.inl rfl) (pe_calG C__law_sum hr rfl (pa_cons (pv 1) (pa_cons (pe_disp (pps_cons pe_str pe_str (pps_cons pe_str pe_str pps_nil)) (by rfl) (by rfl) (fun z => by cases z) (by decide)) (pa_cons pe_int pa_nil)))))
 (pss_cons (ps_set (i := 8) sc_law.nd rfl (.inl rfl) (pe_calG C__law_pull hr rfl (pa_cons (pv 1) (pa_cons pe_int pa_nil))))
 (pss_cons (ps_set (i := 5) sc_law.nd rfl (.inl rfl) (pe_op (kOp (K := K) (r := uAdd) rfl opu_add) (pe_op (kOp (K := K) (r := uAdd) rfl opu_add) (pe_op (kOp (K := K) (r := uAdd) rfl opu_add) (pe_op op_mulT pe_str (pv 8)) (pe_calG C__law_sum_text hr rfl (pa_cons (pv 7) pa_nil))) (pe_op op_mulT pe_str (pv 8))) pe_str))
 (pss_one (ps_if (pt_not (pt_val (pe_calG C__law_same hr rfl (pa_cons (pe_calG C_read_tests hr rfl (pa_cons (pv 5) pa_nil)) (pa_cons (pe_tup (pa_cons (pe_tup (pa_cons pe_str (pa_cons pe_str (pa_cons (pv 7) (pa_cons (pe_tup (pa_cons pe_str (pa_cons pe_int pa_nil))) pa_nil))))) pa_nil)) pa_nil))))) (pss_one (ps_ret pe_bl)) pss_nil)))))))))))))
 (pss_cons (ps_if (pt_not (pt_val (pe_calG C__law_same hr rfl (pa_cons (pe_calG C_read_paper hr rfl (pa_cons (kBM (K := K) rfl (pe_bm PySem.F.plainAttrs_str PySem.F.slot_str_join PySem.F.type_str_join (kMt (K := K) (r := rJoin) rfl mt_joinU) pe_str (pa_cons (pe_lc (own := [("_law_rule", 4)]) (g := gName 4) (tt := tYes) rfl sc_law.nd (pi_listK (K := K) rfl (pe_slice (kSl (K := K) (r := rSlL) rfl sl_list) (pv 2) po_none (po_some pe_int))) (blkOk_by (own := [("_law_rule", 4)]) (N := ["_law_script", "_law_bag_here", "_law_rules", "_law_k", "_law_rule", "_law_text", "_law_question", "_law_thing", "_law_deep", "_law_tight"]) (sc := defScope s_law) (by decide +kernel)) (fun _ _ _ _ _ => (by exact (pg_name (i := 4) sc_law.nd rfl (by first | exact Or.inl rfl | exact Or.inr rfl)))) (fun _ _ _ _ _ => pts_nil) (fun _ _ _ _ _ => (by exact (pe_calG C__law_rule_text hr rfl (pa_cons (pv 4) pa_nil))))) pa_nil))) pa_nil)) (pa_cons (pe_callTy (kCall (K := K) (r := uTuple) rfl callu_tuple) (by rfl) B.b_tuple (by decide +kernel) (pa_cons (pe_slice (kSl (K := K) (r := rSlL) rfl sl_list) (pv 2) po_none (po_some pe_int)) pa_nil)) pa_nil))))) (pss_one (ps_ret pe_bl)) pss_nil)
 (pss_cons (ps_set (i := 9) sc_law.nd rfl (.inl rfl) (pe_tup (pa_cons pe_str (pa_cons pe_str (pa_cons (pe_tup (pa_cons pe_str (pa_cons (pe_tup (pa_cons pe_str (pa_cons pe_str pa_nil))) (pa_cons (pe_tup (pa_cons pe_str (pa_cons pe_int pa_nil))) pa_nil)))) (pa_cons (pe_tup (pa_cons pe_str (pa_cons (pe_tup (pa_cons pe_str (pa_cons pe_str pa_nil))) (pa_cons (pe_tup (pa_cons pe_str (pa_cons (pe_op opu_sub pe_int pe_int) pa_nil))) pa_nil)))) pa_nil))))))
 (pss_one (ps_ret (pe_calG C__law_same hr rfl (pa_cons (pe_lst (pa_cons (pe_calG C_read_tests hr rfl (pa_cons pe_str pa_nil)) (pa_cons (pe_calG C_read_tests hr rfl (pa_cons pe_str pa_nil)) (pa_cons (pe_calG C_read_paper hr rfl (pa_cons pe_str pa_nil)) pa_nil)))) (pa_cons (pe_lst (pa_cons (pe_tup (pa_cons (pv 9) pa_nil)) (pa_cons (pe_tup pa_nil) (pa_cons (pe_tup pa_nil) pa_nil)))) pa_nil)))))))))), rd_start (σ0 := [some (.ref a), none, none, none, none, none, none, none, none, none]) rfl ?_⟩
 have same : ∀ {H : Hp} {x y : V} {d : PyData} {Q : VK} {E : XK} {n : Nat}, Td K H x d → Td K H y d → Sm n d → n ≤ 12 → (∀ H', Fr [] H H' → Q (.bl true) H') → spSame K 12 ([x, y] ++ []) H Q E := fun {H x y d Q E n} hx hy hs hn k => ⟨x, y, d, rfl, hx.dp, hy.dp, sm_mono hs hn, k⟩
 repeat walk_at "rd"
 refine ⟨a, ns, rfl, hS, hl, fun b cs H1 hF1 hb1 hB1 => ?_⟩
 repeat walk_at "rd"
 refine ⟨le_of (by simp), fun D hD => ?_⟩
 have hDb := hB1.some hD
 have hDM : D ∉ [b] := fun z => hDb.1 (List.mem_singleton.mp z)
 have e2 : Fr [] H1 (upd H1 D (.lst [])) := Fr.new hD
 have hR2 : RulesAt K (upd H1 D (.lst [])) D [] := ⟨[], upd_same, .nil⟩
 have hB2 := hB1.fr0 e2
 generalize upd H1 D (.lst []) = H2 at *
 repeat walk_at "rd"
 refine ⟨3, rfl, by decide, by decide, for_range (lo := 0) (n := 3) (fun i σ H' => BagAt H' b cs ∧ (∃ rs, RulesAt K H' D rs ∧ rs.length = i ∧ ∀ r ∈ rs, RuleW r ∧ FoldOne r.2.1) ∧ ∃ z3 z4 z5 z6 z7 z8 z9, σ = [some (.ref a), some (.ref b), some (.ref D), z3, z4, z5, z6, z7, z8, z9])
  ⟨hB2, ⟨[], hR2, rfl, fun _ z => nomatch z⟩, _, _, _, _, _, _, _, rfl⟩ (fun i σ H3 hi h => ?_) (fun σ H' h => ?_)⟩
 ·obtain ⟨hB3, ⟨rs, hR3, hrl, hrs⟩, z3, z4, z5, z6, z7, z8, z9, rfl⟩ := h
  repeat walk_at "rd"
  refine ⟨b, cs, rfl, hB3, fun v r H4 hv hrw hone hB4 hF4 => ?_⟩
  have hG := hrw.g
  have hrt := ruleT_tx hG
  have hsay := say_rule hrw
  have hread := rule_reads hsay hrw hone
  have hsm := rule_sm hG
  obtain ⟨us, hD4, hts⟩ := hR3.fr hF4 hDM
  have hul : us.length = rs.length := by rw [(tda_get hts).1]
  repeat walk_at "rd"
  refine ⟨D, us, v, rfl, rfl, hD4, lt_of (by omega), ?_⟩
  have eD : Fr [D] H4 (upd H4 D (.lst (us ++ [v]))) := Fr.mut (List.mem_singleton.mpr rfl) hD4 nofix_lst
  have hv5 := hv.fr eD
  have hB5 := hB4.fr eD (fun z => hDb.1 (List.mem_singleton.mp z).symm) (fun z => hDb.2 (List.mem_singleton.mp z).symm)
  have hR5 : RulesAt K (upd H4 D (.lst (us ++ [v]))) D (rs ++ [r]) := ⟨_, upd_same, by rw [List.map_append]; exact (tda_snoc hts hv).fr eD⟩
  have hrs5 : ∀ x ∈ rs ++ [r], RuleW x ∧ FoldOne x.2.1 := fun x hx => by
   rcases List.mem_append.mp hx with hx | hx
   ·exact hrs x hx
   ·rw [List.mem_singleton.mp hx]; exact ⟨hrw, hone⟩
  have hrl5 : (rs ++ [r]).length = i + 1 := by rw [List.length_append, hrl]; rfl
  generalize upd H4 D (.lst (us ++ [v])) = H5 at *
  try dsimp only
  repeat walk_at "rd"
  refine ⟨v, r, rfl, hv5, hG, fun H6 e6 => ?_⟩
  repeat walk_at "rd"
  refine ⟨_, _, rfl, hrt.mono (by decide), hread, fun v2 H7 e7 tv7 => ?_⟩
  repeat walk_at "rd"
  refine same tv7 ((hv5.fr e6).fr e7) hsm (by decide) fun H8 e8 => ?_
  repeat walk_at "rd"
  refine ⟨_, _, rfl, hrt.mono (by decide), hread, fun v3 H9 e9 tv9 => ?_⟩
  repeat walk_at "rd"
  refine ⟨v3, r, rfl, tv9, hG, fun H10 e10 => ?_⟩
  have e510 := ((((e6.trans e7).trans e8).trans e9).trans e10)
  have hv10 := hv5.fr e510
  have hB10 := hB5.fr0 e510
  have hR10 := hR5.fr e510 (fun z => nomatch z)
  repeat walk_at "rd"
  refine g_ff (by simp) ?_
  repeat walk_at "rd"
  refine ⟨b, cs, _, rfl, hB10, hrt, fun t' H11 ⟨k, l', et, hs⟩ ht' hB11 hF11 => ?_⟩
  repeat walk_at "rd"
  refine ⟨_, _, rfl, ht'.mono (by decide), rule_reads (by rw [et]; exact hsay.spread k hs) hrw hone, fun v4 H12 e12 tv12 => ?_⟩
  have hv12 := (hv10.fr hF11).fr e12
  have hB12 := hB11.fr0 e12
  have hR12 := (hR10.fr hF11 hDM).fr e12 (fun z => nomatch z)
  repeat walk_at "rd"
  refine same tv12 hv12 hsm (by decide) fun H13 e13 => ?_
  have hv13 := hv12.fr e13
  have hB13 := hB12.fr0 e13
  have hR13 := hR12.fr e13 (fun z => nomatch z)
  obtain ⟨hd, as, ps⟩ := r
  obtain ⟨p, y1, y2, y3, rfl, hp, t1, t2, t3⟩ := Td.t3 (show Td K H13 v (.tuple [.str hd, argsD as, partsD ps]) from hv13)
  repeat walk_at "rd"
  refine ⟨y3, ps, rfl, t3, hrw.2.2.2.2.1, hrw.2.2.2.2.2, fun u H14 e14 hu14 => ?_⟩
  repeat walk_at "rd"
  refine ⟨le_of (by simp), fun p8 hp8 => ?_⟩
  have e15 : Fr [] H14 (upd H14 p8 (.tup [y2, u])) := Fr.new hp8
  have h15 : (upd H14 p8 (.tup [y2, u])) p8 = some (.tup [y2, u]) := upd_same
  have hu15 := hu14.fr e15
  have ht15 := (t2.fr e14).fr e15
  have hB15 := (hB13.fr0 e14).fr0 e15
  have hR15 := (hR13.fr e14 (fun z => nomatch z)).fr e15 (fun z => nomatch z)
  generalize upd H14 p8 (.tup [y2, u]) = H15 at *
  have hq15 : Td K H15 (.ref p8) (questD (as, ps.map fullP)) := .tup (SqT.of h15) (.cons ht15 (.cons hu15 .nil))
  have hqG : questG (as, ps.map fullP) := ⟨hG.2.1, by have := hrw.2.2.2.2.1; show (ps.map fullP).length ≤ 8; rw [List.length_map]; exact Nat.le_trans this (by decide), fun p hp => by
   obtain ⟨x, hx, rfl⟩ := List.mem_map.mp hp
   exact (hrw.2.2.2.2.2 x hx).full⟩
  have hqt : Tx 2400 (questT as (ps.map fullP)) := ((hqG.1.tx.app (Tx.lit (n := 4) (t := " if ") (by decide +kernel))).app hqG.2.tx).mono (by decide)
  have hqsm := quest_sm hqG
  obtain ⟨pu, us8, rfl, hpu, htu⟩ := Td.tuple_inv (show Td K H15 u (.tuple ((ps.map fullP).map PartE.d)) from hu15)
  have hlu : us8.length = (ps.map fullP).length := (tda_get htu).1
  repeat walk_at "rdif"
  try dsimp only
  with_reducible refine g_cutS (fun σ H' => BagAt H' b cs ∧ (∃ rs, RulesAt K H' D rs ∧ rs.length = i + 1 ∧ ∀ r ∈ rs, RuleW r ∧ FoldOne r.2.1) ∧ ∃ z3 z4 z5 z6 z7 z8 z9, σ = [some (.ref a), some (.ref b), some (.ref D), z3, z4, z5, z6, z7, z8, z9]) (fun σ H9 h => ?_) (fun N k => ?_)
  ·obtain ⟨hB9, hR9, z3, z4, z5, z6, z7, z8, z9, rfl⟩ := h
   repeat walk_at "rd"
   refine g_disp fun pd hpd => ?_
   have hpb := hB9.some hpd
   repeat walk_at "rd"
   refine ⟨upd_same, kvOf vdA, rfl, by decide, ?_⟩
   rw [vdA_merge, upd_upd]
   have hV : VarsAt (upd H9 pd (.dK (kvOf vdA))) pd vdA := vdA_g.at_ upd_same
   have e10 : Fr [] H9 (upd H9 pd (.dK (kvOf vdA))) := Fr.new (M := []) (o := .dK (kvOf vdA)) hpd
   have hB10 := hB9.fr0 e10
   have hR10 : ∃ rs, RulesAt K (upd H9 pd (.dK (kvOf vdA))) D rs ∧ rs.length = i + 1 ∧ ∀ r ∈ rs, RuleW r ∧ FoldOne r.2.1 := by
    obtain ⟨rs, h1, h2⟩ := hR9
    exact ⟨rs, h1.fr e10 (fun z => nomatch z), h2⟩
   obtain ⟨rs9, hR10, hrl9, hrs9⟩ := hR10
   generalize upd H9 pd (.dK (kvOf vdA)) = H10 at *
   repeat walk_at "rd"
   refine ⟨b, cs, pd, 4, vdA, rfl, by decide, hB10, hV, fun e v H11 he hs hB11 hF11 => ?_⟩
   have hw := he.w vdA_g
   have hv := hs.td hw
   have hdp := sum_deep hw.g
   have hd5 : e.deep < 5 := by omega
   repeat walk_at "rd"
   refine ⟨b, cs, _, rfl, hB11, by decide, by decide, fun dd H12 d0 d1 hB12 hF12 => ?_⟩
   obtain ⟨m, rfl⟩ : ∃ m : Nat, dd = (m : Int) := ⟨dd.toNat, by omega⟩
   repeat walk_at "rd"
   refine ⟨"(", (m : Int), rfl, rfl, by omega, by omega, by decide +kernel, ?_⟩
   repeat walk_at "rd"
   refine ⟨v, e, 4, rfl, hv.fr hF12, hw.g, by decide, hd5, fun H13 e13 => ?_⟩
   have hst := hw.g.tx4 (by decide)
   have t1 := rep_txc (k := (m : Int)) (n := 8) l_op (by decide) (by omega) (by omega)
   have t2 := rep_txc (k := (m : Int)) (n := 8) l_cl (by decide) (by omega) (by omega)
   have t12 := t1.app hst
   have t13 := t12.app t2
   have t14 := t13.app (Tx.lit (n := 4) (t := " < 3") (by decide +kernel))
   repeat walk_at "rd"
   try dsimp only
   refine g_addS (le_of (by have := t12.len; rw [app_len] at this; omega)) ?_
   repeat walk_at "rd"
   refine ⟨")", (m : Int), rfl, rfl, by omega, by omega, by decide +kernel, ?_⟩
   refine g_addS (le_of (by have := t13.len; rw [app_len] at this; omega)) ?_
   repeat walk_at "rd"
   refine g_addS (le_of (by have := t14.len; rw [app_len] at this; omega)) ?_
   repeat walk_at "rd"
   refine ⟨_, _, rfl, t14.mono (by decide), tests_reads (say_deep3 hw) (by decide +kernel) hw.g (SumG.val (n := 0) (.inl ⟨3, rfl, by decide⟩)) (by omega) (by decide), fun v14 H14 e14 tv14 => ?_⟩
   have hv14 := ((hv.fr hF12).fr e13).fr e14
   have hB14 := (hB12.fr0 e13).fr0 e14
   have hR14 := (((hR10.fr hF11 hDM).fr hF12 hDM).fr e13 (fun z => nomatch z)).fr e14 (fun z => nomatch z)
   repeat walk_at "rd"
   refine ⟨le_of (by simp), fun p1 hp1 => ?_⟩
   have e15 : Fr [] H14 (upd H14 p1 (.tup [.str "value", .int 3])) := Fr.new hp1
   have s15 : SqT K (upd H14 p1 (.tup [.str "value", .int 3])) p1 [.str "value", .int 3] := SqT.of upd_same
   have d15 : Td K (upd H14 p1 (.tup [.str "value", .int 3])) (.ref p1) (SumE.val (.int 3)).d := .tup s15 (.cons (.str "value") (.cons (.int 3) .nil))
   generalize upd H14 p1 (.tup [.str "value", .int 3]) = H15 at *
   repeat walk_at "rd"
   refine ⟨le_of (by simp), fun p2 hp2 => ?_⟩
   have hv15 := hv14.fr e15
   have e16 : Fr [] H15 (upd H15 p2 (.tup [.str "test", .str "<", v, .ref p1])) := Fr.new hp2
   have s16 : SqT K (upd H15 p2 (.tup [.str "test", .str "<", v, .ref p1])) p2 [.str "test", .str "<", v, .ref p1] := SqT.of upd_same
   have d16 : Td K (upd H15 p2 (.tup [.str "test", .str "<", v, .ref p1])) (.ref p2) (PartE.test "<" e (.val (.int 3))).d := .tup s16 (.cons (.str "test") (.cons (.str "<") (.cons (hv15.fr e16) (.cons (d15.fr e16) .nil))))
   generalize upd H15 p2 (.tup [.str "test", .str "<", v, .ref p1]) = H16 at *
   repeat walk_at "rd"
   refine ⟨le_of (by simp), fun p3 hp3 => ?_⟩
   have e17 : Fr [] H16 (upd H16 p3 (.tup [.ref p2])) := Fr.new hp3
   have s17 : SqT K (upd H16 p3 (.tup [.ref p2])) p3 [.ref p2] := SqT.of upd_same
   have d17 : Td K (upd H16 p3 (.tup [.ref p2])) (.ref p3) (.tuple [(PartE.test "<" e (.val (.int 3))).d]) := .tup s17 (.cons (d16.fr e17) .nil)
   generalize upd H16 p3 (.tup [.ref p2]) = H17 at *
   have e417 := (e15.trans e16).trans e17
   repeat walk_at "rd"
   refine same (tv14.fr e417) d17 (sm_tup (n := 7) (by simp) fun d hd => ?_) (by decide) fun H18 e18 => ?_
   ·rw [List.mem_singleton.mp hd]
    exact test_sm (s := "<") (n := 1) (Tx.lit (by decide +kernel)) (by decide) hw.g (SumG.val (n := 4) (.inl ⟨3, rfl, by decide⟩))
   repeat walk_at "rd"
   exact ⟨hB14.fr0 (e417.trans e18), ⟨rs9, hR14.fr (e417.trans e18) (fun z => nomatch z), hrl9, hrs9⟩, _, _, _, _, _, _, _, rfl⟩
  ·repeat walk_at "rd"
   refine ⟨le_of (by decide), fun p9 hp9 => ?_⟩
   have e16 : Fr [] H15 (upd H15 p9 (.tup [])) := Fr.new hp9
   have h16 : (upd H15 p9 (.tup [])) p9 = some (.tup []) := upd_same
   have hpu16 := e16.tup hpu
   have hq16 := hq15.fr e16
   have hB16 := hB15.fr0 e16
   have hR16 := hR15.fr e16 (fun z => nomatch z)
   generalize upd H15 p9 (.tup []) = H16 at *
   refine g_neET hpu16 (SqT.of h16) ?_
   repeat walk_at "rd"
   refine g_byN (fun c => ?_) (fun c => ?_)
   ·have hpn : ps ≠ [] := fun e => c (by
     rw [e] at hlu
     exact List.length_eq_zero_iff.mp hlu)
    have hwa : ∀ a ∈ as, ArgW a := hrw.2.2.2.1
    have hwp : ∀ p ∈ ps, PartW p := hrw.2.2.2.2.2
    have hsayq : SpF (questT as (ps.map fullP)).cps.toList (questK (as, ps.map fullP)) := say_quest (fun e => by
     have := hrw.2.1
     rw [e] at this
     exact absurd (show 1 ≤ 0 from this) (by decide)) hwa (fun e => hpn (List.map_eq_nil_iff.mp e)) fun p hp => by
     obtain ⟨x, hx, rfl⟩ := List.mem_map.mp hp
     exact (hwp x hx).full_ok.1
    have hrq : ∀ {z : Str}, SpF z.cps.toList (questK (as, ps.map fullP)) → ReadR z QuestionR (.ok (questD (as, ps.map fullP))) := fun hz => quest_reads hz hrw.2.1 hrw.2.2.1 hwa hone hpn hrw.2.2.2.2.1 hwp
    repeat walk_at "rd"
    refine ⟨_, (as, ps.map fullP), rfl, hq16, hqG, fun H17 e17 => ?_⟩
    repeat walk_at "rd"
    refine ⟨b, cs, _, rfl, hB16.fr0 e17, hqt, fun t2 H18 ⟨k2, l2, et2, hs2⟩ ht2 hB18 hF18 => ?_⟩
    repeat walk_at "rd"
    refine ⟨_, _, rfl, ht2.mono (by decide), hrq (by rw [et2]; exact hsayq.spread k2 hs2), fun v19 H19 e19 tv19 => ?_⟩
    repeat walk_at "rd"
    refine same tv19 (((hq16.fr e17).fr hF18).fr e19) hqsm (by decide) fun H20 e20 => ?_
    have hB20 := (hB18.fr0 e19).fr0 e20
    have hR20 := (((hR16.fr e17 (fun z => nomatch z)).fr hF18 hDM).fr e19 (fun z => nomatch z)).fr e20 (fun z => nomatch z)
    repeat walk_at "rd"
    refine ⟨_, _, rfl, hqt.mono (by decide), hrq hsayq, fun v21 H21 e21 tv21 => ?_⟩
    repeat walk_at "rd"
    refine ⟨_, (as, ps.map fullP), rfl, tv21, hqG, fun H22 e22 => ?_⟩
    repeat walk_at "rd"
    refine g_ff (by simp) ?_
    repeat walk_at "rd"
    exact k _ _ ⟨hB20.fr0 (e21.trans e22), ⟨_, hR20.fr (e21.trans e22) (fun z => nomatch z), hrl5, hrs5⟩, _, _, _, _, _, _, _, rfl⟩
   ·repeat walk_at "rd"
    exact k _ _ ⟨hB16, ⟨_, hR16, hrl5, hrs5⟩, _, _, _, _, _, _, _, rfl⟩
 ·obtain ⟨hB3, ⟨rs, hR3, hrl, hrs⟩, z3, z4, z5, z6, z7, z8, z9, rfl⟩ := h
  obtain ⟨us, hD3, hts⟩ := hR3
  have hul : us.length = rs.length := by rw [(tda_get hts).1]
  have hwr : ∀ r ∈ rs.take 2, RuleW r ∧ FoldOne r.2.1 := fun r hr => hrs r (List.mem_of_mem_take hr)
  have htk := tda_take hts 2
  have hl2 : (rs.take 2).length = 2 := by rw [List.length_take, hrl]; rfl
  have hul2 : (us.take 2).length = 2 := by rw [List.length_take, hul, hrl]; rfl
  generalize rs.take 2 = rs2 at *
  repeat walk_at "rd"
  refine g_slL (SqL.of hD3) fun l1 hl1 => ?_
  rw [show cutV us none (some 2) = us.take 2 from cut0 us 2]
  have e1 : Fr [] H' (upd H' l1 (.lst (us.take 2))) := Fr.new hl1
  have h1 : (upd H' l1 (.lst (us.take 2))) l1 = some (.lst (us.take 2)) := upd_same
  have ht1 := htk.fr e1
  have hD4 := e1.at hD3 (fun z => nomatch z)
  generalize upd H' l1 (.lst (us.take 2)) = H4 at *
  refine ⟨l1, rfl, ⟨_, SqL.of h1⟩, fun D2 hD2 => lc_td (T := fun r => ruleT r.1 r.2.1 r.2.2) (walk_list (xs := us.take 2)) (fun H' e => SqL.of (e.at h1 (fun z => nomatch z))) rfl ht1 (by omega) hD2 (fun y c H' A hc hy e k => ?_) (fun H5 e5 hD5 => ?_)⟩
  ·repeat walk_at "rd"
   refine ⟨rfl, ?_⟩
   repeat walk_at "rd"
   exact ⟨y, c, rfl, hy, (hwr c hc).1.g, k⟩
  ·obtain ⟨r1, r2, rfl⟩ : ∃ r1 r2, rs2 = [r1, r2] := by
    match rs2, hl2 with
    | [r1, r2], _ => exact ⟨r1, r2, rfl⟩
   obtain ⟨w1, o1⟩ := hwr r1 (by simp)
   obtain ⟨w2, o2⟩ := hwr r2 (by simp)
   have tx1 := ruleT_tx w1.g
   have tx2 := ruleT_tx w2.g
   have sy1 := say_rule w1
   have sy2 := say_rule w2
   have hj : Tx 4802 (Txt.join "\n" [ruleT r1.1 r1.2.1 r1.2.2, ruleT r2.1 r2.2.1 r2.2.2]) := Tx.join (k := 1) (m := 2400) (Tx.lit (by decide +kernel)) (ts := [ruleT r1.1 r1.2.1 r1.2.2, ruleT r2.1 r2.2.1 r2.2.2]) fun t ht => by
    simp only [List.mem_cons, List.not_mem_nil, or_false] at ht
    rcases ht with rfl | rfl
    ·exact tx1
    ·exact tx2
   have ll1 := tx1.len
   have ll2 := tx2.len
   repeat walk_at "rd"
   refine ⟨_, D2, [ruleT r1.1 r1.2.1 r1.2.2, ruleT r2.1 r2.2.1 r2.2.2], rfl, rfl, .inl (SqL.of hD5), ?_, ?_⟩
   ·rw [show ("\n" : Str).length = 1 by decide +kernel]
    simp only [List.map_cons, List.map_nil, List.sum_cons, List.sum_nil, List.length_cons, List.length_nil]
    omega
   have hD25 := e5.at hD4 (fun z => nomatch z)
   repeat walk_at "rd"
   refine ⟨_, [ruleT r1.1 r1.2.1 r1.2.2, ruleT r2.1 r2.2.1 r2.2.2], [ruleD r1, ruleD r2], rfl, hj.mono (by decide), .inr ⟨fun e => ?_, TL.split_join (y := "\n") (s := 10) (S := []) (by decide +kernel) (by decide +kernel) (by simp) fun p hp => ?_⟩, rfl, by show 2 ≤ 100; decide, fun i y hy => ?_, fun v6 H6 e6 tv6 => ?_⟩
   ·rw [join_cons] at e
    have z := congrArg (fun s : Str => s.cps.toList.length) e
    simp only [tl_app, List.length_append] at z
    have z2 : ("\n" : Str).cps.toList.length = 1 := by decide +kernel
    have z3 : ("" : Str).cps.toList.length = 0 := by decide +kernel
    omega
   ·simp only [List.mem_cons, List.not_mem_nil, or_false] at hp
    rcases hp with rfl | rfl
    ·exact (sy1 none rfl).no10
    ·exact (sy2 none rfl).no10
   ·match i, hy with
    | 0, hy => cases hy; exact ⟨_, rfl, tx1.mono (by decide), rule_reads sy1 w1 o1⟩
    | 1, hy => cases hy; exact ⟨_, rfl, tx2.mono (by decide), rule_reads sy2 w2 o2⟩
    | n + 2, hy => cases hy
   have hD6 := e6.at hD25 (fun z => nomatch z)
   repeat walk_at "rd"
   refine g_slL (SqL.of hD6) fun l2 hl2 => ?_
   rw [show cutV us none (some 2) = us.take 2 from cut0 us 2]
   have e7 : Fr [] H6 (upd H6 l2 (.lst (us.take 2))) := Fr.new hl2
   have h7 : (upd H6 l2 (.lst (us.take 2))) l2 = some (.lst (us.take 2)) := upd_same
   have ht7 := ((ht1.fr e5).fr e6).fr e7
   generalize upd H6 l2 (.lst (us.take 2)) = H7 at *
   repeat walk_at "rd"
   refine g_tupleL (SqL.of h7) fun p8 hp8 => ?_
   have e8 : Fr [] H7 (upd H7 p8 (.tup (us.take 2))) := Fr.new hp8
   have d8 : Td K (upd H7 p8 (.tup (us.take 2))) (.ref p8) (.tuple [ruleD r1, ruleD r2]) := .tup (SqT.of upd_same) (ht7.fr e8)
   generalize upd H7 p8 (.tup (us.take 2)) = H8 at *
   repeat walk_at "rd"
   refine same ((tv6.fr e7).fr e8) d8 (sm_tup (n := 6) (by simp) fun d hd => ?_) (by decide) fun H9 e9 => ?_
   ·simp only [List.mem_cons, List.not_mem_nil, or_false] at hd
    rcases hd with rfl | rfl
    ·exact rule_sm w1.g
    ·exact rule_sm w2.g
   repeat walk_at "rd"
   refine ⟨le_of (by simp), fun p10 hp10 => ?_⟩
   have e10 : Fr [] H9 (upd H9 p10 (.tup [.str "var", .str "x"])) := Fr.new hp10
   have d10 : Td K (upd H9 p10 (.tup [.str "var", .str "x"])) (.ref p10) (SumE.var "x").d := .tup (SqT.of upd_same) (.cons (.str "var") (.cons (.str "x") .nil))
   generalize upd H9 p10 (.tup [.str "var", .str "x"]) = H10 at *
   repeat walk_at "rd"
   refine ⟨le_of (by simp), fun p11 hp11 => ?_⟩
   have e11 : Fr [] H10 (upd H10 p11 (.tup [.str "value", .int 1])) := Fr.new hp11
   have d11 : Td K (upd H10 p11 (.tup [.str "value", .int 1])) (.ref p11) (SumE.val (.int 1)).d := .tup (SqT.of upd_same) (.cons (.str "value") (.cons (.int 1) .nil))
   replace d10 := d10.fr e11
   generalize upd H10 p11 (.tup [.str "value", .int 1]) = H11 at *
   repeat walk_at "rd"
   refine ⟨le_of (by simp), fun p12 hp12 => ?_⟩
   have e12 : Fr [] H11 (upd H11 p12 (.tup [.str "-", .ref p10, .ref p11])) := Fr.new hp12
   have d12 : Td K (upd H11 p12 (.tup [.str "-", .ref p10, .ref p11])) (.ref p12) (SumE.op "-" (.var "x") (.val (.int 1))).d := .tup (SqT.of upd_same) (.cons (.str "-") (.cons (d10.fr e12) (.cons (d11.fr e12) .nil)))
   generalize upd H11 p12 (.tup [.str "-", .ref p10, .ref p11]) = H12 at *
   repeat walk_at "rd"
   refine ⟨le_of (by simp), fun p13 hp13 => ?_⟩
   have e13 : Fr [] H12 (upd H12 p13 (.tup [.str "var", .str "y"])) := Fr.new hp13
   have d13 : Td K (upd H12 p13 (.tup [.str "var", .str "y"])) (.ref p13) (SumE.var "y").d := .tup (SqT.of upd_same) (.cons (.str "var") (.cons (.str "y") .nil))
   replace d12 := d12.fr e13
   generalize upd H12 p13 (.tup [.str "var", .str "y"]) = H13 at *
   repeat walk_at "rd"
   refine ⟨le_of (by simp), fun p14 hp14 => ?_⟩
   have e14 : Fr [] H13 (upd H13 p14 (.tup [.str "value", .int (0 - 2)])) := Fr.new hp14
   have d14 : Td K (upd H13 p14 (.tup [.str "value", .int (0 - 2)])) (.ref p14) (SumE.val (.int (-2))).d := .tup (SqT.of upd_same) (.cons (.str "value") (.cons (.int (-2)) .nil))
   replace d12 := d12.fr e14
   replace d13 := d13.fr e14
   generalize upd H13 p14 (.tup [.str "value", .int (0 - 2)]) = H14 at *
   repeat walk_at "rd"
   refine ⟨le_of (by simp), fun p15 hp15 => ?_⟩
   have e15 : Fr [] H14 (upd H14 p15 (.tup [.str "*", .ref p13, .ref p14])) := Fr.new hp15
   have d15 : Td K (upd H14 p15 (.tup [.str "*", .ref p13, .ref p14])) (.ref p15) (SumE.op "*" (.var "y") (.val (.int (-2)))).d := .tup (SqT.of upd_same) (.cons (.str "*") (.cons (d13.fr e15) (.cons (d14.fr e15) .nil)))
   replace d12 := d12.fr e15
   generalize upd H14 p15 (.tup [.str "*", .ref p13, .ref p14]) = H15 at *
   repeat walk_at "rd"
   refine ⟨le_of (by simp), fun p16 hp16 => ?_⟩
   have e16 : Fr [] H15 (upd H15 p16 (.tup [.str "test", .str "<=", .ref p12, .ref p15])) := Fr.new hp16
   have d16 : Td K (upd H15 p16 (.tup [.str "test", .str "<=", .ref p12, .ref p15])) (.ref p16) tightP.d := .tup (SqT.of upd_same) (.cons (.str "test") (.cons (.str "<=") (.cons (d12.fr e16) (.cons (d15.fr e16) .nil))))
   generalize upd H15 p16 (.tup [.str "test", .str "<=", .ref p12, .ref p15]) = H16 at *
   repeat walk_at "rd"
   refine ⟨_, _, rfl, Tx.lit (by decide +kernel), tests_reads (j := 0) tight_spell (by decide +kernel) (SumG.op (n := 0) (.inr (.inl rfl)) (.var x_ok.1.tx) (.val (.inl ⟨1, rfl, by decide⟩))) (SumG.op (n := 0) (.inr (.inr rfl)) (.var y_ok.1.tx) (.val (.inl ⟨-2, rfl, by decide⟩))) (by decide +kernel) (by decide), fun v17 H17 e17 d17 => ?_⟩
   repeat walk_at "rd"
   refine ⟨_, _, rfl, Tx.lit (by decide +kernel), none_reads (by decide +kernel), fun v18 H18 e18 d18 => ?_⟩
   repeat walk_at "rd"
   refine ⟨"", [], [], rfl, Tx.lit (by decide +kernel), .inl ⟨rfl, rfl⟩, rfl, by decide, fun i y hy => (nomatch hy), fun v19 H19 e19 d19 => ?_⟩
   repeat walk_at "rd"
   refine ⟨le_of (by simp), fun L1 hL1 => ?_⟩
   have hL1d : (upd H19 L1 (.lst [v17, v18, v19])) L1 = some (.lst [v17, v18, v19]) := upd_same
   have e20 : Fr [] H19 (upd H19 L1 (.lst [v17, v18, v19])) := Fr.new hL1
   replace d16 := (((d16.fr e17).fr e18).fr e19).fr e20
   replace d17 := ((d17.fr e18).fr e19).fr e20
   replace d18 := (d18.fr e19).fr e20
   replace d19 := d19.fr e20
   generalize upd H19 L1 (.lst [v17, v18, v19]) = H20 at *
   repeat walk_at "rd"
   refine ⟨le_of (by simp), fun p21 hp21 => ?_⟩
   have e21 : Fr [] H20 (upd H20 p21 (.tup [.ref p16])) := Fr.new hp21
   have d21 : Td K (upd H20 p21 (.tup [.ref p16])) (.ref p21) (.tuple [tightP.d]) := .tup (SqT.of upd_same) (.cons (d16.fr e21) .nil)
   replace d17 := d17.fr e21
   replace d18 := d18.fr e21
   replace d19 := d19.fr e21
   generalize upd H20 p21 (.tup [.ref p16]) = H21 at *
   repeat walk_at "rd"
   refine ⟨le_of (by simp), fun p22 hp22 => ?_⟩
   have e22 : Fr [] H21 (upd H21 p22 (.tup [])) := Fr.new hp22
   have d22 : Td K (upd H21 p22 (.tup [])) (.ref p22) (.tuple []) := .tup (SqT.of upd_same) .nil
   replace d17 := d17.fr e22
   replace d18 := d18.fr e22
   replace d19 := d19.fr e22
   replace d21 := d21.fr e22
   generalize upd H21 p22 (.tup []) = H22 at *
   repeat walk_at "rd"
   refine ⟨le_of (by simp), fun p23 hp23 => ?_⟩
   have e23 : Fr [] H22 (upd H22 p23 (.tup [])) := Fr.new hp23
   have d23 : Td K (upd H22 p23 (.tup [])) (.ref p23) (.tuple []) := .tup (SqT.of upd_same) .nil
   replace d17 := d17.fr e23
   replace d18 := d18.fr e23
   replace d19 := d19.fr e23
   replace d21 := d21.fr e23
   replace d22 := d22.fr e23
   generalize upd H22 p23 (.tup []) = H23 at *
   repeat walk_at "rd"
   refine ⟨le_of (by simp), fun L2 hL2 => ?_⟩
   have hL1e := ((e21.trans e22).trans e23).at hL1d (fun z => nomatch z)
   have e24 : Fr [] H23 (upd H23 L2 (.lst [.ref p21, .ref p22, .ref p23])) := Fr.new hL2
   have hL1f := e24.at hL1e (fun z => nomatch z)
   have hL2d : (upd H23 L2 (.lst [.ref p21, .ref p22, .ref p23])) L2 = some (.lst [.ref p21, .ref p22, .ref p23]) := upd_same
   refine ⟨_, _, .list [.tuple [tightP.d], .tuple [], .tuple []], rfl, .lst (SqL.of hL1f) (.cons (d17.fr e24).dp (.cons (d18.fr e24).dp (.cons (d19.fr e24).dp .nil))), .lst (SqL.of hL2d) (.cons (d21.fr e24).dp (.cons (d22.fr e24).dp (.cons (d23.fr e24).dp .nil))), ?_, fun H25 e25 => q _⟩
   refine ⟨by decide, fun d hd => ?_⟩
   have emp : Sm 11 (.tuple []) := sm_tup (n := 10) (by decide) fun d hd => nomatch hd
   simp only [List.mem_cons, List.not_mem_nil, or_false] at hd
   rcases hd with rfl | rfl | rfl
   ·refine sm_tup (n := 10) (by decide) fun d hd => ?_
    rw [List.mem_singleton.mp hd]
    exact test_sm (k := 7) (n := 2) (Tx.lit (by decide +kernel)) (by decide) (SumG.op (n := 6) (.inr (.inl rfl)) (.var x_ok.1.tx) (.val (.inl ⟨1, rfl, by decide⟩))) (SumG.op (n := 6) (.inr (.inr rfl)) (.var y_ok.1.tx) (.val (.inl ⟨-2, rfl, by decide⟩)))
   ·exact emp
   ·exact emp
end
theorem facts {P : Program} {w : World} {K : PySem.W.Frag} {h : Heap} {mg : Str → Option Value} {f : Addr} (X : K.In h) (G : h.Ns mainGlobals mg) (hfa : mg ("law" : Str) = some (.ref f)) (c : SL.SaysY faAll fnAll tsAll exAll w K) :
  ∃ fd : FuncData, (∀ (s : Shared) (v : Value), BindsTo s fd ⟨[v], []⟩ [("_law_script", v)]) ∧ ∀ base : Heap, K.In base → base.Ns mainGlobals mg → FnG P w K mg base CX0 100 f fd ["_law_script"] (spLaw K) := by
 obtain ⟨fd_LoreError_ini, F_LoreError_ini⟩ := c.t.d.def_ 0 (d := d_LoreError_ini) rfl
 have b_LoreError_ini : Binds K fd_LoreError_ini ["self", "word"] [] := F_LoreError_ini.bindsN fun _ _ _ _ _ _ us hl => match us, hl with | [_, _], _ => rfl
 obtain ⟨fd_BadText_ini, F_BadText_ini⟩ := c.t.d.def_ 1 (d := d_BadText_ini) rfl
 have b_BadText_ini : Binds K fd_BadText_ini ["self", "at"] [] := F_BadText_ini.bindsN fun _ _ _ _ _ _ us hl => match us, hl with | [_, _], _ => rfl
 obtain ⟨fd_Row_ini, F_Row_ini⟩ := c.t.d.def_ 2 (d := d_Row_ini) rfl
 obtain ⟨fd_Row_sort_here, F_Row_sort_here⟩ := c.t.d.def_ 3 (d := d_Row_sort_here) rfl
 obtain ⟨fd_Row_thing, F_Row_thing⟩ := c.t.d.def_ 4 (d := d_Row_thing) rfl
 obtain ⟨fd_Row_is_sign, F_Row_is_sign⟩ := c.t.d.def_ 5 (d := d_Row_is_sign) rfl
 obtain ⟨fd_Row_is_kept, F_Row_is_kept⟩ := c.t.d.def_ 6 (d := d_Row_is_kept) rfl
 obtain ⟨fd_Row_wrong, F_Row_wrong⟩ := c.t.d.def_ 7 (d := d_Row_wrong) rfl
 have b_Row_wrong : Binds K fd_Row_wrong ["self"] [] := F_Row_wrong.bindsN fun _ _ _ _ _ _ us hl => match us, hl with | [_], _ => rfl
 obtain ⟨fd_Row_step, F_Row_step⟩ := c.t.d.def_ 8 (d := d_Row_step) rfl
 have b_Row_step : Binds K fd_Row_step ["self"] [] := F_Row_step.bindsN fun _ _ _ _ _ _ us hl => match us, hl with | [_], _ => rfl
 obtain ⟨fd_Row_need_sign, F_Row_need_sign⟩ := c.t.d.def_ 9 (d := d_Row_need_sign) rfl
 have b_Row_need_sign : Binds K fd_Row_need_sign ["self", "sign"] [] := F_Row_need_sign.bindsN fun _ _ _ _ _ _ us hl => match us, hl with | [_, _], _ => rfl
 obtain ⟨fd_Row_need_name, F_Row_need_name⟩ := c.t.d.def_ 10 (d := d_Row_need_name) rfl
 have b_Row_need_name : Binds K fd_Row_need_name ["self"] [] := F_Row_need_name.bindsN fun _ _ _ _ _ _ us hl => match us, hl with | [_], _ => rfl
 obtain ⟨fd_Row_need_end, F_Row_need_end⟩ := c.t.d.def_ 11 (d := d_Row_need_end) rfl
 have b_Row_need_end : Binds K fd_Row_need_end ["self"] [] := F_Row_need_end.bindsN fun _ _ _ _ _ _ us hl => match us, hl with | [_], _ => rfl
 obtain ⟨fd_is_word, F_is_word⟩ := c.t.d.def_ 12 (d := d_is_word) rfl
 have M_is_word := He.glo_ok X G (c.t.d.fact 0 (f := .glo "is_word") rfl)
 have b_is_word : Binds K fd_is_word ["text"] [] := F_is_word.bindsN fun _ _ _ _ _ _ us hl => match us, hl with | [_], _ => rfl
 obtain ⟨fd_is_name, F_is_name⟩ := c.t.d.def_ 13 (d := d_is_name) rfl
 have M_is_name := He.glo_ok X G (c.t.d.fact 1 (f := .glo "is_name") rfl)
 have b_is_name : Binds K fd_is_name ["text"] [] := F_is_name.bindsN fun _ _ _ _ _ _ us hl => match us, hl with | [_], _ => rfl
 obtain ⟨fd_is_number, F_is_number⟩ := c.t.d.def_ 14 (d := d_is_number) rfl
 have M_is_number := He.glo_ok X G (c.t.d.fact 2 (f := .glo "is_number") rfl)
 have b_is_number : Binds K fd_is_number ["text"] [] := F_is_number.bindsN fun _ _ _ _ _ _ us hl => match us, hl with | [_], _ => rfl
 obtain ⟨fd_value_text, F_value_text⟩ := c.t.d.def_ 15 (d := d_value_text) rfl
 have M_value_text := He.glo_ok X G (c.t.d.fact 3 (f := .glo "value_text") rfl)
 have b_value_text : Binds K fd_value_text ["value"] [] := F_value_text.bindsN fun _ _ _ _ _ _ us hl => match us, hl with | [_], _ => rfl
 obtain ⟨fd_run_end, F_run_end⟩ := c.t.d.def_ 16 (d := d_run_end) rfl
 have M_run_end := He.glo_ok X G (c.t.d.fact 4 (f := .glo "run_end") rfl)
 have b_run_end : Binds K fd_run_end ["text", "at"] [] := F_run_end.bindsN fun _ _ _ _ _ _ us hl => match us, hl with | [_, _], _ => rfl
 obtain ⟨fd_is_full, F_is_full⟩ := c.t.d.def_ 17 (d := d_is_full) rfl
 have M_is_full := He.glo_ok X G (c.t.d.fact 5 (f := .glo "is_full") rfl)
 have b_is_full : Binds K fd_is_full ["text"] [] := F_is_full.bindsN fun _ _ _ _ _ _ us hl => match us, hl with | [_], _ => rfl
 obtain ⟨fd_run_thing, F_run_thing⟩ := c.t.d.def_ 18 (d := d_run_thing) rfl
 have M_run_thing := He.glo_ok X G (c.t.d.fact 6 (f := .glo "run_thing") rfl)
 have b_run_thing : Binds K fd_run_thing ["run", "at"] [] := F_run_thing.bindsN fun _ _ _ _ _ _ us hl => match us, hl with | [_, _], _ => rfl
 obtain ⟨fd_word_thing, F_word_thing⟩ := c.t.d.def_ 19 (d := d_word_thing) rfl
 have M_word_thing := He.glo_ok X G (c.t.d.fact 7 (f := .glo "word_thing") rfl)
 have b_word_thing : Binds K fd_word_thing ["text", "at"] [] := F_word_thing.bindsN fun _ _ _ _ _ _ us hl => match us, hl with | [_, _], _ => rfl
 obtain ⟨fd_begins_number, F_begins_number⟩ := c.t.d.def_ 20 (d := d_begins_number) rfl
 have M_begins_number := He.glo_ok X G (c.t.d.fact 8 (f := .glo "begins_number") rfl)
 have b_begins_number : Binds K fd_begins_number ["text", "at", "things"] [] := F_begins_number.bindsN fun _ _ _ _ _ _ us hl => match us, hl with | [_, _, _], _ => rfl
 obtain ⟨fd_next_thing, F_next_thing⟩ := c.t.d.def_ 21 (d := d_next_thing) rfl
 have M_next_thing := He.glo_ok X G (c.t.d.fact 9 (f := .glo "next_thing") rfl)
 have b_next_thing : Binds K fd_next_thing ["text", "at", "things"] [] := F_next_thing.bindsN fun _ _ _ _ _ _ us hl => match us, hl with | [_, _, _], _ => rfl
 obtain ⟨fd_things_of, F_things_of⟩ := c.t.d.def_ 22 (d := d_things_of) rfl
 have M_things_of := He.glo_ok X G (c.t.d.fact 10 (f := .glo "things_of") rfl)
 have b_things_of : Binds K fd_things_of ["text"] [] := F_things_of.bindsN fun _ _ _ _ _ _ us hl => match us, hl with | [_], _ => rfl
 obtain ⟨fd_read_leaf, F_read_leaf⟩ := c.t.d.def_ 23 (d := d_read_leaf) rfl
 have M_read_leaf := He.glo_ok X G (c.t.d.fact 11 (f := .glo "read_leaf") rfl)
 have b_read_leaf : Binds K fd_read_leaf ["row", "deep"] [] := F_read_leaf.bindsN fun _ _ _ _ _ _ us hl => match us, hl with | [_, _], _ => rfl
 obtain ⟨fd_read_product, F_read_product⟩ := c.t.d.def_ 24 (d := d_read_product) rfl
 have M_read_product := He.glo_ok X G (c.t.d.fact 12 (f := .glo "read_product") rfl)
 have b_read_product : Binds K fd_read_product ["row", "deep"] [] := F_read_product.bindsN fun _ _ _ _ _ _ us hl => match us, hl with | [_, _], _ => rfl
 obtain ⟨fd_read_sum, F_read_sum⟩ := c.t.d.def_ 25 (d := d_read_sum) rfl
 have M_read_sum := He.glo_ok X G (c.t.d.fact 13 (f := .glo "read_sum") rfl)
 have b_read_sum : Binds K fd_read_sum ["row", "deep"] [] := F_read_sum.bindsN fun _ _ _ _ _ _ us hl => match us, hl with | [_, _], _ => rfl
 obtain ⟨fd_read_test, F_read_test⟩ := c.t.d.def_ 26 (d := d_read_test) rfl
 have M_read_test := He.glo_ok X G (c.t.d.fact 14 (f := .glo "read_test") rfl)
 have b_read_test : Binds K fd_read_test ["row"] [] := F_read_test.bindsN fun _ _ _ _ _ _ us hl => match us, hl with | [_], _ => rfl
 obtain ⟨fd_read_term, F_read_term⟩ := c.t.d.def_ 27 (d := d_read_term) rfl
 have M_read_term := He.glo_ok X G (c.t.d.fact 15 (f := .glo "read_term") rfl)
 have b_read_term : Binds K fd_read_term ["row"] [] := F_read_term.bindsN fun _ _ _ _ _ _ us hl => match us, hl with | [_], _ => rfl
 obtain ⟨fd_read_atom, F_read_atom⟩ := c.t.d.def_ 28 (d := d_read_atom) rfl
 have M_read_atom := He.glo_ok X G (c.t.d.fact 16 (f := .glo "read_atom") rfl)
 have b_read_atom : Binds K fd_read_atom ["row", "word"] [] := F_read_atom.bindsN fun _ _ _ _ _ _ us hl => match us, hl with | [_, _], _ => rfl
 obtain ⟨fd_read_part, F_read_part⟩ := c.t.d.def_ 29 (d := d_read_part) rfl
 have M_read_part := He.glo_ok X G (c.t.d.fact 17 (f := .glo "read_part") rfl)
 have b_read_part : Binds K fd_read_part ["row"] [] := F_read_part.bindsN fun _ _ _ _ _ _ us hl => match us, hl with | [_], _ => rfl
 obtain ⟨fd_read_parts, F_read_parts⟩ := c.t.d.def_ 30 (d := d_read_parts) rfl
 have M_read_parts := He.glo_ok X G (c.t.d.fact 18 (f := .glo "read_parts") rfl)
 have b_read_parts : Binds K fd_read_parts ["row", "most"] [] := F_read_parts.bindsN fun _ _ _ _ _ _ us hl => match us, hl with | [_, _], _ => rfl
 obtain ⟨fd_read_arg, F_read_arg⟩ := c.t.d.def_ 31 (d := d_read_arg) rfl
 have M_read_arg := He.glo_ok X G (c.t.d.fact 19 (f := .glo "read_arg") rfl)
 have b_read_arg : Binds K fd_read_arg ["row", "folded"] [] := F_read_arg.bindsN fun _ _ _ _ _ _ us hl => match us, hl with | [_, _], _ => rfl
 obtain ⟨fd_read_args, F_read_args⟩ := c.t.d.def_ 32 (d := d_read_args) rfl
 have M_read_args := He.glo_ok X G (c.t.d.fact 20 (f := .glo "read_args") rfl)
 have b_read_args : Binds K fd_read_args ["row"] [] := F_read_args.bindsN fun _ _ _ _ _ _ us hl => match us, hl with | [_], _ => rfl
 obtain ⟨fd_read_rule, F_read_rule⟩ := c.t.d.def_ 33 (d := d_read_rule) rfl
 have M_read_rule := He.glo_ok X G (c.t.d.fact 21 (f := .glo "read_rule") rfl)
 have b_read_rule : Binds K fd_read_rule ["text"] [] := F_read_rule.bindsN fun _ _ _ _ _ _ us hl => match us, hl with | [_], _ => rfl
 obtain ⟨fd_read_question, F_read_question⟩ := c.t.d.def_ 34 (d := d_read_question) rfl
 have M_read_question := He.glo_ok X G (c.t.d.fact 22 (f := .glo "read_question") rfl)
 have b_read_question : Binds K fd_read_question ["text"] [] := F_read_question.bindsN fun _ _ _ _ _ _ us hl => match us, hl with | [_], _ => rfl
 obtain ⟨fd_read_tests, F_read_tests⟩ := c.t.d.def_ 35 (d := d_read_tests) rfl
 have M_read_tests := He.glo_ok X G (c.t.d.fact 23 (f := .glo "read_tests") rfl)
 have b_read_tests : Binds K fd_read_tests ["text"] [] := F_read_tests.bindsN fun _ _ _ _ _ _ us hl => match us, hl with | [_], _ => rfl
 obtain ⟨fd_read_paper, F_read_paper⟩ := c.t.d.def_ 36 (d := d_read_paper) rfl
 have M_read_paper := He.glo_ok X G (c.t.d.fact 24 (f := .glo "read_paper") rfl)
 have b_read_paper : Binds K fd_read_paper ["text"] [] := F_read_paper.bindsN fun _ _ _ _ _ _ us hl => match us, hl with | [_], _ => rfl
 obtain ⟨fd_tightness, F_tightness⟩ := c.t.d.def_ 37 (d := d_tightness) rfl
 have M_tightness := He.glo_ok X G (c.t.d.fact 25 (f := .glo "tightness") rfl)
 have b_tightness : Binds K fd_tightness ["thing"] [] := F_tightness.bindsN fun _ _ _ _ _ _ us hl => match us, hl with | [_], _ => rfl
 obtain ⟨fd_wrapped, F_wrapped⟩ := c.t.d.def_ 38 (d := d_wrapped) rfl
 have M_wrapped := He.glo_ok X G (c.t.d.fact 26 (f := .glo "wrapped") rfl)
 have b_wrapped : Binds K fd_wrapped ["thing", "least"] [] := F_wrapped.bindsN fun _ _ _ _ _ _ us hl => match us, hl with | [_, _], _ => rfl
 obtain ⟨fd_sum_text, F_sum_text⟩ := c.t.d.def_ 39 (d := d_sum_text) rfl
 have M_sum_text := He.glo_ok X G (c.t.d.fact 27 (f := .glo "sum_text") rfl)
 have b_sum_text : Binds K fd_sum_text ["thing"] [] := F_sum_text.bindsN fun _ _ _ _ _ _ us hl => match us, hl with | [_], _ => rfl
 obtain ⟨fd_term_text, F_term_text⟩ := c.t.d.def_ 40 (d := d_term_text) rfl
 have M_term_text := He.glo_ok X G (c.t.d.fact 28 (f := .glo "term_text") rfl)
 have b_term_text : Binds K fd_term_text ["term"] [] := F_term_text.bindsN fun _ _ _ _ _ _ us hl => match us, hl with | [_], _ => rfl
 obtain ⟨fd_atom_text, F_atom_text⟩ := c.t.d.def_ 41 (d := d_atom_text) rfl
 have M_atom_text := He.glo_ok X G (c.t.d.fact 29 (f := .glo "atom_text") rfl)
 have b_atom_text : Binds K fd_atom_text ["part"] [] := F_atom_text.bindsN fun _ _ _ _ _ _ us hl => match us, hl with | [_], _ => rfl
 obtain ⟨fd_part_text, F_part_text⟩ := c.t.d.def_ 42 (d := d_part_text) rfl
 have M_part_text := He.glo_ok X G (c.t.d.fact 30 (f := .glo "part_text") rfl)
 have b_part_text : Binds K fd_part_text ["part"] [] := F_part_text.bindsN fun _ _ _ _ _ _ us hl => match us, hl with | [_], _ => rfl
 obtain ⟨fd_arg_text, F_arg_text⟩ := c.t.d.def_ 43 (d := d_arg_text) rfl
 have M_arg_text := He.glo_ok X G (c.t.d.fact 31 (f := .glo "arg_text") rfl)
 have b_arg_text : Binds K fd_arg_text ["arg"] [] := F_arg_text.bindsN fun _ _ _ _ _ _ us hl => match us, hl with | [_], _ => rfl
 obtain ⟨fd_args_text, F_args_text⟩ := c.t.d.def_ 44 (d := d_args_text) rfl
 have M_args_text := He.glo_ok X G (c.t.d.fact 32 (f := .glo "args_text") rfl)
 have b_args_text : Binds K fd_args_text ["args"] [] := F_args_text.bindsN fun _ _ _ _ _ _ us hl => match us, hl with | [_], _ => rfl
 obtain ⟨fd_parts_text, F_parts_text⟩ := c.t.d.def_ 45 (d := d_parts_text) rfl
 have M_parts_text := He.glo_ok X G (c.t.d.fact 33 (f := .glo "parts_text") rfl)
 have b_parts_text : Binds K fd_parts_text ["parts"] [] := F_parts_text.bindsN fun _ _ _ _ _ _ us hl => match us, hl with | [_], _ => rfl
 obtain ⟨fd_rule_text, F_rule_text⟩ := c.t.d.def_ 46 (d := d_rule_text) rfl
 have M_rule_text := He.glo_ok X G (c.t.d.fact 34 (f := .glo "rule_text") rfl)
 have b_rule_text : Binds K fd_rule_text ["rule"] [] := F_rule_text.bindsN fun _ _ _ _ _ _ us hl => match us, hl with | [_], _ => rfl
 obtain ⟨fd_question_text, F_question_text⟩ := c.t.d.def_ 47 (d := d_question_text) rfl
 have M_question_text := He.glo_ok X G (c.t.d.fact 35 (f := .glo "question_text") rfl)
 have b_question_text : Binds K fd_question_text ["question"] [] := F_question_text.bindsN fun _ _ _ _ _ _ us hl => match us, hl with | [_], _ => rfl
 obtain ⟨fd__law_bag, F__law_bag⟩ := c.t.d.def_ 48 (d := d__law_bag) rfl
 have M__law_bag := He.glo_ok X G (c.t.d.fact 36 (f := .glo "_law_bag") rfl)
 have b__law_bag : Binds K fd__law_bag ["_law_script"] [] := F__law_bag.bindsN fun _ _ _ _ _ _ us hl => match us, hl with | [_], _ => rfl
 obtain ⟨fd__law_pull, F__law_pull⟩ := c.t.d.def_ 49 (d := d__law_pull) rfl
 have M__law_pull := He.glo_ok X G (c.t.d.fact 37 (f := .glo "_law_pull") rfl)
 have b__law_pull : Binds K fd__law_pull ["_law_bag_here", "_law_upto"] [] := F__law_pull.bindsN fun _ _ _ _ _ _ us hl => match us, hl with | [_, _], _ => rfl
 obtain ⟨fd__law_one, F__law_one⟩ := c.t.d.def_ 50 (d := d__law_one) rfl
 have M__law_one := He.glo_ok X G (c.t.d.fact 38 (f := .glo "_law_one") rfl)
 have b__law_one : Binds K fd__law_one ["_law_bag_here", "_law_row"] [] := F__law_one.bindsN fun _ _ _ _ _ _ us hl => match us, hl with | [_, _], _ => rfl
 obtain ⟨fd__law_same, F__law_same⟩ := c.t.d.def_ 51 (d := d__law_same) rfl
 have M__law_same := He.glo_ok X G (c.t.d.fact 39 (f := .glo "_law_same") rfl)
 have b__law_same : Binds K fd__law_same ["_law_found", "_law_due"] [] := F__law_same.bindsN fun _ _ _ _ _ _ us hl => match us, hl with | [_, _], _ => rfl
 obtain ⟨fd__law_barred, F__law_barred⟩ := c.t.d.def_ 52 (d := d__law_barred) rfl
 have M__law_barred := He.glo_ok X G (c.t.d.fact 40 (f := .glo "_law_barred") rfl)
 have b__law_barred : Binds K fd__law_barred ["_law_word_here"] [] := F__law_barred.bindsN fun _ _ _ _ _ _ us hl => match us, hl with | [_], _ => rfl
 obtain ⟨fd__law_word, F__law_word⟩ := c.t.d.def_ 53 (d := d__law_word) rfl
 have M__law_word := He.glo_ok X G (c.t.d.fact 41 (f := .glo "_law_word") rfl)
 have b__law_word : Binds K fd__law_word ["_law_bag_here"] [] := F__law_word.bindsN fun _ _ _ _ _ _ us hl => match us, hl with | [_], _ => rfl
 obtain ⟨fd__law_names, F__law_names⟩ := c.t.d.def_ 54 (d := d__law_names) rfl
 have M__law_names := He.glo_ok X G (c.t.d.fact 42 (f := .glo "_law_names") rfl)
 have b__law_names : Binds K fd__law_names ["_law_bag_here", "_law_many"] [] := F__law_names.bindsN fun _ _ _ _ _ _ us hl => match us, hl with | [_, _], _ => rfl
 obtain ⟨fd__law_number, F__law_number⟩ := c.t.d.def_ 55 (d := d__law_number) rfl
 have M__law_number := He.glo_ok X G (c.t.d.fact 43 (f := .glo "_law_number") rfl)
 have b__law_number : Binds K fd__law_number ["_law_bag_here"] [] := F__law_number.bindsN fun _ _ _ _ _ _ us hl => match us, hl with | [_], _ => rfl
 obtain ⟨fd__law_value, F__law_value⟩ := c.t.d.def_ 56 (d := d__law_value) rfl
 have M__law_value := He.glo_ok X G (c.t.d.fact 44 (f := .glo "_law_value") rfl)
 have b__law_value : Binds K fd__law_value ["_law_bag_here", "_law_kind"] [] := F__law_value.bindsN fun _ _ _ _ _ _ us hl => match us, hl with | [_, _], _ => rfl
 obtain ⟨fd__law_value_text, F__law_value_text⟩ := c.t.d.def_ 57 (d := d__law_value_text) rfl
 have M__law_value_text := He.glo_ok X G (c.t.d.fact 45 (f := .glo "_law_value_text") rfl)
 have b__law_value_text : Binds K fd__law_value_text ["_law_value_here"] [] := F__law_value_text.bindsN fun _ _ _ _ _ _ us hl => match us, hl with | [_], _ => rfl
 obtain ⟨fd__law_close, F__law_close⟩ := c.t.d.def_ 58 (d := d__law_close) rfl
 have M__law_close := He.glo_ok X G (c.t.d.fact 46 (f := .glo "_law_close") rfl)
 have b__law_close : Binds K fd__law_close ["_law_thing"] [] := F__law_close.bindsN fun _ _ _ _ _ _ us hl => match us, hl with | [_], _ => rfl
 obtain ⟨fd__law_within, F__law_within⟩ := c.t.d.def_ 59 (d := d__law_within) rfl
 have M__law_within := He.glo_ok X G (c.t.d.fact 47 (f := .glo "_law_within") rfl)
 have b__law_within : Binds K fd__law_within ["_law_thing", "_law_least_close"] [] := F__law_within.bindsN fun _ _ _ _ _ _ us hl => match us, hl with | [_, _], _ => rfl
 obtain ⟨fd__law_sum_text, F__law_sum_text⟩ := c.t.d.def_ 60 (d := d__law_sum_text) rfl
 have M__law_sum_text := He.glo_ok X G (c.t.d.fact 48 (f := .glo "_law_sum_text") rfl)
 have b__law_sum_text : Binds K fd__law_sum_text ["_law_thing"] [] := F__law_sum_text.bindsN fun _ _ _ _ _ _ us hl => match us, hl with | [_], _ => rfl
 obtain ⟨fd__law_term_text, F__law_term_text⟩ := c.t.d.def_ 61 (d := d__law_term_text) rfl
 have M__law_term_text := He.glo_ok X G (c.t.d.fact 49 (f := .glo "_law_term_text") rfl)
 have b__law_term_text : Binds K fd__law_term_text ["_law_term"] [] := F__law_term_text.bindsN fun _ _ _ _ _ _ us hl => match us, hl with | [_], _ => rfl
 obtain ⟨fd__law_part_text, F__law_part_text⟩ := c.t.d.def_ 62 (d := d__law_part_text) rfl
 have M__law_part_text := He.glo_ok X G (c.t.d.fact 50 (f := .glo "_law_part_text") rfl)
 have b__law_part_text : Binds K fd__law_part_text ["_law_part"] [] := F__law_part_text.bindsN fun _ _ _ _ _ _ us hl => match us, hl with | [_], _ => rfl
 obtain ⟨fd__law_arg_text, F__law_arg_text⟩ := c.t.d.def_ 63 (d := d__law_arg_text) rfl
 have M__law_arg_text := He.glo_ok X G (c.t.d.fact 51 (f := .glo "_law_arg_text") rfl)
 have b__law_arg_text : Binds K fd__law_arg_text ["_law_arg"] [] := F__law_arg_text.bindsN fun _ _ _ _ _ _ us hl => match us, hl with | [_], _ => rfl
 obtain ⟨fd__law_listed, F__law_listed⟩ := c.t.d.def_ 64 (d := d__law_listed) rfl
 have M__law_listed := He.glo_ok X G (c.t.d.fact 52 (f := .glo "_law_listed") rfl)
 have b__law_listed : Binds K fd__law_listed ["_law_things", "_law_parts"] [] := F__law_listed.bindsN fun _ _ _ _ _ _ us hl => match us, hl with | [_, _], _ => rfl
 obtain ⟨fd__law_rule_text, F__law_rule_text⟩ := c.t.d.def_ 65 (d := d__law_rule_text) rfl
 have M__law_rule_text := He.glo_ok X G (c.t.d.fact 53 (f := .glo "_law_rule_text") rfl)
 have b__law_rule_text : Binds K fd__law_rule_text ["_law_rule"] [] := F__law_rule_text.bindsN fun _ _ _ _ _ _ us hl => match us, hl with | [_], _ => rfl
 obtain ⟨fd__law_asking, F__law_asking⟩ := c.t.d.def_ 66 (d := d__law_asking) rfl
 have M__law_asking := He.glo_ok X G (c.t.d.fact 54 (f := .glo "_law_asking") rfl)
 have b__law_asking : Binds K fd__law_asking ["_law_question"] [] := F__law_asking.bindsN fun _ _ _ _ _ _ us hl => match us, hl with | [_], _ => rfl
 obtain ⟨fd__law_terms, F__law_terms⟩ := c.t.d.def_ 67 (d := d__law_terms) rfl
 have M__law_terms := He.glo_ok X G (c.t.d.fact 55 (f := .glo "_law_terms") rfl)
 have b__law_terms : Binds K fd__law_terms ["_law_bag_here", "_law_kinds", "_law_vars_of"] [] := F__law_terms.bindsN fun _ _ _ _ _ _ us hl => match us, hl with | [_, _, _], _ => rfl
 obtain ⟨fd__law_atom, F__law_atom⟩ := c.t.d.def_ 68 (d := d__law_atom) rfl
 have M__law_atom := He.glo_ok X G (c.t.d.fact 56 (f := .glo "_law_atom") rfl)
 have b__law_atom : Binds K fd__law_atom ["_law_bag_here", "_law_kinds_of", "_law_vars_of"] [] := F__law_atom.bindsN fun _ _ _ _ _ _ us hl => match us, hl with | [_, _, _], _ => rfl
 obtain ⟨fd__law_leaf, F__law_leaf⟩ := c.t.d.def_ 69 (d := d__law_leaf) rfl
 have M__law_leaf := He.glo_ok X G (c.t.d.fact 57 (f := .glo "_law_leaf") rfl)
 have b__law_leaf : Binds K fd__law_leaf ["_law_bag_here", "_law_kind", "_law_vars_of"] [] := F__law_leaf.bindsN fun _ _ _ _ _ _ us hl => match us, hl with | [_, _, _], _ => rfl
 obtain ⟨fd__law_sum, F__law_sum⟩ := c.t.d.def_ 70 (d := d__law_sum) rfl
 have M__law_sum := He.glo_ok X G (c.t.d.fact 58 (f := .glo "_law_sum") rfl)
 have b__law_sum : Binds K fd__law_sum ["_law_bag_here", "_law_vars_of", "_law_deep"] [] := F__law_sum.bindsN fun _ _ _ _ _ _ us hl => match us, hl with | [_, _, _], _ => rfl
 obtain ⟨fd__law_test, F__law_test⟩ := c.t.d.def_ 71 (d := d__law_test) rfl
 have M__law_test := He.glo_ok X G (c.t.d.fact 59 (f := .glo "_law_test") rfl)
 have b__law_test : Binds K fd__law_test ["_law_bag_here", "_law_vars_of"] [] := F__law_test.bindsN fun _ _ _ _ _ _ us hl => match us, hl with | [_, _], _ => rfl
 obtain ⟨fd__law_not, F__law_not⟩ := c.t.d.def_ 72 (d := d__law_not) rfl
 have M__law_not := He.glo_ok X G (c.t.d.fact 60 (f := .glo "_law_not") rfl)
 have b__law_not : Binds K fd__law_not ["_law_bag_here", "_law_kinds_of", "_law_vars_of"] [] := F__law_not.bindsN fun _ _ _ _ _ _ us hl => match us, hl with | [_, _, _], _ => rfl
 obtain ⟨fd__law_body, F__law_body⟩ := c.t.d.def_ 73 (d := d__law_body) rfl
 have M__law_body := He.glo_ok X G (c.t.d.fact 61 (f := .glo "_law_body") rfl)
 have b__law_body : Binds K fd__law_body ["_law_bag_here", "_law_kinds_of", "_law_lower", "_law_atoms", "_law_made"] [] := F__law_body.bindsN fun _ _ _ _ _ _ us hl => match us, hl with | [_, _, _, _, _], _ => rfl
 obtain ⟨fd__law_fold_arg, F__law_fold_arg⟩ := c.t.d.def_ 74 (d := d__law_fold_arg) rfl
 have M__law_fold_arg := He.glo_ok X G (c.t.d.fact 62 (f := .glo "_law_fold_arg") rfl)
 have b__law_fold_arg : Binds K fd__law_fold_arg ["_law_bag_here", "_law_vars_of"] [] := F__law_fold_arg.bindsN fun _ _ _ _ _ _ us hl => match us, hl with | [_, _], _ => rfl
 obtain ⟨fd__law_spread, F__law_spread⟩ := c.t.d.def_ 75 (d := d__law_spread) rfl
 have M__law_spread := He.glo_ok X G (c.t.d.fact 63 (f := .glo "_law_spread") rfl)
 have b__law_spread : Binds K fd__law_spread ["_law_bag_here", "_law_text"] [] := F__law_spread.bindsN fun _ _ _ _ _ _ us hl => match us, hl with | [_, _], _ => rfl
 obtain ⟨fd__law_any_rule, F__law_any_rule⟩ := c.t.d.def_ 76 (d := d__law_any_rule) rfl
 have M__law_any_rule := He.glo_ok X G (c.t.d.fact 64 (f := .glo "_law_any_rule") rfl)
 have b__law_any_rule : Binds K fd__law_any_rule ["_law_bag_here"] [] := F__law_any_rule.bindsN fun _ _ _ _ _ _ us hl => match us, hl with | [_], _ => rfl
 obtain ⟨fd__law_full_parts, F__law_full_parts⟩ := c.t.d.def_ 77 (d := d__law_full_parts) rfl
 have M__law_full_parts := He.glo_ok X G (c.t.d.fact 65 (f := .glo "_law_full_parts") rfl)
 have b__law_full_parts : Binds K fd__law_full_parts ["_law_parts"] [] := F__law_full_parts.bindsN fun _ _ _ _ _ _ us hl => match us, hl with | [_], _ => rfl
 obtain ⟨fd_law, F_law⟩ := c.t.d.def_ 78 (d := d_law) rfl
 have Z_len := He.free_ok X G (c.t.d.fact 67 (f := .free "len") rfl)
 have Z_list := He.free_ok X G (c.t.d.fact 68 (f := .free "list") rfl)
 have Z_range := He.free_ok X G (c.t.d.fact 69 (f := .free "range") rfl)
 have Z_sorted := He.free_ok X G (c.t.d.fact 70 (f := .free "sorted") rfl)
 have Z_isinstance := He.free_ok X G (c.t.d.fact 71 (f := .free "isinstance") rfl)
 have Z_tuple := He.free_ok X G (c.t.d.fact 72 (f := .free "tuple") rfl)
 have Z_repr := He.free_ok X G (c.t.d.fact 73 (f := .free "repr") rfl)
 have Z_zip := He.free_ok X G (c.t.d.fact 74 (f := .free "zip") rfl)
 have Z_all := He.free_ok X G (c.t.d.fact 75 (f := .free "all") rfl)
 have Z_any := He.free_ok X G (c.t.d.fact 76 (f := .free "any") rfl)
 have Z_min := He.free_ok X G (c.t.d.fact 77 (f := .free "min") rfl)
 have Z_bool := He.free_ok X G (c.t.d.fact 78 (f := .free "bool") rfl)
 have Z_int := He.free_ok X G (c.t.d.fact 79 (f := .free "int") rfl)
 have Z_str := He.free_ok X G (c.t.d.fact 80 (f := .free "str") rfl)
 have Z_ValueError := He.free_ok X G (c.t.d.fact 81 (f := .free "ValueError") rfl)
 have m_LoreError := He.glo_ok X G (c.t.d.fact 82 (f := .glo "LoreError") rfl)
 have m_TextError := He.glo_ok X G (c.t.d.fact 83 (f := .glo "TextError") rfl)
 have m_BadText := He.glo_ok X G (c.t.d.fact 84 (f := .glo "BadText") rfl)
 have g_LETTERS := He.str_ok X G (c.t.d.fact 86 (f := .str "LETTERS" z_LETTERS) rfl)
 have g_FIGURES := He.str_ok X G (c.t.d.fact 87 (f := .str "FIGURES" z_FIGURES) rfl)
 have g_RUN := He.str_ok X G (c.t.d.fact 88 (f := .str "RUN" z_RUN) rfl)
 have g_SIGNS := He.str_ok X G (c.t.d.fact 89 (f := .str "SIGNS" z_SIGNS) rfl)
 have g_MOST_SIGNS := He.int_ok X G (c.t.d.fact 90 (f := .int "MOST_SIGNS" z_MOST_SIGNS) rfl)
 have g_MOST_FIGURES := He.int_ok X G (c.t.d.fact 91 (f := .int "MOST_FIGURES" z_MOST_FIGURES) rfl)
 have g_MOST_DEEP := He.int_ok X G (c.t.d.fact 92 (f := .int "MOST_DEEP" z_MOST_DEEP) rfl)
 have g_MOST_TERMS := He.int_ok X G (c.t.d.fact 93 (f := .int "MOST_TERMS" z_MOST_TERMS) rfl)
 have g_MOST_PARTS := He.int_ok X G (c.t.d.fact 94 (f := .int "MOST_PARTS" z_MOST_PARTS) rfl)
 have g_MOST_ASKED := He.int_ok X G (c.t.d.fact 95 (f := .int "MOST_ASKED" z_MOST_ASKED) rfl)
 have x_ec_LoreError : (SL.ecB K (He.ga K "LoreError")) = true := exL_at c.more 0 rfl
 have x_ei_LoreError : (SL.eciB K (He.ga K "LoreError") (He.fAd K ("LoreError", some "__init__"))) = true := exL_at c.more 1 rfl
 have x_ec_TextError : (SL.ecB K (He.ga K "TextError")) = true := exL_at c.more 2 rfl
 have x_ei_TextError : (SL.eciB K (He.ga K "TextError") (He.fAd K ("LoreError", some "__init__"))) = true := exL_at c.more 3 rfl
 have x_ec_BadText : (SL.ecB K (He.ga K "BadText")) = true := exL_at c.more 4 rfl
 have x_ei_BadText : (SL.eciB K (He.ga K "BadText") (He.fAd K ("BadText", some "__init__"))) = true := exL_at c.more 5 rfl
 have x_nw_BadText : (decide (PySem.W.findIn K (.ref (He.ga K "BadText")) "word" = some none)) = true := exL_at c.more 6 rfl
 have x_nf_BadText : (decide (PySem.W.findIn K (.ref (He.ga K "BadText")) "at" = some none)) = true := exL_at c.more 7 rfl
 have x_t_KEPT : (decide (PySem.W.nsIn K mainGlobals "KEPT" = some (some (.ref (He.ga K "KEPT")))) && He.tupB K "KEPT" (keptW.map He.Dv.str)) = true := exL_at c.more 8 rfl
 have x_t_TESTS : (decide (PySem.W.nsIn K mainGlobals "TESTS" = some (some (.ref (He.ga K "TESTS")))) && He.tupB K "TESTS" (testsW.map He.Dv.str)) = true := exL_at c.more 9 rfl
 have x_t_FOLDS : (decide (PySem.W.nsIn K mainGlobals "FOLDS" = some (some (.ref (He.ga K "FOLDS")))) && He.tupB K "FOLDS" (foldsW.map He.Dv.str)) = true := exL_at c.more 10 rfl
 have x_wd_TIGHT : (SL.wdB K (He.ga K "TIGHT") dv_TIGHT) = true := exL_at c.more 11 rfl
 have g_TIGHT := He.glo_ok X G (c.t.d.fact 85 (f := .glo "TIGHT") rfl)
 obtain ⟨es_TIGHT, n_TIGHT, D_TIGHT⟩ := c.t.tab 0 (t := tsAll.getD 0 (fun _ => 0, [])) rfl
 have d_TIGHT := SL.wd_of (kvs := dv_TIGHT) D_TIGHT x_wd_TIGHT
 have eL := hfa.symm.trans (He.glo_ok X G (c.t.d.fact 66 (f := .glo "law") rfl))
 cases eL
 have bL := FunD.bindsA (ps := ["_law_script"]) F_law fun _ _ _ _ _ _ us hl => match us, hl with | [_], _ => rfl
 refine ⟨fd_law, fun s v => bL s [v] rfl, fun base _ _ => ?_⟩
 have B : Bi mg := ⟨Z_len, Z_list, Z_range⟩
 have BS : BiS mg := ⟨Z_isinstance, Z_list, Z_tuple, Z_repr, Z_zip, Z_all, Z_len⟩
 have BX : BiX mg := ⟨Z_ValueError⟩
 have BV : BiV mg := ⟨Z_all, Z_len, Z_isinstance, Z_bool, Z_int, Z_str, Z_ValueError, Z_list, Z_range⟩
 have BR : BiR mg := ⟨Z_len, Z_all, Z_int, Z_min⟩
 have BR2 : BiR2 mg := ⟨Z_len, Z_tuple, Z_any⟩
 have BL : BiL mg := ⟨Z_list, Z_sorted⟩
 have BRD : BiRD mg := ⟨Z_len, Z_list, Z_sorted, Z_tuple, Z_range⟩
 have BT : BiT mg := ⟨Z_isinstance, Z_bool, Z_int, Z_str⟩
 have BP : BiP mg := ⟨Z_len, Z_tuple⟩
 have BK : BiK mg := ⟨Z_range, Z_tuple⟩
 have y_KEPT := He.ba x_t_KEPT
 have y_TESTS := He.ba x_t_TESTS
 have y_FOLDS := He.ba x_t_FOLDS
 have GV : GlV K mg (He.ga K "KEPT") := ⟨g_LETTERS, g_FIGURES, g_MOST_SIGNS, g_MOST_FIGURES, PySem.W.mg_of X G (of_decide_eq_true y_KEPT.1), fun H => by have z := He.tupB_ok y_KEPT.2 H; rw [List.map_map] at z; exact z⟩
 have GR : GlR K mg (He.ga K "TESTS") (He.ga K "FOLDS") := ⟨PySem.W.mg_of X G (of_decide_eq_true y_TESTS.1), fun H => by have z := He.tupB_ok y_TESTS.2 H; rw [List.map_map] at z; exact z, PySem.W.mg_of X G (of_decide_eq_true y_FOLDS.1), fun H => by have z := He.tupB_ok y_FOLDS.2 H; rw [List.map_map] at z; exact z, g_MOST_TERMS, g_MOST_PARTS, g_MOST_ASKED⟩
 have n1_BadText : PySem.W.findIn K (.ref (He.ga K "BadText")) "word" = some none := of_decide_eq_true x_nw_BadText
 have n2_BadText : PySem.W.findIn K (.ref (He.ga K "BadText")) "at" = some none := of_decide_eq_true x_nf_BadText
 have G_LoreError : ClG P w K mg base 1 "LoreError" (He.ga K "LoreError") (spL K) := ⟨m_LoreError, ecB_ok x_ec_LoreError, _, fd_LoreError_ini, ["self", "word"], ok_LoreError_ini F_LoreError_ini BX, eciB_ok x_ei_LoreError, b_LoreError_ini⟩
 have G_TextError : ClG P w K mg base 1 "TextError" (He.ga K "TextError") (spL K) := ⟨m_TextError, ecB_ok x_ec_TextError, _, fd_LoreError_ini, ["self", "word"], ok_LoreError_ini F_LoreError_ini BX, eciB_ok x_ei_TextError, b_LoreError_ini⟩
 have G_BadText : ClG P w K mg base 2 "BadText" (He.ga K "BadText") (spI1 K "badtext" "at") := ⟨m_BadText, ecB_ok x_ec_BadText, _, fd_BadText_ini, ["self", "at"], ok_BadText_ini F_BadText_ini G_TextError, eciB_ok x_ei_BadText, b_BadText_ini⟩
 have C__law_bag := calG_of (P := P) (w := w) (base := base) (ok__law_bag F__law_bag B) M__law_bag F__law_bag.kp b__law_bag
 have C__law_pull := calG_of (P := P) (w := w) (base := base) (ok__law_pull F__law_pull B) M__law_pull F__law_pull.kp b__law_pull
 have C__law_one := calG_of (P := P) (w := w) (base := base) (ok__law_one F__law_one B C__law_pull) M__law_one F__law_one.kp b__law_one
 have C__law_word := calG_of (P := P) (w := w) (base := base) (ok__law_word F__law_word B C__law_pull C__law_one) M__law_word F__law_word.kp b__law_word
 have C__law_number := calG_of (P := P) (w := w) (base := base) (ok__law_number F__law_number C__law_pull) M__law_number F__law_number.kp b__law_number
 have C__law_value := calG_of (P := P) (w := w) (base := base) (ok__law_value F__law_value C__law_pull C__law_one C__law_word C__law_number) M__law_value F__law_value.kp b__law_value
 have C__law_leaf := calG_of (P := P) (w := w) (base := base) (ok__law_leaf F__law_leaf BL C__law_pull C__law_one C__law_value) M__law_leaf F__law_leaf.kp b__law_leaf
 have R__law_sum := calG_rec (P := P) (w := w) (base := base) (sp := spSum K) 50 (fun vs H Q E h => by obtain ⟨b, cs, d, m, vd, rfl, hm, _⟩ := h; exact Nat.not_lt_zero _ hm) M__law_sum F__law_sum.kp b__law_sum fun n C => ok__law_sum F__law_sum C__law_pull C__law_one C__law_leaf C
 have C__law_sum := R__law_sum 5
 have C__law_barred := calG_of (P := P) (w := w) (base := base) (ok__law_barred F__law_barred) M__law_barred F__law_barred.kp b__law_barred
 have C__law_names := calG_of (P := P) (w := w) (base := base) (ok__law_names F__law_names B C__law_word C__law_pull C__law_barred) M__law_names F__law_names.kp b__law_names
 have C__law_terms := calG_of (P := P) (w := w) (base := base) (ok__law_terms F__law_terms BRD C__law_pull C__law_one C__law_value) M__law_terms F__law_terms.kp b__law_terms
 have C__law_atom := calG_of (P := P) (w := w) (base := base) (ok__law_atom F__law_atom BRD C__law_one C__law_terms) M__law_atom F__law_atom.kp b__law_atom
 have C__law_test := calG_of (P := P) (w := w) (base := base) (ok__law_test F__law_test C__law_one C__law_sum C__law_leaf) M__law_test F__law_test.kp b__law_test
 have C__law_fold_arg := calG_of (P := P) (w := w) (base := base) (ok__law_fold_arg F__law_fold_arg BRD C__law_one C__law_pull) M__law_fold_arg F__law_fold_arg.kp b__law_fold_arg
 have C__law_not := calG_of (P := P) (w := w) (base := base) (ok__law_not F__law_not BRD C__law_one C__law_leaf C__law_pull) M__law_not F__law_not.kp b__law_not
 have C__law_body := calG_of (P := P) (w := w) (base := base) (ok__law_body F__law_body BRD C__law_atom C__law_one C__law_pull C__law_sum C__law_leaf C__law_test C__law_not) M__law_body F__law_body.kp b__law_body
 have C__law_any_rule := calG_of (P := P) (w := w) (base := base) (ok__law_any_rule F__law_any_rule BRD C__law_names C__law_body C__law_one C__law_pull C__law_leaf C__law_fold_arg) M__law_any_rule F__law_any_rule.kp b__law_any_rule
 have R__law_same := calG_rec0 (P := P) (w := w) (base := base) (sp := spSame K) (fun vs H Q E h => by obtain ⟨x, y, d, rfl, _, _, hm, _⟩ := h; exact sm_zero hm) M__law_same F__law_same.kp b__law_same fun n C => ok__law_same F__law_same BS C
 have C_is_word := calG_of (P := P) (w := w) (base := base) (ok_is_word F_is_word BV GV) M_is_word F_is_word.kp b_is_word
 have C_is_name := calG_of (P := P) (w := w) (base := base) (ok_is_name F_is_name GV C_is_word) M_is_name F_is_name.kp b_is_name
 have C_is_number := calG_of (P := P) (w := w) (base := base) (ok_is_number F_is_number BV GV) M_is_number F_is_number.kp b_is_number
 have C_run_end := calG_of (P := P) (w := w) (base := base) (ok_run_end F_run_end BR g_RUN) M_run_end F_run_end.kp b_run_end
 have C_is_full := calG_of (P := P) (w := w) (base := base) (ok_is_full F_is_full BR C_is_name) M_is_full F_is_full.kp b_is_full
 have C_run_thing := calX_of (P := P) (w := w) (base := base) (ok_run_thing F_run_thing BR GV C_is_name C_is_full C_is_number G_BadText n1_BadText n2_BadText) M_run_thing F_run_thing.kp b_run_thing
 have C_word_thing := calX_of (P := P) (w := w) (base := base) (ok_word_thing F_word_thing C_is_word G_BadText n1_BadText n2_BadText) M_word_thing F_word_thing.kp b_word_thing
 have C_begins_number := calG_of (P := P) (w := w) (base := base) (ok_begins_number F_begins_number GV) M_begins_number F_begins_number.kp b_begins_number
 have C_next_thing := calX_of (P := P) (w := w) (base := base) (ok_next_thing F_next_thing g_RUN g_SIGNS C_word_thing C_run_thing C_run_end C_begins_number G_BadText n1_BadText n2_BadText) M_next_thing F_next_thing.kp b_next_thing
 have C_things_of := calX_of (P := P) (w := w) (base := base) (ok_things_of F_things_of BR C_next_thing) M_things_of F_things_of.kp b_things_of
 have RCl : Cls K (He.ga K "Row") := He.cls_ok (c.t.d.fact 97 (f := .cls "Row") rfl)
 have RC : RowC K (He.ga K "Row") := ⟨RCl, He.noat_ok (c.t.d.fact 99 (f := .noat "Row" "things") rfl), He.noat_ok (c.t.d.fact 100 (f := .noat "Row" "spot") rfl), He.noat_ok (c.t.d.fact 101 (f := .noat "Row" "mine") rfl), He.noat_ok (c.t.d.fact 102 (f := .noat "Row" "plain") rfl)⟩
 obtain ⟨ds_sh0, v_sh0, b_sh0⟩ := F_Row_sort_here.binds1 (ps := ["self", "ahead"]) 1 0 (fun z => by cases z) (by rfl) fun _ _ _ _ _ _ _ us its h1 h2 => match us, h1, its, h2 with | [_], _, [_], _ => ⟨_, rfl, rfl⟩
 obtain ⟨ds_sh1, v_sh1, b_sh1⟩ := F_Row_sort_here.binds1 (ps := ["self", "ahead"]) 2 1 (fun z => by cases z) (by rfl) fun _ _ _ _ _ _ _ us its h1 h2 => match us, h1, its, h2 with | [_, _], _, [_], _ => ⟨_, rfl, rfl⟩
 obtain ⟨ds_th0, v_th0, b_th0⟩ := F_Row_thing.binds1 (ps := ["self", "ahead"]) 1 0 (fun z => by cases z) (by rfl) fun _ _ _ _ _ _ _ us its h1 h2 => match us, h1, its, h2 with | [_], _, [_], _ => ⟨_, rfl, rfl⟩
 obtain ⟨ds_th1, v_th1, b_th1⟩ := F_Row_thing.binds1 (ps := ["self", "ahead"]) 2 1 (fun z => by cases z) (by rfl) fun _ _ _ _ _ _ _ us its h1 h2 => match us, h1, its, h2 with | [_, _], _, [_], _ => ⟨_, rfl, rfl⟩
 obtain ⟨ds_is1, v_is1, b_is1⟩ := F_Row_is_sign.binds1 (ps := ["self", "sign", "ahead"]) 2 0 (fun z => by cases z) (by rfl) fun _ _ _ _ _ _ _ us its h1 h2 => match us, h1, its, h2 with | [_, _], _, [_], _ => ⟨_, rfl, rfl⟩
 obtain ⟨ds_is2, v_is2, b_is2⟩ := F_Row_is_sign.binds1 (ps := ["self", "sign", "ahead"]) 3 1 (fun z => by cases z) (by rfl) fun _ _ _ _ _ _ _ us its h1 h2 => match us, h1, its, h2 with | [_, _, _], _, [_], _ => ⟨_, rfl, rfl⟩
 obtain ⟨ds_ik1, v_ik1, b_ik1⟩ := F_Row_is_kept.binds1 (ps := ["self", "word", "ahead"]) 2 0 (fun z => by cases z) (by rfl) fun _ _ _ _ _ _ _ us its h1 h2 => match us, h1, its, h2 with | [_, _], _, [_], _ => ⟨_, rfl, rfl⟩
 obtain ⟨ds_ik2, v_ik2, b_ik2⟩ := F_Row_is_kept.binds1 (ps := ["self", "word", "ahead"]) 3 1 (fun z => by cases z) (by rfl) fun _ _ _ _ _ _ _ us its h1 h2 => match us, h1, its, h2 with | [_, _, _], _, [_], _ => ⟨_, rfl, rfl⟩
 have N_sh0 : MetG P w K mg base CX0 2 (He.ga K "Row") "sort_here" [.int 0] (spSort K (He.ga K "Row")) := ⟨RCl, _, _, _, _, He.meth_ok (c.t.d.fact 103 (f := .meth "Row" "sort_here") rfl), ok_sort_here F_Row_sort_here BR RC, b_sh0, v_sh0⟩
 have N_sh1 : MetG P w K mg base CX0 2 (He.ga K "Row") "sort_here" [] (spSort K (He.ga K "Row")) := ⟨RCl, _, _, _, _, He.meth_ok (c.t.d.fact 103 (f := .meth "Row" "sort_here") rfl), ok_sort_here F_Row_sort_here BR RC, b_sh1, v_sh1⟩
 have N_th0 : MetG P w K mg base CX0 2 (He.ga K "Row") "thing" [.int 0] (spThing K (He.ga K "Row")) := ⟨RCl, _, _, _, _, He.meth_ok (c.t.d.fact 104 (f := .meth "Row" "thing") rfl), ok_thing F_Row_thing BR RC, b_th0, v_th0⟩
 have N_th1 : MetG P w K mg base CX0 2 (He.ga K "Row") "thing" [] (spThing K (He.ga K "Row")) := ⟨RCl, _, _, _, _, He.meth_ok (c.t.d.fact 104 (f := .meth "Row" "thing") rfl), ok_thing F_Row_thing BR RC, b_th1, v_th1⟩
 have N_is1 : MetG P w K mg base CX0 4 (He.ga K "Row") "is_sign" [.int 0] (spIs K (He.ga K "Row") "sign") := ⟨RCl, _, _, _, _, He.meth_ok (c.t.d.fact 105 (f := .meth "Row" "is_sign") rfl), ok_is_sign F_Row_is_sign N_sh1 N_th1, b_is1, v_is1⟩
 have N_is2 : MetG P w K mg base CX0 4 (He.ga K "Row") "is_sign" [] (spIs K (He.ga K "Row") "sign") := ⟨RCl, _, _, _, _, He.meth_ok (c.t.d.fact 105 (f := .meth "Row" "is_sign") rfl), ok_is_sign F_Row_is_sign N_sh1 N_th1, b_is2, v_is2⟩
 have N_ik1 : MetG P w K mg base CX0 4 (He.ga K "Row") "is_kept" [.int 0] (spIs K (He.ga K "Row") "kept") := ⟨RCl, _, _, _, _, He.meth_ok (c.t.d.fact 106 (f := .meth "Row" "is_kept") rfl), ok_is_kept F_Row_is_kept N_sh1 N_th1, b_ik1, v_ik1⟩
 have N_ik2 : MetG P w K mg base CX0 4 (He.ga K "Row") "is_kept" [] (spIs K (He.ga K "Row") "kept") := ⟨RCl, _, _, _, _, He.meth_ok (c.t.d.fact 106 (f := .meth "Row" "is_kept") rfl), ok_is_kept F_Row_is_kept N_sh1 N_th1, b_ik2, v_ik2⟩
 have N_wr : MetG P w K mg base (L2.CX P w) 4 (He.ga K "Row") "wrong" [] (spWrong K (He.ga K "Row") (He.ga K "BadText")) := ⟨RCl, _, _, _, _, He.meth_ok (c.t.d.fact 107 (f := .meth "Row" "wrong") rfl), ok_wrong F_Row_wrong RC G_BadText n1_BadText n2_BadText, b_Row_wrong, .nil⟩
 have N_st : MetG P w K mg base CX0 4 (He.ga K "Row") "step" [] (spStep K (He.ga K "Row")) := ⟨RCl, _, _, _, _, He.meth_ok (c.t.d.fact 108 (f := .meth "Row" "step") rfl), ok_step F_Row_step RC, b_Row_step, .nil⟩
 have N_ns : MetG P w K mg base (L2.CX P w) 6 (He.ga K "Row") "need_sign" [] (spNeedS K (He.ga K "Row") (He.ga K "BadText")) := ⟨RCl, _, _, _, _, He.meth_ok (c.t.d.fact 109 (f := .meth "Row" "need_sign") rfl), ok_need_sign F_Row_need_sign RC N_is1 N_wr, b_Row_need_sign, .nil⟩
 have N_nn : MetG P w K mg base (L2.CX P w) 6 (He.ga K "Row") "need_name" [] (spNeedN K (He.ga K "Row") (He.ga K "BadText")) := ⟨RCl, _, _, _, _, He.meth_ok (c.t.d.fact 110 (f := .meth "Row" "need_name") rfl), ok_need_name F_Row_need_name RC N_sh0 N_wr N_st, b_Row_need_name, .nil⟩
 have N_ne : MetG P w K mg base (L2.CX P w) 6 (He.ga K "Row") "need_end" [] (spNeedE K (He.ga K "Row") (He.ga K "BadText")) := ⟨RCl, _, _, _, _, He.meth_ok (c.t.d.fact 111 (f := .meth "Row" "need_end") rfl), ok_need_end F_Row_need_end RC N_sh0 N_wr, b_Row_need_end, .nil⟩
 have RM : RowM P w K mg base (He.ga K "Row") (He.ga K "BadText") := ⟨N_sh0, N_th0, N_is1, N_is2, N_ik1, N_ik2, N_wr, N_st, N_ns, N_nn, N_ne⟩
 have okI := ok_Row_ini (P := P) (w := w) (mg := mg) (base := base) F_Row_ini RC C_things_of
 have mk0 := He.mkr_ok (c.t.d.fact 98 (f := .mkr "Row") rfl)
 have mR := He.glo_ok X G (c.t.d.fact 96 (f := .glo "Row") rfl)
 obtain ⟨mv_Row, kb_Row⟩ := FunD.kbinds0 (ps := ["self", "text", "mine", "plain"]) F_Row_ini 2 [] [("mine", .bl false), ("plain", .bl true)] (fun vs mz zs => vs ++ mz) (fun z => by cases z) (fun q hq => hq) (fun a b c => a.append b) (fun _ _ _ _ _ _ us mv ws h1 h2 h3 => match us, h1, mv, h2, ws, h3 with | [_, _], _, [_, _], _, [], _ => ⟨_, _, _, _, _, _, rfl, rfl, ⟨_, _, _, _, _, _, rfl, rfl, rfl⟩⟩)
 have N_Row : MkX P w K mg base 30 "Row" (He.ga K "Row") 1 [] (fun vs zs => vs ++ [.bl false, .bl true]) (spRowI K (He.ga K "Row") (He.ga K "BadText")) := ⟨mR, _, _, _, _, mk0, okI, kb_Row⟩
 obtain ⟨mv_RowPlain, kb_RowPlain⟩ := FunD.kbinds0 (ps := ["self", "text", "mine", "plain"]) F_Row_ini 2 ["plain"] [("mine", .bl false)] (fun vs mz zs => vs ++ (mz ++ zs)) (fun z => by cases z) (fun q hq => List.mem_cons.mpr (.inl (List.mem_singleton.mp hq))) (fun a b c => a.append (b.append c)) (fun _ _ _ _ _ _ us mv ws h1 h2 h3 => match us, h1, mv, h2, ws, h3 with | [_, _], _, [_], _, [_], _ => ⟨_, _, _, _, _, _, rfl, rfl, rfl⟩)
 have N_RowPlain : MkX P w K mg base 30 "Row" (He.ga K "Row") 1 ["plain"] (fun vs zs => vs ++ (.bl false :: zs)) (spRowI K (He.ga K "Row") (He.ga K "BadText")) := ⟨mR, _, _, _, _, mk0, okI, kb_RowPlain⟩
 obtain ⟨mv_RowMine, kb_RowMine⟩ := FunD.kbinds0 (ps := ["self", "text", "mine", "plain"]) F_Row_ini 2 ["mine"] [("plain", .bl true)] (fun vs mz zs => vs ++ (zs ++ mz)) (fun z => by cases z) (fun q hq => List.mem_cons.mpr (.inr hq)) (fun a b c => a.append (c.append b)) (fun _ _ _ _ _ _ us mv ws h1 h2 h3 => match us, h1, mv, h2, ws, h3 with | [_, _], _, [_], _, [_], _ => ⟨_, _, _, _, _, _, rfl, rfl, rfl⟩)
 have N_RowMine : MkX P w K mg base 30 "Row" (He.ga K "Row") 1 ["mine"] (fun vs zs => vs ++ (zs ++ [.bl true])) (spRowI K (He.ga K "Row") (He.ga K "BadText")) := ⟨mR, _, _, _, _, mk0, okI, kb_RowMine⟩
 have R_read_sum : ∀ n, CalX P w K mg base (3 * n + 9) "read_sum" (spPrev K (He.ga K "Row") (He.ga K "BadText") n) := fun n => by
  induction n with
  | zero => exact calX_of ⟨fun _ _ _ _ h => h.elim, fun _ _ _ _ _ _ _ _ _ _ _ _ _ h => h.elim⟩ M_read_sum F_read_sum.kp b_read_sum
  | succ n ih =>
   have C1 := calX_of (ok_read_leaf F_read_leaf RC RM g_MOST_DEEP ih) M_read_leaf F_read_leaf.kp b_read_leaf
   have C2 := calX_of (ok_read_product F_read_product RC RM C1) M_read_product F_read_product.kp b_read_product
   exact calX_of (ok_read_sum F_read_sum RC RM C2) M_read_sum F_read_sum.kp b_read_sum
 have C_read_sum : CalX P w K mg base 48 "read_sum" (spRdN K (He.ga K "Row") (He.ga K "BadText") SumN 12) := R_read_sum 13
 have C_read_test := calX_of (P := P) (w := w) (base := base) (ok_read_test F_read_test GR RM C_read_sum) M_read_test F_read_test.kp b_read_test
 have C_read_term := calX_of (P := P) (w := w) (base := base) (ok_read_term F_read_term RM) M_read_term F_read_term.kp b_read_term
 have C_read_atom := calX_of (P := P) (w := w) (base := base) (ok_read_atom F_read_atom BR2 RC GR RM C_read_term) M_read_atom F_read_atom.kp b_read_atom
 have C_read_part := calX_of (P := P) (w := w) (base := base) (ok_read_part F_read_part RM C_read_sum C_read_test C_read_atom) M_read_part F_read_part.kp b_read_part
 have C_read_parts := calX_of (P := P) (w := w) (base := base) (ok_read_parts F_read_parts BR2 RM C_read_part) M_read_parts F_read_parts.kp b_read_parts
 have C_read_arg := calX_of (P := P) (w := w) (base := base) (ok_read_arg F_read_arg GR RM) M_read_arg F_read_arg.kp b_read_arg
 have C_read_args := calX_of (P := P) (w := w) (base := base) (ok_read_args F_read_args BR2 GR RM C_read_arg) M_read_args F_read_args.kp b_read_args
 have C_read_rule := calX_of (P := P) (w := w) (base := base) (ok_read_rule F_read_rule GR RM N_Row C_read_args C_read_parts) M_read_rule F_read_rule.kp b_read_rule
 have C_read_question := calX_of (P := P) (w := w) (base := base) (ok_read_question F_read_question GR RM N_RowPlain C_read_args C_read_parts) M_read_question F_read_question.kp b_read_question
 have C_read_tests := calX_of (P := P) (w := w) (base := base) (ok_read_tests F_read_tests BR2 RM N_RowMine C_read_test) M_read_tests F_read_tests.kp b_read_tests
 have C_value_text := calG_of (P := P) (w := w) (base := base) (ok_value_text F_value_text BT) M_value_text F_value_text.kp b_value_text
 have C_tightness := calG_of (P := P) (w := w) (base := base) (ok_tightness F_tightness g_TIGHT d_TIGHT) M_tightness F_tightness.kp b_tightness
 have R_sum_text := calG_rec2 (P := P) (w := w) (base := base) (sp := spSumT K) 1 (fun vs H Q E h => by obtain ⟨v, e, m, rfl, _, _, _, hm, _⟩ := h; exact Nat.not_lt_zero _ hm) M_sum_text F_sum_text.kp b_sum_text fun n C => ok_sum_text F_sum_text (C_value_text) (calG_of (ok_wrapped F_wrapped C C_tightness (by omega)) M_wrapped F_wrapped.kp b_wrapped) (by omega) g_TIGHT d_TIGHT
 have C_sum_text := R_sum_text 5
 have C_term_text := calG_of (P := P) (w := w) (base := base) (ok_term_text F_term_text C_sum_text) M_term_text F_term_text.kp b_term_text
 have C_atom_text := calG_of (P := P) (w := w) (base := base) (ok_atom_text F_atom_text C_term_text) M_atom_text F_atom_text.kp b_atom_text
 have C_part_text := calG_of (P := P) (w := w) (base := base) (ok_part_text F_part_text C_sum_text C_atom_text) M_part_text F_part_text.kp b_part_text
 have C_arg_text := calG_of (P := P) (w := w) (base := base) (ok_arg_text F_arg_text C_sum_text) M_arg_text F_arg_text.kp b_arg_text
 have C_args_text := calG_of (P := P) (w := w) (base := base) (ok_args_text F_args_text C_arg_text) M_args_text F_args_text.kp b_args_text
 have C_parts_text := calG_of (P := P) (w := w) (base := base) (ok_parts_text F_parts_text C_part_text) M_parts_text F_parts_text.kp b_parts_text
 have C_rule_text := calG_of (P := P) (w := w) (base := base) (ok_rule_text F_rule_text C_parts_text C_args_text) M_rule_text F_rule_text.kp b_rule_text
 have C_question_text := calG_of (P := P) (w := w) (base := base) (ok_question_text F_question_text C_parts_text C_args_text) M_question_text F_question_text.kp b_question_text
 have C__law_value_text := calG_of (P := P) (w := w) (base := base) (ok__law_value_text F__law_value_text BT) M__law_value_text F__law_value_text.kp b__law_value_text
 have C__law_close := calG_of (P := P) (w := w) (base := base) (ok__law_close F__law_close) M__law_close F__law_close.kp b__law_close
 have R__law_sum_text := calG_rec2 (P := P) (w := w) (base := base) (sp := spSumT K) 1 (fun vs H Q E h => by obtain ⟨v, e, m, rfl, _, _, _, hm, _⟩ := h; exact Nat.not_lt_zero _ hm) M__law_sum_text F__law_sum_text.kp b__law_sum_text fun n C => ok__law_sum_text F__law_sum_text C__law_value_text C__law_close (calG_of (ok__law_within F__law_within C C__law_close (by omega)) M__law_within F__law_within.kp b__law_within) (by omega)
 have C__law_sum_text := R__law_sum_text 5
 have C__law_term_text := calG_of (P := P) (w := w) (base := base) (ok__law_term_text F__law_term_text C__law_sum_text) M__law_term_text F__law_term_text.kp b__law_term_text
 have C__law_part_text := calG_of (P := P) (w := w) (base := base) (ok__law_part_text F__law_part_text C__law_sum_text C__law_term_text) M__law_part_text F__law_part_text.kp b__law_part_text
 have C__law_arg_text := calG_of (P := P) (w := w) (base := base) (ok__law_arg_text F__law_arg_text C__law_sum_text) M__law_arg_text F__law_arg_text.kp b__law_arg_text
 have C__law_listed := calG_of (P := P) (w := w) (base := base) (ok__law_listed F__law_listed C__law_part_text C__law_arg_text) M__law_listed F__law_listed.kp b__law_listed
 have C__law_rule_text := calG_of (P := P) (w := w) (base := base) (ok__law_rule_text F__law_rule_text C__law_listed) M__law_rule_text F__law_rule_text.kp b__law_rule_text
 have C__law_asking := calG_of (P := P) (w := w) (base := base) (ok__law_asking F__law_asking C__law_listed) M__law_asking F__law_asking.kp b__law_asking
 have C__law_full_parts := calG_of (P := P) (w := w) (base := base) (ok__law_full_parts F__law_full_parts BRD) M__law_full_parts F__law_full_parts.kp b__law_full_parts
 have C__law_spread := calG_of (P := P) (w := w) (base := base) (ok__law_spread F__law_spread C__law_pull) M__law_spread F__law_spread.kp b__law_spread
 have R1 := (goodX (F := RuleR) (fun _ _ _ h h' => RuleR.det h h') C_read_rule).mono (j := 56) (k := 57) (by decide)
 have R2 := (goodX (F := QuestionR) (fun _ _ _ h h' => QuestionR.det h h') C_read_question).mono (j := 56) (k := 57) (by decide)
 have R3 := (goodX (F := TestsR) (fun _ _ _ h h' => TestsR.det h h') C_read_tests).mono (j := 56) (k := 57) (by decide)
 have C_read_paper := calG_of (P := P) (w := w) (base := base) (ok_read_paper F_read_paper BP R1) M_read_paper F_read_paper.kp b_read_paper
 exact ok_law F_law BK C__law_bag C__law_any_rule (R__law_same 12) C_rule_text C__law_rule_text C__law_full_parts C_question_text C__law_asking C__law_sum C__law_sum_text C__law_pull C__law_spread R1 R2 R3 C_read_paper
end LW
open PySem PySem.W PySem.Calls PyProof.Rows
set_option maxHeartbeats 0 in
theorem PySem.Challenge.cw_sightlore_k04_whole_rules_there_and_back_holds : PySem.Challenge.rw_sightlore_k04_whole_rules_there_and_back.Holds := by
 w_on; o_law
 refine HandSHeadRun.head_any (r := OpenLaw.row PySem.Challenge.rw_sightlore_k04_whole_rules_there_and_back) (q := view (OpenLaw.row PySem.Challenge.rw_sightlore_k04_whole_rules_there_and_back).prog [90]) (H := LW.hk) (ob := LW.obAll) (M := 8000) (loose := LW.looseAll) (d := HandSHeadRun.topDef (OpenLaw.row PySem.Challenge.rw_sightlore_k04_whole_rules_there_and_back).prog 90) (kwd := []) LW.ob_eq
  (by kernel_rfl) (fun s => by kernel_rfl) LW.run (by kernel_rfl) (by kernel_rfl) (by kernel_rfl) (by rfl) (by first | assumption | decide +kernel) (by decide +kernel) ⟨rfl, rfl, rfl, rfl, rfl, by decide +kernel⟩ ?hw ?hc
 case hw => w_witness2
 case hc =>
  refine SL.walkG (l := PySem.Challenge.rw_sightlore_k04_whole_rules_there_and_back) (n := 63) (k := 100) (x := "_law_script") rfl (by decide) (by kernel_rfl) ⟨rfl, by decide, by decide⟩ ?F
  intro w mg fa h Y G hmg0
  obtain ⟨K, KX, c⟩ := Y
  have hmg : mg ("law" : PySem.Str) = some (.ref fa) := by
   have e : (HandSHeadRun.topDef (OpenLaw.row PySem.Challenge.rw_sightlore_k04_whole_rules_there_and_back).prog 90).name = ("law" : PySem.Str) := by kernel_rfl
   rw [← e]
   exact hmg0
  obtain ⟨fd, hb, hF⟩ := LW.facts (P := (PySem.Challenge.rw_sightlore_k04_whole_rules_there_and_back).prog) (w := w) KX G hmg c
  exact ⟨K, fd, LW.spLaw K, KX, hb, fun H a ns hl hS => ⟨a, ns, rfl, hS, hl, fun _ => rfl⟩, hF⟩
