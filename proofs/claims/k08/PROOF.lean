import PyProof.Rows.All
import Wide.All
import OpenK.AllK
import Wide.FinOn
import HandS.ForMost
import HandS.Zip
import HandS.Flow
import HandS.Conv
import HandS.IsInst
import HandS.Codes
import HandS.Wide
import HandS.StrMore
import HandS.Defaults
import HandS.Exc
import HandS.HeadEnd
import HandS.HeadHook2
import HandS.Head2
import HandS.RaiseMore
import HandS.Walk
import HandS.FStr
import HandS.HeadHook3
import HandS.HeadHook4
import HandS.TupAny
import HandS.SetFor
import HandS.DictComp
import HandS.ExcInit
import HandS.ExcIs
import KE.KExcIs
import HandS.ExcField
import HandS.ExcOwn
import HandS.WordsExc
import HandS.SetBool
import HandS.SetKeys
import KE.GoesEnum
import KE.GoesMore
import KE.DataMinMax
import KE.SortKeyHeap
import HandS.SortKw
import HandS.Keys
import HandS.MakeKwOnly
import HandS.ReplaceLit
import PyProof.StrReplace2
import PyProof.StrOps2
import PyProof.MeetsStr3
import PySem.Challenge.RW_sightlore_k08_what_is_loose
set_option Elab.async false
set_option linter.all false
set_option maxRecDepth 100000
set_option maxHeartbeats 2000000
namespace SL
open PySem PySem.Spec PyProof.Rows L2
def Fix : HO → Prop
 | .tup _ => True
 | .frz _ (.tup _) => True
 | _ => False
def Fr (M : List Addr) (H H' : Hp) : Prop := ∀ a o, H a = some o → (a ∉ M ∨ Fix o) → H' a = some o
theorem Fr.refl {M : List Addr} {H : Hp} : Fr M H H := fun _ _ h _ => h
theorem Fr.trans {M : List Addr} {H H1 H2 : Hp} (a : Fr M H H1) (b : Fr M H1 H2) : Fr M H H2 := fun x o h z => b x o (a x o h z) z
theorem Fr.mono {M N : List Addr} {H H' : Hp} (h : Fr M H H') (s : ∀ a ∈ M, a ∈ N) : Fr N H H' := fun a o e z => h a o e (z.imp (fun n m => n (s a m)) id)
theorem Fr.nil {N : List Addr} {H H' : Hp} (h : Fr [] H H') : Fr N H H' := h.mono fun _ z => nomatch z
theorem Fr.new {M : List Addr} {H : Hp} {p : Addr} {o : HO} (h : H p = none) : Fr M H (upd H p o) := fun a u e _ => by
 rw [upd_ne (ne_of_none e h)]
 exact e
theorem Fr.mut {M : List Addr} {H : Hp} {p : Addr} {o u : HO} (hm : p ∈ M) (h : H p = some u) (hu : ¬ Fix u) : Fr M H (upd H p o) := fun a v e z => by
 by_cases c : a = p
 ·subst c
  rw [h] at e
  cases e
  rcases z with z | z
  ·exact absurd hm z
  ·exact absurd z hu
 ·rw [upd_ne c]
  exact e
theorem Fr.over {M : List Addr} {H H' : Hp} {p : Addr} {o : HO} (e : Fr M H H') (h : H p = none) : Fr M H (upd H' p o) := fun a u ha z => by
 rw [upd_ne (ne_of_none ha h)]
 exact e a u ha z
theorem Fr.same {H H' : Hp} (h : Fr [] H H') : Same H H' := fun b o e => h b o e (.inl (fun z => nomatch z))
theorem Fr.of_same {M : List Addr} {H H' : Hp} (h : Same H H') : Fr M H H' := fun a o e _ => h a o e
theorem Fr.at {M : List Addr} {H H' : Hp} {a : Addr} {o : HO} (h : Fr M H H') (e : H a = some o) (n : a ∉ M) : H' a = some o := h a o e (.inl n)
theorem Fr.back {M : List Addr} {H H' : Hp} {p : Addr} (e : Fr M H H') (hM : p ∉ M) (h : H' p = none) : H p = none := by
 cases q : H p with
 | none => rfl
 | some o =>
  rw [e p o q (.inl hM)] at h
  cases h
theorem Fr.tup {K : PySem.W.Frag} {M : List Addr} {H H' : Hp} {a : Addr} {xs : List V} (e : Fr M H H') (h : SqT K H a xs) : SqT K H' a xs := by
 rcases h with (h | ⟨o, h⟩) | h
 ·exact .inl (.inl (e a _ h (.inr trivial)))
 ·exact .inl (.inr ⟨o, e a _ h (.inr trivial)⟩)
 ·exact .inr h
theorem Fr.seq {K : PySem.W.Frag} {M : List Addr} {H H' : Hp} {a : Addr} {xs : List V} (e : Fr M H H') (n : a ∉ M) (h : SqL K H a xs) : SqL K H' a xs := by
 rcases h with (h | ⟨o, h⟩) | h
 ·exact .inl (.inl (e a _ h (.inl n)))
 ·exact .inl (.inr ⟨o, e a _ h (.inl n)⟩)
 ·exact .inr h
theorem nofix_lst {xs : List V} : ¬ Fix (.lst xs) := fun z => z
theorem nofix_dK {xs : List (Key × V)} : ¬ Fix (.dK xs) := fun z => z
mutual
inductive Td (K : PySem.W.Frag) (H : Hp) : V → PyData → Prop
 | non : Td K H .non .none
 | bl (b : Bool) : Td K H (.bl b) (.bool b)
 | int (i : Int) : Td K H (.int i) (.int i)
 | str (x : Str) : Td K H (.str x) (.str x)
 | tup {a : Addr} {xs : List V} {ds : List PyData} : SqT K H a xs → TdAll K H xs ds → Td K H (.ref a) (.tuple ds)
inductive TdAll (K : PySem.W.Frag) (H : Hp) : List V → List PyData → Prop
 | nil : TdAll K H [] []
 | cons {v : V} {vs : List V} {d : PyData} {ds : List PyData} : Td K H v d → TdAll K H vs ds → TdAll K H (v :: vs) (d :: ds)
end
section
variable {K : PySem.W.Frag} {H H' : Hp} {M : List Addr}
mutual
theorem Td.fr (e : Fr M H H') : ∀ {v : V} {d : PyData}, Td K H v d → Td K H' v d
 | _, _, .non => .non
 | _, _, .bl b => .bl b
 | _, _, .int i => .int i
 | _, _, .str x => .str x
 | _, _, .tup h hs => .tup (e.tup h) (TdAll.fr e hs)
theorem TdAll.fr (e : Fr M H H') : ∀ {vs : List V} {ds : List PyData}, TdAll K H vs ds → TdAll K H' vs ds
 | _, _, .nil => .nil
 | _, _, .cons h hs => .cons (Td.fr e h) (TdAll.fr e hs)
end
mutual
theorem Td.dp : ∀ {v : V} {d : PyData}, Td K H v d → Dp K H v d
 | _, _, .non => .non
 | _, _, .bl b => .bl b
 | _, _, .int i => .int i
 | _, _, .str x => .str x
 | _, _, .tup h hs => .tup h (TdAll.dp hs)
theorem TdAll.dp : ∀ {vs : List V} {ds : List PyData}, TdAll K H vs ds → DpAll K H vs ds
 | _, _, .nil => .nil
 | _, _, .cons h hs => .cons (Td.dp h) (TdAll.dp hs)
end
theorem Td.tuple_inv {v : V} {ds : List PyData} (h : Td K H v (.tuple ds)) : ∃ a xs, v = .ref a ∧ SqT K H a xs ∧ TdAll K H xs ds := by
 cases h with
 | tup h1 h2 => exact ⟨_, _, rfl, h1, h2⟩
theorem Td.int_inv {v : V} {i : Int} (h : Td K H v (.int i)) : v = .int i := by cases h; rfl
theorem Td.str_inv {v : V} {i : Str} (h : Td K H v (.str i)) : v = .str i := by cases h; rfl
theorem Td.bl_inv {v : V} {i : Bool} (h : Td K H v (.bool i)) : v = .bl i := by cases h; rfl
theorem Td.non_inv {v : V} (h : Td K H v .none) : v = .non := by cases h; rfl
theorem TdAll.nil_inv {vs : List V} (h : TdAll K H vs []) : vs = [] := by cases h; rfl
theorem TdAll.cons_inv {vs : List V} {d : PyData} {ds : List PyData} (h : TdAll K H vs (d :: ds)) : ∃ v ws, vs = v :: ws ∧ Td K H v d ∧ TdAll K H ws ds := by
 cases h with
 | cons h1 h2 => exact ⟨_, _, rfl, h1, h2⟩
theorem Td.t1 {v : V} {a : PyData} (h : Td K H v (.tuple [a])) : ∃ p x, v = .ref p ∧ SqT K H p [x] ∧ Td K H x a := by
 obtain ⟨p, xs, rfl, hp, h⟩ := h.tuple_inv
 obtain ⟨x, xs, rfl, hx, h⟩ := h.cons_inv
 cases h.nil_inv
 exact ⟨p, x, rfl, hp, hx⟩
theorem Td.t2 {v : V} {a b : PyData} (h : Td K H v (.tuple [a, b])) : ∃ p x y, v = .ref p ∧ SqT K H p [x, y] ∧ Td K H x a ∧ Td K H y b := by
 obtain ⟨p, xs, rfl, hp, h⟩ := h.tuple_inv
 obtain ⟨x, xs, rfl, hx, h⟩ := h.cons_inv
 obtain ⟨y, xs, rfl, hy, h⟩ := h.cons_inv
 cases h.nil_inv
 exact ⟨p, x, y, rfl, hp, hx, hy⟩
theorem Td.t3 {v : V} {a b c : PyData} (h : Td K H v (.tuple [a, b, c])) : ∃ p x y z, v = .ref p ∧ SqT K H p [x, y, z] ∧ Td K H x a ∧ Td K H y b ∧ Td K H z c := by
 obtain ⟨p, xs, rfl, hp, h⟩ := h.tuple_inv
 obtain ⟨x, xs, rfl, hx, h⟩ := h.cons_inv
 obtain ⟨y, xs, rfl, hy, h⟩ := h.cons_inv
 obtain ⟨z, xs, rfl, hz, h⟩ := h.cons_inv
 cases h.nil_inv
 exact ⟨p, x, y, z, rfl, hp, hx, hy, hz⟩
theorem Td.t4 {v : V} {a b c d : PyData} (h : Td K H v (.tuple [a, b, c, d])) : ∃ p x y z u, v = .ref p ∧ SqT K H p [x, y, z, u] ∧ Td K H x a ∧ Td K H y b ∧ Td K H z c ∧ Td K H u d := by
 obtain ⟨p, xs, rfl, hp, h⟩ := h.tuple_inv
 obtain ⟨x, xs, rfl, hx, h⟩ := h.cons_inv
 obtain ⟨y, xs, rfl, hy, h⟩ := h.cons_inv
 obtain ⟨z, xs, rfl, hz, h⟩ := h.cons_inv
 obtain ⟨u, xs, rfl, hu, h⟩ := h.cons_inv
 cases h.nil_inv
 exact ⟨p, x, y, z, u, rfl, hp, hx, hy, hz, hu⟩
end
def uAdd (K : PySem.W.Frag) : R2 := fun x y H Q => match x, y with
 | .int i, .int j => Q (.int (i + j)) H
 | .str a, .str b => a.length + b.length ≤ sizeLine ∧ Q (.str (a ++ b)) H
 | .ref a, .ref b => rCat (.ref a) (.ref b) H Q ∨ rCatT K (.ref a) (.ref b) H Q
 | _, _ => False
def uSub : R2 := fun x y H Q => match x, y with
 | .int i, .int j => Q (.int (i - j)) H
 | _, _ => False
def uMul : R2 := fun x y H Q => match x, y with
 | .int i, .int j => IntMulOk i j ∧ Q (.int (i * j)) H
 | .ref a, .int k => rRep (.ref a) (.int k) H Q
 | .str a, .int k => 2 ≤ k ∧ k ≤ 1000 ∧ 0 < a.length ∧ a.length ≤ 1000 ∧ Q (.str ⟨(List.replicate k.toNat a.cps).foldl (· ++ ·) #[]⟩) H
 | _, _ => False
def uDiv : R2 := fun x y H Q => match x, y with
 | .int i, .int j => CDivW i j ∧ Q (.int (i / j)) H
 | _, _ => False
def uMod : R2 := fun x y H Q => match x, y with
 | .int i, .int j => 0 < j ∧ Q (.int (i % j)) H
 | _, _ => False
def uPow : R2 := fun x y H Q => match x, y with
 | .int i, .int j => CPow i j ∧ Q (.int (i ^ j.toNat)) H
 | _, _ => False
def rEqE (K : PySem.W.Frag) (x y : V) (H : Hp) (Q : Bool → Prop) : Prop :=
 (∃ a b xs, x = .ref a ∧ y = .ref b ∧ SqT K H a xs ∧ SqT K H b [] ∧ Q (decide (xs = []))) ∨ (∃ a b xs, x = .ref a ∧ y = .ref b ∧ SqL K H a xs ∧ SqL K H b [] ∧ Q (decide (xs = []))) ∨
 ∃ a b kvs, x = .ref a ∧ y = .ref b ∧ H a = some (.dK kvs) ∧ H b = some (.dK []) ∧ Q (decide (kvs = []))
def uEq (K : PySem.W.Frag) : R2 := fun x y H Q => (scal x y = true ∧ Q (.bl (decide (x = y))) H) ∨ rEqD K x y H Q ∨ rEqE K x y H fun b => Q (.bl b) H
def uNe (K : PySem.W.Frag) : R2 := fun x y H Q => (scal x y = true ∧ Q (.bl (!decide (x = y))) H) ∨ rNeD K x y H Q ∨ rEqE K x y H fun b => Q (.bl (!b)) H
def uLt (K : PySem.W.Frag) : R2 := fun x y H Q => match x, y with
 | .int i, .int j => Q (.bl (decide (i < j))) H
 | .str a, .str b => Q (.bl (decide (a.cps.toList < b.cps.toList))) H
 | _, _ => False
def uGt : R2 := fun x y H Q => match x, y with
 | .int i, .int j => Q (.bl (decide (j < i))) H
 | _, _ => False
def uLe : R2 := fun x y H Q => match x, y with
 | .int i, .int j => Q (.bl (decide (i ≤ j))) H
 | .str a, .str b => Q (.bl (!decide (b.cps.toList < a.cps.toList))) H
 | _, _ => False
def uGe : R2 := fun x y H Q => match x, y with
 | .int i, .int j => Q (.bl (decide (j ≤ i))) H
 | _, _ => False
def uIn (K : PySem.W.Frag) : R2 := fun x y H Q => match x, y with
 | .str a, .str b => Q (.bl (!(Builtin.Str.occurrences b a 0 b.length 1).isEmpty)) H
 | x, y => rIn K false x y H Q
def uNotIn (K : PySem.W.Frag) : R2 := fun x y H Q => match x, y with
 | .str a, .str b => Q (.bl (!(!(Builtin.Str.occurrences b a 0 b.length 1).isEmpty))) H
 | x, y => rIn K true x y H Q
section
variable {X : Cx}
theorem opu_add : OpR X (binaryOp .Add) (uAdd X.K) := by
 intro pins s σ H x y v u Q I rx ry h
 cases x <;> cases y <;> first
  | exact absurd h id
  | exact op_add pins s σ H _ _ v u Q I rx ry ⟨_, _, rfl, rfl, h⟩
  | exact op_add_str pins s σ H _ _ v u Q I rx ry ⟨_, _, rfl, rfl, h.1, h.2⟩
  | exact h.elim (fun h => op_cat pins s σ H _ _ v u Q I rx ry h) (fun h => op_catT pins s σ H _ _ v u Q I rx ry h)
theorem opu_sub : OpR X (binaryOp .Sub) uSub := by
 intro pins s σ H x y v u Q I rx ry h
 cases x <;> cases y <;> first
  | exact absurd h id
  | exact op_sub pins s σ H _ _ v u Q I rx ry ⟨_, _, rfl, rfl, h⟩
theorem foldl_size (c : Array Nat) : ∀ (m : Nat) (acc : Array Nat), ((List.replicate m c).foldl (· ++ ·) acc).size = acc.size + m * c.size
 | 0, acc => by simp
 | m + 1, acc => by
  rw [List.replicate_succ, List.foldl_cons, foldl_size c m, Array.size_append, Nat.succ_mul]
  omega
theorem op_repS : OpR X (binaryOp .Mult) (fun x y H Q => ∃ (a : Str) (k : Int), x = .str a ∧ y = .int k ∧ 2 ≤ k ∧ k ≤ 1000 ∧ 0 < a.length ∧ a.length ≤ 1000 ∧ Q (.str ⟨(List.replicate k.toNat a.cps).foldl (· ++ ·) #[]⟩) H) := by
 intro pins s σ H x y v u Q I rx ry h
 obtain ⟨a, k, rfl, rfl, h1, h2, h3, h4, q⟩ := h
 obtain ⟨t, rfl⟩ := rx
 obtain ⟨t', rfl⟩ := ry
 have hm : a.length * k.toNat ≤ 1000000 := Nat.le_trans (Nat.mul_le_mul h4 (show k.toNat ≤ 1000 by omega)) (by decide)
 refine PySem.P.mul_str ?_ (fun _ _ => ?_) (fun _ _ => ?_) ?_
 ·rw [decide_eq_false (show ¬ k < -(2 ^ 63) by omega), decide_eq_false (show ¬ k ≥ 2 ^ 63 by omega)]; rfl
 ·have e : ((2 : Int) ^ 63 - 1) / 1000 ≤ (2 ^ 63 - 1) / k := by
   rw [Int.le_ediv_iff_mul_le (by omega)]
   have : ((2 : Int) ^ 63 - 1) / 1000 * k ≤ (2 ^ 63 - 1) / 1000 * 1000 := Int.mul_le_mul_of_nonneg_left h2 (by decide)
   have e2 : ((2 : Int) ^ 63 - 1) / 1000 * 1000 ≤ 2 ^ 63 - 1 := by decide
   omega
  have e3 : (1000 : Int) ≤ (2 ^ 63 - 1) / 1000 := by decide
  omega
 ·exact decide_eq_false (by have := sizeLine_eq; omega)
 ·rw [if_neg (by omega), if_neg (by simp only [Bool.or_eq_true, beq_iff_eq]; omega)]
  refine ⟨?_, .str _, H, I.tok _, ⟨_, rfl⟩, q⟩
  show ((List.replicate k.toNat a.cps).foldl (· ++ ·) #[]).size ≤ sizeLine
  rw [foldl_size]
  have e : a.cps.size = a.length := rfl
  have e2 : (#[] : Array Nat).size = 0 := rfl
  have := sizeLine_eq
  rw [e, e2, Nat.mul_comm]
  omega
theorem opu_mul : OpR X (binaryOp .Mult) uMul := by
 intro pins s σ H x y v u Q I rx ry h
 cases x <;> cases y <;> first
  | exact absurd h id
  | exact (opI fun _ _ _ _ _ _ _ hc q => mul_int q hc : OpR X (binaryOp .Mult) (rI IntMulOk fun i j => .int (i * j))) pins s σ H _ _ v u Q I rx ry ⟨_, _, rfl, rfl, h.1, h.2⟩
  | exact op_rep pins s σ H _ _ v u Q I rx ry h
  | exact op_repS pins s σ H _ _ v u Q I rx ry ⟨_, _, rfl, rfl, h⟩
theorem opu_div : OpR X (binaryOp .FloorDiv) uDiv := by
 intro pins s σ H x y v u Q I rx ry h
 cases x <;> cases y <;> first
  | exact absurd h id
  | exact op_fdivW pins s σ H _ _ v u Q I rx ry ⟨_, _, rfl, rfl, h.1, h.2⟩
theorem opu_mod : OpR X (binaryOp .Mod) uMod := by
 intro pins s σ H x y v u Q I rx ry h
 cases x <;> cases y <;> first
  | exact absurd h id
  | exact op_mod pins s σ H _ _ v u Q I rx ry ⟨_, _, rfl, rfl, h.1, h.2⟩
theorem opu_pow : OpR X (binaryOp .Pow) uPow := by
 intro pins s σ H x y v u Q I rx ry h
 cases x <;> cases y <;> first
  | exact absurd h id
  | exact op_pow pins s σ H _ _ v u Q I rx ry ⟨_, _, rfl, rfl, h.1, h.2⟩
theorem nil_of {xs : List V} {its : List Value} (r : Vals xs its) : decide (its = []) = decide (xs = []) := by
 cases r <;> rfl
theorem nil_of_kv {xs : List (Key × V)} {vs : List (Key × Value)} (r : KV xs vs) : decide (vs = []) = decide (xs = []) := by
 cases r <;> rfl
theorem size0 {its : List Value} : (its.toArray.size == 0) = decide (its = []) := by cases its <;> rfl
theorem op_eqE (hu : X.A.units + 64 < cLine) : OpR X (compareOp .Eq) (fun x y H Q => rEqE X.K x y H fun b => Q (.bl b) H) := by
 intro pins s σ H x y v u Q I rx ry h
 have hu1 : X.A.units < cLine := by omega
 rcases h with ⟨a, b, xs, rfl, rfl, ha, hb, q⟩ | ⟨a, b, xs, rfl, rfl, ha, hb, q⟩ | ⟨a, b, kvs, rfl, rfl, ha, hb, q⟩
 ·cases rx; cases ry
  obtain ⟨its, r, p, _⟩ := I.tuple ha
  obtain ⟨its2, r2, p2, _⟩ := I.tuple hb
  cases r2
  refine SeqAt.RcAt.tuples (e := fun _ => true) p p2 hu1 (fun j _ h2 => absurd h2 (Nat.not_lt_zero j)) X.prog X.w _ _ ⟨.bl (decide (xs = [])), H, I, ?_, q⟩
  rw [← nil_of r, ← size0]
  simp [L2.RelV]
 ·cases rx; cases ry
  obtain ⟨its, r, p, _⟩ := I.list ha
  obtain ⟨its2, r2, p2, _⟩ := I.list hb
  cases r2
  cases its with
  | nil =>
   refine SeqAt.RcAt.lists (e := fun _ => true) p.isList p2.isList rfl hu1 (fun j _ h2 => absurd h2 (Nat.not_lt_zero j)) X.prog X.w _ _ ⟨.bl (decide (xs = [])), H, I, ?_, q⟩
   rw [← nil_of r]
   rfl
  | cons c cs =>
   refine SeqAt.RcAt.lists_lengths p.isList p2.isList (by simp) hu1 X.prog X.w _ _ ⟨.bl (decide (xs = [])), H, I, ?_, q⟩
   rw [← nil_of r]
   rfl
 ·cases rx; cases ry
  obtain ⟨_, ya, va, ra, da⟩ := dk_of I.hok ha
  obtain ⟨_, yb, vb, rb, db⟩ := dk_of I.hok hb
  cases rb
  refine PySem.W.keq_eq (r := true) ya yb da db hu1 (fun hl => ?_) ⟨.bl (decide (kvs = [])), H, I, ?_, q⟩
  ·cases va with
   | nil => exact .nil
   | cons c cs => cases hl
  ·rw [← nil_of_kv ra]
   cases va <;> rfl
theorem op_neE (hu : X.A.units + 64 < cLine) : OpR X (compareOp .NotEq) (fun x y H Q => rEqE X.K x y H fun b => Q (.bl (!b)) H) := by
 intro pins s σ H x y v u Q I rx ry h
 have hu1 : X.A.units < cLine := by omega
 rcases h with ⟨a, b, xs, rfl, rfl, ha, hb, q⟩ | ⟨a, b, xs, rfl, rfl, ha, hb, q⟩ | ⟨a, b, kvs, rfl, rfl, ha, hb, q⟩
 ·cases rx; cases ry
  obtain ⟨its, r, p, _⟩ := I.tuple ha
  obtain ⟨its2, r2, p2, _⟩ := I.tuple hb
  cases r2
  refine SeqAt.RcNeAt.tuples (e := fun _ => true) p p2 hu1 (fun j _ h2 => absurd h2 (Nat.not_lt_zero j)) X.prog X.w _ _ ⟨.bl (!decide (xs = [])), H, I, ?_, q⟩
  rw [← nil_of r, ← size0]
  simp [L2.RelV]
 ·cases rx; cases ry
  obtain ⟨its, r, p, _⟩ := I.list ha
  obtain ⟨its2, r2, p2, _⟩ := I.list hb
  cases r2
  cases its with
  | nil =>
   refine SeqAt.RcNeAt.lists (e := fun _ => true) p.isList p2.isList rfl hu1 (fun j _ h2 => absurd h2 (Nat.not_lt_zero j)) X.prog X.w _ _ ⟨.bl (!decide (xs = [])), H, I, ?_, q⟩
   rw [← nil_of r]
   rfl
  | cons c cs =>
   refine SeqAt.RcNeAt.lists_lengths p.isList p2.isList (by simp) hu1 X.prog X.w _ _ ⟨.bl (!decide (xs = [])), H, I, ?_, q⟩
   rw [← nil_of r]
   rfl
 ·cases rx; cases ry
  obtain ⟨_, ya, va, ra, da⟩ := dk_of I.hok ha
  obtain ⟨_, yb, vb, rb, db⟩ := dk_of I.hok hb
  cases rb
  refine PySem.W.keq_ne (r := true) ya yb da db hu1 (fun hl => ?_) ⟨.bl (!decide (kvs = [])), H, I, ?_, q⟩
  ·cases va with
   | nil => exact .nil
   | cons c cs => cases hl
  ·rw [← nil_of_kv ra]
   cases va <;> rfl
theorem opu_eq (hu : X.A.units + 64 < cLine) : OpR X (compareOp .Eq) (uEq X.K) := by
 intro pins s σ H x y v u Q I rx ry h
 exact h.elim (fun h => op_eq pins s σ H _ _ v u Q I rx ry h) (fun h => h.elim (fun h => op_eqD hu pins s σ H _ _ v u Q I rx ry h) (fun h => op_eqE hu pins s σ H _ _ v u Q I rx ry h))
theorem opu_ne (hu : X.A.units + 64 < cLine) : OpR X (compareOp .NotEq) (uNe X.K) := by
 intro pins s σ H x y v u Q I rx ry h
 exact h.elim (fun h => op_ne pins s σ H _ _ v u Q I rx ry h) (fun h => h.elim (fun h => op_neD hu pins s σ H _ _ v u Q I rx ry h) (fun h => op_neE hu pins s σ H _ _ v u Q I rx ry h))
theorem opu_lt : OpR X (compareOp .Lt) (uLt X.K) := by
 intro pins s σ H x y v u Q I rx ry h
 cases x <;> cases y <;> first
  | exact absurd h id
  | exact op_lt pins s σ H _ _ v u Q I rx ry ⟨_, _, rfl, rfl, h⟩
  | exact op_lt_str pins s σ H _ _ v u Q I rx ry ⟨_, _, rfl, rfl, h⟩
theorem opu_gt : OpR X (compareOp .Gt) uGt := by
 intro pins s σ H x y v u Q I rx ry h
 cases x <;> cases y <;> first
  | exact absurd h id
  | exact op_gt pins s σ H _ _ v u Q I rx ry ⟨_, _, rfl, rfl, h⟩
theorem opu_le : OpR X (compareOp .LtE) uLe := by
 intro pins s σ H x y v u Q I rx ry h
 cases x <;> cases y <;> first
  | exact absurd h id
  | exact op_le pins s σ H _ _ v u Q I rx ry ⟨_, _, rfl, rfl, h⟩
  | exact op_le_str pins s σ H _ _ v u Q I rx ry ⟨_, _, rfl, rfl, h⟩
theorem opu_in : OpR X (compareOp .In) (uIn X.K) := by
 intro pins s σ H x y v u Q I rx ry h
 cases x <;> cases y <;> first
  | exact op_in_str pins s σ H _ _ v u Q I rx ry ⟨_, _, rfl, rfl, h⟩
  | exact op_in_seq pins s σ H _ _ v u Q I rx ry h
theorem opu_notIn : OpR X (compareOp .NotIn) (uNotIn X.K) := by
 intro pins s σ H x y v u Q I rx ry h
 cases x <;> cases y <;> first
  | exact op_notin_str pins s σ H _ _ v u Q I rx ry ⟨_, _, rfl, rfl, h⟩
  | exact op_notIn_seq pins s σ H _ _ v u Q I rx ry h
end
end SL
set_option Elab.async false
set_option linter.all false
set_option maxRecDepth 100000
set_option maxHeartbeats 2000000
namespace SL
open PySem PySem.Spec PyProof.Rows L2
section
variable {K : PySem.W.Frag} {σ : L2.St} {H : Hp} {Q : VK} {R : Bool → Hp → Prop} {D : Ends} {v x y : V} {i : Nat} {ta tb tc te : TE} {t u : TT} {ts tu : TS} {r : R2} {G : TG}
theorem g_var (h : σ[i]? = some (some v)) (q : Q v H) : tVar i σ H Q := ⟨v, h, q⟩
theorem g_c (q : Q v H) : tC v σ H Q := q
theorem g_op (q : ta σ H fun x H1 => tb σ H1 fun y H2 => r x y H2 Q) : tOp r ta tb σ H Q := q
theorem g_un {ru : V → Hp → VK → Prop} (q : ta σ H fun x H1 => ru x H1 Q) : tUn ru ta σ H Q := q
theorem g_test (q : ta σ H fun x H' => ∃ k, x = .bl k ∧ R k H') : tTest ta σ H R := q
theorem g_B (q : ta σ H fun x H' => ∃ k, x = .bl k ∧ R k H') : tB ta σ H R := q
theorem g_k {A : Bool → Prop} {b : Bool} (q : A b) : ∃ k, V.bl b = V.bl k ∧ A k := ⟨b, rfl, q⟩
theorem g_and (q : t σ H fun c H1 => if c = true then u σ H1 R else R false H1) : tAnd t u σ H R := q
theorem g_or (q : t σ H fun c H1 => if c = true then R true H1 else u σ H1 R) : tOr t u σ H R := q
theorem g_not (q : t σ H fun c H1 => R (!c) H1) : tNot t σ H R := q
theorem g_ifE (q : t σ H fun c H1 => if c = true then ta σ H1 Q else tb σ H1 Q) : tIf t ta tb σ H Q := q
theorem g_seq (q : ts { D with nx := tu D } σ H) : tSeq ts tu D σ H := q
theorem g_asg (q : te σ H fun w H1 => G w σ H1 D.nx) : tAsg te G D σ H := q
theorem g_name {P : L2.St → Hp → Prop} (q : P (σ.set i (some v)) H) : gName i v σ H P := q
theorem g_sub {to ti : TE} {tset : TSet} {P : L2.St → Hp → Prop} (q : to σ H fun o H1 => ti σ H1 fun k H2 => tset o k v H2 fun H3 => P σ H3) : gSub to ti tset v σ H P := q
theorem g_if (q : t σ H fun b H1 => if b = true then ts D σ H1 else tu D σ H1) : tIfS t ts tu D σ H := q
theorem g_ret (q : te σ H D.rt) : tRet te D σ H := q
theorem g_next (q : D.nx σ H) : tNext D σ H := q
theorem g_drop (q : te σ H fun _ H1 => D.nx σ H1) : tDrop te D σ H := q
theorem g_nil {A : List V → Hp → Prop} (q : A [] H) : tNil σ H A := q
theorem g_cons {tr : TA} {A : List V → Hp → Prop} (q : ta σ H fun x H1 => tr σ H1 fun xs H2 => A (x :: xs) H2) : tCons ta tr σ H A := q
theorem g_tup {tl : TA} (q : tl σ H fun xs H1 => xs.length ≤ sizeLine ∧ ∀ p, H1 p = none → Q (.ref p) (upd H1 p (.tup xs))) : tTup tl σ H Q := q
theorem g_lst {tl : TA} (q : tl σ H fun xs H1 => xs.length ≤ sizeLine ∧ ∀ p, H1 p = none → Q (.ref p) (upd H1 p (.lst xs))) : tLst tl σ H Q := q
theorem g_cb {rc : List V → Hp → VK → Prop} {tl : TA} (q : tl σ H fun vs H1 => rc vs H1 Q) : tCB rc tl σ H Q := q
theorem g_call {sp : Sp} {dvs : List V} {E : XK} {tl : TA} (q : tl σ H fun vs H1 => sp (vs ++ dvs) H1 Q E) : tCall sp dvs E tl σ H Q := q
theorem g_sl {rs : V → Option Int → Option Int → Hp → VK → Prop} {tl th : TO} (q : te σ H fun x H1 => tl σ H1 fun l H2 => th σ H2 fun u H3 => rs x l u H3 Q) : tSl rs te tl th σ H Q := q
theorem g_noPart {A : Option Int → Hp → Prop} (q : A none H) : tNoPart σ H A := q
theorem g_part {A : Option Int → Hp → Prop} (q : te σ H fun x H1 => ∃ i, x = .int i ∧ A (some i) H1) : tPart te σ H A := q
theorem g_ki {A : Int → Prop} {i : Int} (q : A i) : ∃ k, V.int i = V.int k ∧ A k := ⟨i, rfl, q⟩
theorem g_for {wi : TI} (q : wi σ H fun J H1 => ∃ W : Nat → Nat → L2.St → Hp → Prop, (∃ m, W 0 m σ H1) ∧ ∀ i m σ H, W i m σ H →
 (J.stop i H ∧ D.nx σ H) ∨ (J.go i H ∧ ∃ N : L2.St → Hp → Prop, (∀ σ' H', N σ' H' → ∃ m', m' < m ∧ W (i + 1) m' σ' H') ∧ ∀ x H', J.yld i H x H' → G x σ H' fun σ2 H2 => ts { D with nx := N, ct := N, bk := D.nx } σ2 H2)) : tFor wi G ts D σ H := q
theorem g_iR1 {tl : TA} {S : It → Hp → Prop} (q : tl σ H fun vs H1 => ∃ j : Int, vs = [.int j] ∧ -(2 ^ 62) ≤ j ∧ j < 2 ^ 62 ∧ S (Itr 0 j.toNat) H1) : iRng1 tl σ H S := q
theorem g_iR2 {tl : TA} {S : It → Hp → Prop} (q : tl σ H fun vs H1 => ∃ i j : Int, vs = [.int i, .int j] ∧ (-(2 ^ 62) ≤ i ∧ i < 2 ^ 62 ∧ -(2 ^ 62) ≤ j ∧ j < 2 ^ 62) ∧ S (Itr i (j - i).toNat) H1) : iRng2 tl σ H S := q
theorem g_iL {S : It → Hp → Prop} (q : te σ H fun x H1 => ∃ a, x = .ref a ∧ (∃ xs, SqL K H1 a xs) ∧ S (Itl K a) H1) : iList K te σ H S := q
theorem g_iT {S : It → Hp → Prop} (q : te σ H fun x H1 => ∃ a, x = .ref a ∧ (∃ xs, SqT K H1 a xs) ∧ S (Itt K a) H1) : iTup K te σ H S := q
theorem g_lc {wi : TI} {vs : List Nat} (q : wi σ H fun J H1 => ∀ D, H1 D = none → ∃ W : Nat → Nat → Hp → Prop, (∃ m, W 0 m (upd H1 D (.lst []))) ∧ ∀ i m H, W i m H →
 (J.stop i H ∧ Q (.ref D) H) ∨ (J.go i H ∧ ∃ Nx : Hp → Prop, (∀ H', Nx H' → ∃ m', m' < m ∧ W (i + 1) m' H') ∧ ∀ x H', J.yld i H x H' → G x (wipe σ vs) H' fun σ2 H2 => wipe σ2 vs = wipe σ vs ∧ t σ2 H2 fun b H3 =>
  if b = true then te σ2 H3 fun y H4 => ∃ acc, H4 D = some (.lst acc) ∧ acc.length < sizeLine ∧ Nx (upd H4 D (.lst (acc ++ [y]))) else Nx H3)) : tLc wi G t te vs σ H Q := q
theorem g_gtup {p : Addr} {xs : List V} {n : Nat} {tt : TGs} {P : L2.St → Hp → Prop} (h : SqT K H p xs) (hl : xs.length = n) (q : tt xs σ H P) : gTup K n tt (.ref p) σ H P := ⟨p, xs, rfl, h, hl, q⟩
theorem g_gcons {xs : List V} {tt : TGs} {P : L2.St → Hp → Prop} (q : G v σ H fun σ' H' => tt xs σ' H' P) : gCons G tt (v :: xs) σ H P := ⟨v, xs, rfl, q⟩
theorem g_gnil {P : L2.St → Hp → Prop} (q : P σ H) : gNil [] σ H P := ⟨rfl, q⟩
theorem g_yes (q : R true H) : tYes σ H R := q
theorem g_andT (q : ta σ H fun x H1 => ∃ k, TruV K x H1 k ∧ if k = true then tb σ H1 Q else Q x H1) : tAndT K ta tb σ H Q := q
theorem g_orT (q : ta σ H fun x H1 => ∃ k, TruV K x H1 k ∧ if k = true then Q x H1 else tb σ H1 Q) : tOrT K ta tb σ H Q := q
theorem g_notT (q : ta σ H fun x H1 => ∃ k, TruV K x H1 k ∧ Q (.bl (!k)) H1) : tNotT K ta σ H Q := q
theorem g_truB {A : Bool → Prop} {b : Bool} (q : A b) : ∃ k, TruV K (.bl b) H k ∧ A k := ⟨b, rfl, q⟩
theorem g_addI {i j : Int} (q : Q (.int (i + j)) H) : uAdd K (.int i) (.int j) H Q := q
theorem g_addS {a b : Str} (h : a.length + b.length ≤ sizeLine) (q : Q (.str (a ++ b)) H) : uAdd K (.str a) (.str b) H Q := ⟨h, q⟩
theorem g_addL {a b : Addr} {xs ys : List V} (h : H a = some (.lst xs)) (h2 : H b = some (.lst ys)) (hs : xs.length + ys.length ≤ sizeLine) (q : ∀ p, H p = none → Q (.ref p) (upd H p (.lst (xs ++ ys)))) : uAdd K (.ref a) (.ref b) H Q :=
 .inl ⟨a, b, xs, ys, rfl, rfl, h, h2, hs, q⟩
theorem g_subI {i j : Int} (q : Q (.int (i - j)) H) : uSub (.int i) (.int j) H Q := q
theorem g_mulI {i j : Int} (h : IntMulOk i j) (q : Q (.int (i * j)) H) : uMul (.int i) (.int j) H Q := ⟨h, q⟩
theorem g_divI {i j : Int} (h : CDivW i j) (q : Q (.int (i / j)) H) : uDiv (.int i) (.int j) H Q := ⟨h, q⟩
theorem g_modI {i j : Int} (h : 0 < j) (q : Q (.int (i % j)) H) : uMod (.int i) (.int j) H Q := ⟨h, q⟩
theorem g_powI {i j : Int} (h : CPow i j) (q : Q (.int (i ^ j.toNat)) H) : uPow (.int i) (.int j) H Q := ⟨h, q⟩
theorem g_ltI {i j : Int} (q : Q (.bl (decide (i < j))) H) : uLt K (.int i) (.int j) H Q := q
theorem g_gtI {i j : Int} (q : Q (.bl (decide (j < i))) H) : uGt (.int i) (.int j) H Q := q
theorem g_leI {i j : Int} (q : Q (.bl (decide (i ≤ j))) H) : uLe (.int i) (.int j) H Q := q
theorem g_geI {i j : Int} (q : Q (.bl (decide (j ≤ i))) H) : uGe (.int i) (.int j) H Q := q
theorem dec_i {i j : Int} : decide (V.int i = V.int j) = decide (i = j) := by
 by_cases h : i = j
 ·rw [decide_eq_true h, h]; exact decide_eq_true rfl
 ·rw [decide_eq_false h]; exact decide_eq_false fun z => h (V.int.inj z)
theorem dec_s {i j : Str} : decide (V.str i = V.str j) = decide (i = j) := by
 by_cases h : i = j
 ·rw [decide_eq_true h, h]; exact decide_eq_true rfl
 ·rw [decide_eq_false h]; exact decide_eq_false fun z => h (V.str.inj z)
theorem dec_b {i j : Bool} : decide (V.bl i = V.bl j) = decide (i = j) := by
 by_cases h : i = j
 ·rw [decide_eq_true h, h]; exact decide_eq_true rfl
 ·rw [decide_eq_false h]; exact decide_eq_false fun z => h (V.bl.inj z)
theorem g_eqI {i j : Int} (q : Q (.bl (decide (i = j))) H) : uEq K (.int i) (.int j) H Q := .inl ⟨rfl, by rw [dec_i]; exact q⟩
theorem g_eqS {i j : Str} (q : Q (.bl (decide (i = j))) H) : uEq K (.str i) (.str j) H Q := .inl ⟨rfl, by rw [dec_s]; exact q⟩
theorem g_eqB {i j : Bool} (q : Q (.bl (decide (i = j))) H) : uEq K (.bl i) (.bl j) H Q := .inl ⟨rfl, by rw [dec_b]; exact q⟩
theorem g_eqD {d e : PyData} (h : Dp K H x d) (h2 : Dp K H y e) (hs : SeqAt.shaped d = true) (hs2 : SeqAt.shaped e = true) (q : Q (.bl (PyData.eqv d e)) H) : uEq K x y H Q := .inr (.inl ⟨d, e, h, h2, hs, hs2, q⟩)
theorem g_neI {i j : Int} (q : Q (.bl (!decide (i = j))) H) : uNe K (.int i) (.int j) H Q := .inl ⟨rfl, by rw [dec_i]; exact q⟩
theorem g_neS {i j : Str} (q : Q (.bl (!decide (i = j))) H) : uNe K (.str i) (.str j) H Q := .inl ⟨rfl, by rw [dec_s]; exact q⟩
theorem g_neB {i j : Bool} (q : Q (.bl (!decide (i = j))) H) : uNe K (.bl i) (.bl j) H Q := .inl ⟨rfl, by rw [dec_b]; exact q⟩
theorem g_eqEL {a b : Addr} {xs : List V} (h : SqL K H a xs) (h2 : SqL K H b []) (q : Q (.bl (decide (xs = []))) H) : uEq K (.ref a) (.ref b) H Q := .inr (.inr (.inr (.inl ⟨a, b, xs, rfl, rfl, h, h2, q⟩)))
theorem g_neEL {a b : Addr} {xs : List V} (h : SqL K H a xs) (h2 : SqL K H b []) (q : Q (.bl (!decide (xs = []))) H) : uNe K (.ref a) (.ref b) H Q := .inr (.inr (.inr (.inl ⟨a, b, xs, rfl, rfl, h, h2, q⟩)))
theorem g_ixL {p : Addr} {xs : List V} {i : Int} (h : SqL K H p xs) (e : atI xs i = some v) (q : Q v H) : rIx K (.ref p) (.int i) H Q := .inl ⟨p, xs, i, v, rfl, rfl, h, e, q⟩
theorem g_ixT {p : Addr} {xs : List V} {i : Int} (h : SqT K H p xs) (e : atI xs i = some v) (q : Q v H) : rIx K (.ref p) (.int i) H Q := .inr (.inl ⟨p, xs, i, v, rfl, rfl, h, e, q⟩)
theorem g_ixS {z : Str} {i : Int} {c : Nat} (h : z.length ≤ sizeLine) (e : atI z.cps.toList i = some c) (q : Q (.str ⟨#[c]⟩) H) : rIx K (.str z) (.int i) H Q := .inr (.inr ⟨z, i, c, rfl, rfl, h, e, q⟩)
theorem g_setL {p : Addr} {xs : List V} {k : Int} {j : Nat} {P : Hp → Prop} (h : H p = some (.lst xs)) (e : ixN xs.length k = some j) (q : P (upd H p (.lst (xs.set j v)))) : rSetL (.ref p) (.int k) v H P := ⟨p, xs, k, j, rfl, rfl, h, e, q⟩
theorem g_slL {p : Addr} {xs : List V} {lo hi : Option Int} (h : SqL K H p xs) (q : ∀ p, H p = none → Q (.ref p) (upd H p (.lst (cutV xs lo hi)))) : rSlL K (.ref p) lo hi H Q := ⟨p, xs, rfl, h, q⟩
theorem cut0 (xs : List V) (n : Nat) : cutV xs none (some (n : Int)) = xs.take n := by
 unfold cutV
 rw [HT.sIx_none, HT.sIx_nat, List.drop_zero, Nat.sub_zero]
 by_cases h : n ≤ xs.length
 ·rw [Nat.min_eq_left h]
 ·rw [Nat.min_eq_right (by omega), List.take_length, List.take_of_length_le (by omega)]
theorem cutA (xs : List V) (n : Nat) : cutV xs (some (n : Int)) none = xs.drop n := by
 unfold cutV
 rw [HT.sIx_none, HT.sIx_nat]
 by_cases h : n ≤ xs.length
 ·rw [Nat.min_eq_left h, ← List.length_drop, List.take_length]
 ·rw [Nat.min_eq_right (by omega), Nat.sub_self, List.take_zero, List.drop_eq_nil_of_le (by omega)]
theorem rd_start {tm : TS} {N : List Str} {vs : List V} {σ0 : L2.St} (e : start N vs = σ0) (q : tm D σ0 H) : tm D (start N vs) H := by rw [e]; exact q
theorem lt_of {n : Nat} (h : n ≤ 100000) : n < sizeLine := Nat.lt_of_le_of_lt h (by decide)
theorem le_of {n : Nat} (h : n ≤ 100000) : n ≤ sizeLine := Nat.le_trans h (by decide)
theorem g_tt {c : Bool} {A B : Prop} (h : c = true) (q : A) : if c = true then A else B := by rw [if_pos h]; exact q
theorem g_ff {c : Bool} {A B : Prop} (h : c = false) (q : B) : if c = true then A else B := by rw [if_neg (by rw [h]; exact Bool.false_ne_true)]; exact q
theorem g_by {c : Prop} [Decidable c] {A B : Prop} (h1 : c → A) (h2 : ¬ c → B) : if decide c = true then A else B := by
 by_cases h : c
 ·exact g_tt (decide_eq_true h) (h1 h)
 ·exact g_ff (decide_eq_false h) (h2 h)
theorem g_byN {c : Prop} [Decidable c] {A B : Prop} (h1 : ¬ c → A) (h2 : c → B) : if (!decide c) = true then A else B := by
 by_cases h : c
 ·exact g_ff (by rw [decide_eq_true h]; rfl) (h2 h)
 ·exact g_tt (by rw [decide_eq_false h]; rfl) (h1 h)
theorem g_byB {c : Bool} {A B : Prop} (h1 : c = true → A) (h2 : c = false → B) : if c = true then A else B := by
 cases c with
 | true => exact h1 rfl
 | false => exact h2 rfl
theorem mulR {i j : Int} (h1 : -(2 ^ 64) < j) (h2 : j < 2 ^ 64) : IntMulOk i j := .of_right (intBits_le_64 h1 h2)
theorem mulL {i j : Int} (h1 : -(2 ^ 64) < i) (h2 : i < 2 ^ 64) : IntMulOk i j := .of_left (intBits_le_64 h1 h2)
theorem divS {i j : Int} (h : 0 < j) (h2 : j < 2 ^ 200) : CDivW i j := by
 refine ⟨h, ?_⟩
 have e : j.natAbs < 2 ^ 200 := by omega
 exact Nat.lt_of_lt_of_le (PySem.Flt.log2_lt_of (by decide) e) (by decide)
end
end SL
set_option Elab.async false
set_option linter.all false
set_option maxRecDepth 100000
set_option maxHeartbeats 2000000
namespace SL
open PySem PySem.Spec PyProof.Rows L2
structure Cal (P : Program) (w : World) (K : PySem.W.Frag) (mg : Str → Option Value) (base : Heap) (k : Nat) (x : Str) (sp : Sp) : Prop where
 ex : ∃ (f : Addr) (fd : FuncData) (ps : List Str), FnOk P w K mg base CX0 k f fd ps sp ∧ mg x = some (.ref f) ∧ PySem.W.keepIn K (.ref f) = true ∧ Binds K fd ps []
section
variable {P : Program} {w : World} {K : PySem.W.Frag} {mg : Str → Option Value} {base : Heap}
theorem Cal.mono {j k : Nat} {x : Str} {sp : Sp} (c : Cal P w K mg base j x sp) (h : j ≤ k) : Cal P w K mg base k x sp := by
 obtain ⟨f, fd, ps, F, m, kp, b⟩ := c.ex
 exact ⟨f, fd, ps, F.mono h, m, kp, b⟩
theorem Cal.imp {k : Nat} {x : Str} {sp sp' : Sp} (c : Cal P w K mg base k x sp) (h : ∀ vs H Q E, sp' vs H Q E → sp vs H Q E) : Cal P w K mg base k x sp' := by
 obtain ⟨f, fd, ps, F, m, kp, b⟩ := c.ex
 exact ⟨f, fd, ps, F.imp h, m, kp, b⟩
end
section
variable {X : Cx} {k j : Nat} {x : Str} {sp : Sp} {p pos : Pos} {e : Expr} {es : List Expr} {t : TA}
def uLen (K : PySem.W.Frag) : List V → Hp → VK → Prop := fun xs H Q => ∃ x, xs = [x] ∧ match x with
 | .str z => z.length ≤ sizeLine ∧ Q (.int z.length) H
 | .ref p => (∃ ys, (SqL K H p ys ∨ SqT K H p ys) ∧ Q (.int ys.length) H) ∨ ∃ kvs, H p = some (.dK kvs) ∧ Q (.int kvs.length) H
 | _ => False
theorem callu_len : CallR X (.builtin "len") (uLen X.K) := by
  intro pins s σ H xs us Q I r h
  obtain ⟨x, rfl, h⟩ := h
  cases x <;> first
    | exact absurd h id
    | exact call_len_str pins s σ H _ us Q I r ⟨_, rfl, h.1, h.2⟩
    | (rcases h with ⟨ys, h1, h2⟩ | ⟨kvs, h1, h2⟩
       · exact call_len_seq pins s σ H _ us Q I r ⟨_, ys, rfl, h1, h2⟩
       · obtain ⟨u, rfl, r1⟩ := vals1 r
         cases r1
         exact d_len I (.inl h1) fun t s' I' => ⟨.int _, H, I', ⟨_, rfl⟩, h2⟩)
def uList (K : PySem.W.Frag) : List V → Hp → VK → Prop := fun xs H Q => (∃ p ys, xs = [.ref p] ∧ (SqL K H p ys ∨ SqT K H p ys) ∧ ∀ l, H l = none → Q (.ref l) (upd H l (.lst ys))) ∨ rListD xs H Q
theorem callu_list (hc : X.calm = true := by rfl) : CallR X (.type "list") (uList X.K) := call_list_of.or (call_list_dK hc)
end
section
variable {K : PySem.W.Frag} {H : Hp} {Q : VK}
theorem g_len {p : Addr} {ys : List V} (h : SqL K H p ys ∨ SqT K H p ys) (q : Q (.int ys.length) H) : uLen K [.ref p] H Q := ⟨_, rfl, .inl ⟨ys, h, q⟩⟩
theorem g_list {p : Addr} {ys : List V} (h : SqL K H p ys ∨ SqT K H p ys) (q : ∀ l, H l = none → Q (.ref l) (upd H l (.lst ys))) : uList K [.ref p] H Q := .inl ⟨p, ys, rfl, h, q⟩
theorem g_listD {p : Addr} {kvs : List (Key × V)} (h : H p = some (.dK kvs)) (q : ∀ l, H l = none → Q (.ref l) (upd H l (.lst (kvs.map fun kv => kV kv.1)))) : uList K [.ref p] H Q := .inr ⟨p, kvs, rfl, h, q⟩
end
end SL
namespace SL
open PySem PySem.Spec PyProof.Rows L2
section
variable {K : PySem.W.Frag} {H : Hp} {Q : VK} {x : V}
end
section
variable {K : PySem.W.Frag} {H H' : Hp} {M : List Addr}
mutual
theorem dp_same (e : Same H H') : ∀ {v : V} {d : PyData}, Dp K H v d → Dp K H' v d
 | _, _, .non => .non
 | _, _, .bl b => .bl b
 | _, _, .int i => .int i
 | _, _, .str x => .str x
 | _, _, .lst h hs => .lst (e.seq h) (dpa_same e hs)
 | _, _, .tup h hs => .tup ((Fr.of_same (M := []) e).tup h) (dpa_same e hs)
theorem dpa_same (e : Same H H') : ∀ {vs : List V} {ds : List PyData}, DpAll K H vs ds → DpAll K H' vs ds
 | _, _, .nil => .nil
 | _, _, .cons h hs => .cons (dp_same e h) (dpa_same e hs)
end
end
end SL
namespace SL
open PySem PySem.Spec PyProof.Rows L2
section
variable {K : PySem.W.Frag} {σ : L2.St} {H : Hp} {a b : Addr} {xs ys : List V}
theorem g_izA {tl : TA} {S : It → Hp → Prop} (q : tl σ H fun vs H1 => ∃ a b xs ys, vs = [.ref a, .ref b] ∧ ((SqL K H1 a xs ∧ SqL K H1 b ys ∧ S (Itz K a b) H1) ∨ (SqT K H1 a xs ∧ SqT K H1 b ys ∧ S (RZ.ItzT K a b) H1))) : RZ.iZipA K tl σ H S := q
theorem g_iz {tl : TA} {S : It → Hp → Prop} (q : tl σ H fun vs H1 => ∃ a b xs ys, vs = [.ref a, .ref b] ∧ SqL K H1 a xs ∧ SqL K H1 b ys ∧ S (Itz K a b) H1) : iZip K tl σ H S := q
end
end SL
set_option Elab.async false
set_option linter.all false
set_option maxRecDepth 100000
set_option maxHeartbeats 2000000
namespace SL
open PySem PySem.Spec PyProof.Rows L2
structure RoomG (k : Nat) (A : Around) : Prop where
 rm : Room k A
 gd : A.guards = some []
theorem RoomG.mono {j k : Nat} {A : Around} (r : RoomG k A) (h : j ≤ k) : RoomG j A := ⟨r.rm.mono h, r.gd⟩
theorem RoomG.units {k : Nat} {A : Around} (r : RoomG k A) : A.units + 64 < cLine := r.rm.units
structure FnG (P : Program) (w : World) (K : PySem.W.Frag) (mg : Str → Option Value) (base : Heap) (CX : CXT) (k : Nat) (f : Addr) (fd : FuncData) (ps : List Str) (sp : Sp) : Prop where
 len : ∀ vs H Q E, sp vs H Q E → vs.length = ps.length
 go : ∀ (A : Around) (outer : List Env) (s : Shared) (H : Hp) (args : Args) (us : List Value) (vs : List V) (Q : VK) (E : XK), RoomG k A →
  Env0 P w K mg base A outer s H → BindsTo s fd args (ps.zip us) → Vals vs us → sp vs H Q E → codeAny (model P w) A (.call (.ref f) args) (CR CX outer P w H s Q E) s
section
variable {P : Program} {w : World} {K : PySem.W.Frag} {mg : Str → Option Value} {base : Heap} {CX : CXT}
theorem FnG.up {j k : Nat} {f : Addr} {fd : FuncData} {ps : List Str} {sp : Sp} (F : FnG P w K mg base CX j f fd ps sp) (h : j ≤ k) : FnG P w K mg base CX k f fd ps sp :=
 ⟨F.len, fun A outer s H args us vs Q E r => F.go A outer s H args us vs Q E (r.mono h)⟩
theorem FnG.imp {k : Nat} {f : Addr} {fd : FuncData} {ps : List Str} {sp sp' : Sp} (F : FnG P w K mg base CX k f fd ps sp) (h : ∀ vs H Q E, sp' vs H Q E → sp vs H Q E) : FnG P w K mg base CX k f fd ps sp' :=
 ⟨fun vs H Q E z => F.len vs H Q E (h vs H Q E z), fun A outer s H args us vs Q E r e b v z => F.go A outer s H args us vs Q E r e b v (h vs H Q E z)⟩
theorem fng_of {k : Nat} {f : Addr} {x qual : Str} {pr : Arguments} {bd : List Stmt} {sc : Scope} {dV kV doc pm cdv ct oc : Value} {an od : Option Addr} {osl : Array (Option Value)} {N ps : List Str} {sp : Sp}
  (lk : K.lookup f = some ⟨oc, od, .func (PySem.W.fnOf x qual pr bd sc dV kV doc pm an cdv ct), osl⟩) (hcd : PySem.W.codeIn K cdv qual = true) (S : FnScope N ps sc) (hlen : ∀ vs H Q E, sp vs H Q E → vs.length = ps.length)
  (hb : ∀ (A : Around) (outer : List Env) (s : Shared) (H : Hp) (vs : List V) (Q : VK) (E : XK), RoomG k (A.deeper (envOfC qual sc s.heap.objs.size f cdv)) → sp vs H Q E →
   ∃ t, PSs (cxOf CX P w K mg base N qual sc f cdv A outer s H E) bd t ∧ t { nx := fun _ H' => Q .non H', rt := Q } (start N vs) H) :
  FnG P w K mg base CX (k + 1) f (PySem.W.fnOf x qual pr bd sc dV kV doc pm an cdv ct) ps sp := by
 constructor
 ·exact hlen
 intro A outer s H args us vs Q E hr env0 hbind rel hsp
 have nl := hlen _ _ _ _ hsp
 have inH : K.In s.heap := env0.mod.kin.keeps fun b o z => (env0.bs b o z).1
 have nolim : s.heap.NoLimit := env0.mod.nolimit.keeps fun b o z => (env0.bs b o z).1
 have kinds : ∀ y ∈ ps.zip us, sc.names.lookup y.1 = some .local ∨ (sc.names.lookup y.1 = some .cell ∧ ((cellsFrom (s.heap.objs.size + 1) sc.names []).lookup y.1).isSome = true) := by
  rintro ⟨n, v⟩ hy
  exact (S.par n (List.of_mem_zip hy).1).imp id fun q => ⟨q, PySem.W.cellsFrom_some _ _ _ (.inl q)⟩
 refine codeAny_call_function hr.rm.depth (inH _ _ lk) rfl S.co S.gen rfl (PySem.W.codeRec_of inH hcd) (hbind _ _ _ _ (wpAny_newFunctionEnv_cells S.kind kinds fun en hen s1 ic => ?_))
 subst hen
 refine ⟨nolim.keeps ic.toInCall.keep, codeAny_func ?_⟩
 obtain ⟨t, ht, hq⟩ := hb A outer s H vs Q E ⟨hr.rm.deeper _, hr.gd⟩ hsp
 have J0 : Inv (cxOf CX P w K mg base N qual sc f cdv A outer s H E) [] (start N vs) H s1 := inv_start S hr.rm.hd env0 nl rel ic
 refine wpAny_mono (ht.run [] s1 (start N vs) H _ J0 hq) (fun fl s2 h2 => ?_) fun e s2 h2 => h2
 cases fl with
 | next =>
  obtain ⟨σ2, H2, J, q2⟩ := h2
  exact ⟨V.non, H2, J.os, J.bare, J.base, J.hok, rfl, q2⟩
 | ret u =>
  obtain ⟨v, σ2, H2, J, rv, q2⟩ := h2
  exact ⟨v, H2, J.os, J.bare, J.base, J.hok, rv, q2⟩
 | brk => exact h2.elim fun _ z => z.elim fun _ z => z.2.elim
 | cont => exact h2.elim fun _ z => z.elim fun _ z => z.2.elim
theorem okG {x qual : Str} {pr : Arguments} {bd : List Stmt} {sc : Scope} {dvs : List V} {kws : List (Str × V)} {f : Addr} {fd : FuncData} {N ps : List Str} {k : Nat} {sp : Sp} (F : FunD K x qual pr bd sc dvs kws f fd) (S : FnScope N ps sc) (hlen : ∀ vs H Q E, sp vs H Q E → vs.length = ps.length)
  (hb : ∀ (cdv : Value) (A : Around) (outer : List Env) (s : Shared) (H : Hp) (vs : List V) (Q : VK) (E : XK), RoomG k (A.deeper (envOfC qual sc s.heap.objs.size f cdv)) → sp vs H Q E →
   ∃ t, PSs (cxOf CX P w K mg base N qual sc f cdv A outer s H E) bd t ∧ t { nx := fun _ H' => Q .non H', rt := Q } (start N vs) H) : FnG P w K mg base CX (k + 1) f fd ps sp := by
 obtain ⟨oc, od, dV, kV, doc, pm, an, cdv, ct, osl, rfl, lk, hcd, _, _⟩ := F.ex
 exact fng_of lk hcd S hlen fun A outer s H vs Q E hr hsp => hb cdv A outer s H vs Q E hr hsp
structure CalG (P : Program) (w : World) (K : PySem.W.Frag) (mg : Str → Option Value) (base : Heap) (k : Nat) (x : Str) (sp : Sp) : Prop where
 ex : ∃ (f : Addr) (fd : FuncData) (ps : List Str), FnG P w K mg base CX0 k f fd ps sp ∧ mg x = some (.ref f) ∧ PySem.W.keepIn K (.ref f) = true ∧ Binds K fd ps []
theorem CalG.mono {j k : Nat} {x : Str} {sp : Sp} (c : CalG P w K mg base j x sp) (h : j ≤ k) : CalG P w K mg base k x sp := by
 obtain ⟨f, fd, ps, F, m, kp, b⟩ := c.ex
 exact ⟨f, fd, ps, F.up h, m, kp, b⟩
theorem CalG.imp {k : Nat} {x : Str} {sp sp' : Sp} (c : CalG P w K mg base k x sp) (h : ∀ vs H Q E, sp' vs H Q E → sp vs H Q E) : CalG P w K mg base k x sp' := by
 obtain ⟨f, fd, ps, F, m, kp, b⟩ := c.ex
 exact ⟨f, fd, ps, F.imp h, m, kp, b⟩
end
section
variable {X : Cx} {k j : Nat} {x : Str} {sp : Sp} {p pos : Pos} {e : Expr} {es : List Expr} {t : TA}
theorem run_fng {CX : CXT} {f : Addr} {fd : FuncData} {ps : List Str} {dvs : List V} {ds : List Value} {E : XK} {pins : List (Addr × Obj)} {σ : L2.St} {H : Hp} {s : Shared} {Q : VK} {us : List Value} {vs : List V}
  (F : FnG X.prog X.w X.K X.mg X.base CX k f fd ps sp) (hr : RoomG k X.A) (hb : Binds X.K fd ps ds) (hd : Vals dvs ds) (hx : Passes CX X E) (I : Inv X pins σ H s) (r : Vals vs us) (h : sp (vs ++ dvs) H Q E) :
  wpAny (model X.prog X.w) X.A (call (.ref f) us) (EP X pins σ Q) X.xe s := by
 have rel : Vals (vs ++ dvs) (us ++ ds) := r.append hd
 have ln : (us ++ ds).length = ps.length := rel.length.symm.trans (F.len _ _ _ _ h)
 refine wpAny_call (codeAny_mono (F.go X.A X.stack s H ⟨us, []⟩ (us ++ ds) (vs ++ dvs) Q E hr I.env0 (hb s us I.kIn ln) rel h) fun res s2 hq => ?_)
 cases res with
 | ok fl =>
  cases fl with
  | ret u => exact I.after hq
  | _ => exact hq.elim
 | error z => exact hx pins σ H s z s2 I hq
theorem pe_calG (c : CalG X.prog X.w X.K X.mg X.base k x sp) (hr : RoomG j X.A) (hg : Gl X x) (ha : PA X (e :: es) t) (hk : k ≤ j := by first | decide | omega)
  (hdb : (x == ("__debug__" : Str)) = false := by decide) (hst : starEach (e :: es) X.env = (false, eval e X.env) :: starEach es X.env := by rfl) (hnp : (backTo pos (starEach es X.env)).any (·.1) = false := by rfl) :
  PE X (.Call (.Name x p) (e :: es) [] pos) (tCall sp [] E0 t) := by
 obtain ⟨f, fd, ps, F, hm, kp, b⟩ := c.ex
 constructor
 intro pins s σ H Q I h
 refine wpAny_Call_Name_kw (ld_glob I hg hm (PySem.W.callWith_K (h₀ := X.base) I.ok.mod.kin kp (thn (ha.run pos pins s σ H _ I h) fun us s1 z => ?_) hst hnp) hdb)
 obtain ⟨vs, H1, I1, r, q⟩ := z
 exact ⟨I1.kIn, run_fng F (hr.mono hk) b .nil pass0 I1 r q⟩
end
theorem calG_of {P : Program} {w : World} {K : PySem.W.Frag} {mg : Str → Option Value} {base : Heap} {k : Nat} {x : Str} {sp : Sp} {f : Addr} {fd : FuncData} {ps : List Str} (F : FnG P w K mg base CX0 k f fd ps sp) (m : mg x = some (.ref f)) (kp : PySem.W.keepIn K (.ref f) = true) (b : Binds K fd ps []) : CalG P w K mg base k x sp := ⟨f, fd, ps, F, m, kp, b⟩
def scrO (vs : List Value) : Obj := { cls := .type "list", data := .seq vs.toArray }
theorem law_from {P : Program} {w : World} {K : PySem.W.Frag} {mg mb : Str → Option Value} {k : Nat} {fa a : Addr} {fd : FuncData} {x : Str} {sp : Sp} {s : Shared} {vs : List Value} {H : Hp}
  (kin : K.In s.heap) (gns : s.heap.Ns mainGlobals mg) (bns : s.heap.Ns builtinsNs mb) (bok : ∀ x : Str, x ≠ "__name__" → mb x = bootBuiltins x) (nolim : s.heap.NoLimit) (nog : s.gens = #[]) (scr : s.heap.get? a = some (scrO vs)) (hr : RoomG k callerA)
  (F : ∀ base : Heap, K.In base → base.Ns mainGlobals mg → FnG P w K mg base CX0 k fa fd [x] sp) (hbind : ∀ (s : Shared) (u : Value), BindsTo s fd ⟨[u], []⟩ [(x, u)])
  (hsp : sp [.ref a] H (fun v _ => v = .bl true) fun _ _ _ => False) (hO : Only H) (hok : HOk P w H s.heap) (hA : ∀ b, H b ≠ none → b = a) (hK : H a ≠ none → K.lookup a = none) :
  codeAny (model P w) callerA (.call (.ref fa) ⟨[.ref a], []⟩) (fun r s2 => r = .ok (.ret (.bool true)) ∧ OldK s.heap s2.heap ∧ s2.os = s.os ∧ AllBare s2.gens) s := by
 have dfree : ∀ {b : Addr} {o : Obj} {es : Array DictEntry} {ep : Nat}, s.heap.get? b = some o → o.data = .dict es ep → H b = none := by
  intro b o es ep h1 h2
  cases q : H b with
  | none => rfl
  | some u =>
   have hb : b = a := hA b (by rw [q]; exact fun z => nomatch z)
   rw [hb, scr] at h1
   cases h1
   cases h2
 have nsH : ∀ {b : Addr} {m : Str → Option Value}, s.heap.Ns b m → (hidT s.heap H).Ns b m := by
  rintro b m ⟨o, es, ep, h1, h2, h3⟩
  exact ⟨o, es, ep, hidT_get h1 (dfree h1 h2), h2, h3⟩
 have kH : K.In (hidT s.heap H) := by
  intro b o h1
  refine hidT_get (kin b o h1) ?_
  cases q : H b with
  | none => rfl
  | some u =>
   have hb : b = a := hA b (by rw [q]; exact fun z => nomatch z)
   rw [hb] at h1 q
   rw [hK (by rw [q]; exact fun z => nomatch z)] at h1
   cases h1
 obtain ⟨mc, l1, l2⟩ := nolim
 have md : Mod K mg (hidT s.heap H) := ⟨kH, nsH gns, ⟨mb, nsH bns, bok⟩, ⟨mc, nsH l1, l2⟩⟩
 have env : Env0 P w K mg (hidT s.heap H) callerA [] s H := ⟨rfl, md, fun _ _ z => of_hidT z, Nat.le_of_eq (hidT_size _ _), trivial, fun b hb => (nomatch (show b ∈ ([] : List Addr) from hb)), hok, .of_eq nog⟩
 refine codeAny_mono ((F _ kH (nsH gns)).go callerA [] s H ⟨[.ref a], []⟩ [.ref a] [.ref a] _ _ hr env (hbind s (.ref a)) (.cons rfl .nil) hsp) fun r s2 h => ?_
 cases r with
 | error z => exact h.elim
 | ok fl =>
  cases fl with
  | ret u =>
   obtain ⟨v, H2, os, bare, un, hok2, rv, q⟩ := h
   have q1 : v = .bl true := q
   rw [q1] at rv
   have ru : u = Value.bool true := rv
   rw [ru]
   refine ⟨rfl, OldK.of_keep fun b o h1 => ?_, os, bare⟩
   rcases hO b with z | ⟨ob, xs, z⟩
   ·exact un.keep b o h1 z (fun y => nomatch (show b ∈ ([] : List Addr) from y)) (fun y => nomatch y)
   ·obtain ⟨g1, _⟩ := hok b _ z
    obtain ⟨g2, _⟩ := hok2 b _ (un.frzs b ob _ z)
    rw [h1] at g1
    cases g1
    exact g2
  | _ => exact h.elim
theorem law_run {P : Program} {w : World} {K : PySem.W.Frag} {mg mb : Str → Option Value} {k : Nat} {fa a : Addr} {fd : FuncData} {x : Str} {sp : Sp} {s : Shared} {vs : List Value} {ns : List Int}
  (kin : K.In s.heap) (gns : s.heap.Ns mainGlobals mg) (bns : s.heap.Ns builtinsNs mb) (bok : ∀ x : Str, x ≠ "__name__" → mb x = bootBuiltins x) (nolim : s.heap.NoLimit) (nog : s.gens = #[]) (scr : s.heap.get? a = some (scrO vs)) (hin : IntsAre vs ns) (small : ns.length ≤ sizeLine) (hr : RoomG k callerA)
  (F : ∀ base : Heap, K.In base → base.Ns mainGlobals mg → FnG P w K mg base CX0 k fa fd [x] sp) (hbind : ∀ (s : Shared) (u : Value), BindsTo s fd ⟨[u], []⟩ [(x, u)])
  (hsp : ∀ H : Hp, Only H → SqL K H a (ns.map V.int) → sp [.ref a] H (fun v _ => v = .bl true) fun _ _ _ => False) :
  codeAny (model P w) callerA (.call (.ref fa) ⟨[.ref a], []⟩) (fun r s2 => r = .ok (.ret (.bool true)) ∧ OldK s.heap s2.heap ∧ s2.os = s.os ∧ AllBare s2.gens) s := by
 have rel := vals_ints hin
 have ln := hin.length
 cases hk : K.lookup a with
 | none =>
  let H0 : Hp := fun b => if b = a then some (.frz (scrO vs) (.lst (ns.map V.int))) else none
  have at_a : H0 a = some (.frz (scrO vs) (.lst (ns.map V.int))) := if_pos rfl
  have off_a : ∀ b, b ≠ a → H0 b = none := fun b hb => if_neg hb
  have only : Only H0 := fun b => by
   by_cases hb : b = a
   ·rw [hb]; exact .inr ⟨_, _, at_a⟩
   ·exact .inl (off_a b hb)
  refine law_from (H := H0) kin gns bns bok nolim nog scr hr F hbind (hsp H0 only (.inl (.inr ⟨_, at_a⟩))) only (fun b u z => ?_) (fun b z => ?_) fun _ => hk
  ·by_cases hb : b = a
   ·subst hb
    rw [at_a] at z
    cases z
    exact ⟨scr, (by rw [List.length_map]; exact small), vs, _, rel, scr⟩
   ·rw [off_a b hb] at z
    cases z
  ·by_cases hb : b = a
   ·exact hb
   ·exact absurd (off_a b hb) z
 | some o =>
  have h1 := kin a o hk
  rw [scr] at h1
  cases h1
  refine law_from (H := fun _ => none) kin gns bns bok nolim nog scr hr F hbind (hsp _ (fun _ => .inl rfl) (.inr ⟨_, vs.toArray, _, hk, rfl, rfl, rfl, by rw [List.size_toArray, ln]; exact small, by simpa using rel⟩)) (fun _ => .inl rfl) (fun b u z => ?_) (fun b z => absurd rfl z) fun z => absurd rfl z
  have z2 : (none : Option HO) = some u := z
  cases z2
theorem walkG {l : PySem.W.OpenLaw} {n k : Nat} {q : Program} {loose : List Str} {XP : (Str → Option Value) → Heap → Prop} {YP : World → Heap → Prop} {d : DefRec} {x : Str} (hn : l.most = some n) (hn2 : n ≤ sizeLine) (hdf : d.params.defaults = []) (hr : Room k callerA)
  (F : ∀ (w : World) (mg : Str → Option Value) (fa : Addr) (h : Heap), YP w h → h.Ns mainGlobals mg → mg d.name = some (.ref fa) →
   ∃ (K : PySem.W.Frag) (fd : FuncData) (sp : Sp), K.In h ∧ (∀ (s : Shared) (u : Value), BindsTo s fd ⟨[u], []⟩ [(x, u)]) ∧
    (∀ (H : Hp) (a : Addr) (ns : List Int), ns.length ≤ n → SqL K H a (ns.map V.int) → sp [.ref a] H (fun v _ => v = .bl true) fun _ _ _ => False) ∧ ∀ base : Heap, K.In base → base.Ns mainGlobals mg → FnG l.prog w K mg base CX0 k fa fd [x] sp) :
  PySem.W.WalkO q loose XP YP l.row.toRowW d [] (fun f vs => PySem.call f vs) := by
 refine Att.attach_call hn hdf fun w s₀ s₁ mg mb fa o pm cd doc a vs ns G Y ho hd hcd hmg hobj hints hlen hg => ?_
 obtain ⟨K, fd, sp, kin, hb, hsp, hF⟩ := F w mg fa _ Y G.T.g hmg
 exact law_run kin G.T.g G.T.b G.T.builtins G.T.nolimit hg hobj hints (Nat.le_trans hlen hn2) ⟨hr, rfl⟩ hF hb fun H _ hS => hsp H a ns hlen hS
end SL
set_option Elab.async false
set_option linter.all false
set_option maxRecDepth 100000
set_option maxHeartbeats 2000000
namespace SL
open PySem PySem.Spec PyProof.Rows L2
def scD : V → PyData
 | .int i => .int i
 | .str x => .str x
 | .bl b => .bool b
 | _ => .none
mutual
theorem dp_nodict {K : PySem.W.Frag} {H : Hp} : ∀ {v : V} {d : PyData}, Dp K H v d → d.hasDict = false
 | _, _, .non => by simp only [PyData.hasDict]
 | _, _, .bl _ => by simp only [PyData.hasDict]
 | _, _, .int _ => by simp only [PyData.hasDict]
 | _, _, .str _ => by simp only [PyData.hasDict]
 | _, _, .lst _ h => by simp only [PyData.hasDict]; exact dpa_nodict h
 | _, _, .tup _ h => by simp only [PyData.hasDict]; exact dpa_nodict h
theorem dpa_nodict {K : PySem.W.Frag} {H : Hp} : ∀ {vs : List V} {ds : List PyData}, DpAll K H vs ds → PyData.hasDictAll ds = false
 | _, _, .nil => by simp only [PyData.hasDictAll]
 | _, _, .cons h hs => by simp only [PyData.hasDictAll, dp_nodict h, dpa_nodict hs, Bool.or_self]
end
section
variable {X : Cx} {k : Nat}
end
section
variable {K : PySem.W.Frag} {H : Hp} {Q : VK} {x : V}
theorem g_dget {td ty : TE} {σ : L2.St} (q : td σ H fun x H1 => ty σ H1 fun y H2 => ∃ a v, x = .ref a ∧ DGet H2 a y (some v) ∧ Q v H2) : tDGet td ty σ H Q := q
theorem g_dgetS {A : V → Prop} {p : Addr} {kvs : List (Key × V)} {z : Str} {v : V} (h : H p = some (.dK kvs)) (e : valV kvs (Sum.inr z) = some v) (q : A v) : ∃ a w, V.ref p = .ref a ∧ DGet H a (.str z) (some w) ∧ A w := by
 have g := DGet.k (k := (Sum.inr z : Key)) h
 rw [e] at g
 exact ⟨p, v, rfl, g, q⟩
theorem g_dnewK {σ : L2.St} (q : ∀ p, H p = none → Q (.ref p) (upd H p (.dK []))) : tDNewK σ H Q := q
end
end SL
namespace SL
open PySem PySem.Spec PyProof.Rows L2
section
variable {X : Cx} {K : PySem.W.Frag}
theorem kOp {r : PySem.W.Frag → R2} {f : Value → Value → Sem Value} (e : X.K = K) (h : OpR X f (r X.K)) : OpR X f (r K) := e ▸ h
theorem kIx {r : PySem.W.Frag → R2} (e : X.K = K) (h : IxR X (r X.K)) : IxR X (r K) := e ▸ h
theorem kSl {r : PySem.W.Frag → V → Option Int → Option Int → Hp → VK → Prop} (e : X.K = K) (h : SlR X (r X.K)) : SlR X (r K) := e ▸ h
theorem kCall {r : PySem.W.Frag → List V → Hp → VK → Prop} {f : Value} (e : X.K = K) (h : CallR X f (r X.K)) : CallR X f (r K) := e ▸ h
variable {a b : Expr} {rest es : List Expr} {ta tb te : TE} {tgs : TGs} {pos : Pos} {tg : Expr} {n k : Nat}
theorem pi_listK (e : X.K = K) (h : PE X a ta) : PI X tg a (iList K ta) := by subst e; exact pi_list h
theorem pi_tupK (e : X.K = K) (h : PE X a ta) : PI X tg a (iTup K ta) := by subst e; exact pi_tup h
theorem pg_tupK (e : X.K = K) (hc : X.calm = true) (h : PGs X es tgs) (hn : (assignEach es X.env).length = n := by rfl) (hst : (assignEach es X.env).findIdx? (·.1) = none := by rfl) : PG X (.Tuple es k pos) (gTup K n tgs) := by subst e; exact pg_tup hc h hn hst
end
end SL
namespace SL
open PySem PySem.Spec PyProof.Rows L2
def uTuple (K : PySem.W.Frag) : List V → Hp → VK → Prop := fun xs H Q => ∃ p ys, xs = [.ref p] ∧ ((SqL K H p ys ∧ ∀ l, H l = none → Q (.ref l) (upd H l (.tup ys))) ∨ (SqT K H p ys ∧ Q (.ref p) H))
theorem callu_tuple {X : Cx} : CallR X (.type "tuple") (uTuple X.K) := call_tuple_of
section
variable {K : PySem.W.Frag} {H : Hp} {Q : VK}
theorem g_tupleL {p : Addr} {ys : List V} (h : SqL K H p ys) (q : ∀ l, H l = none → Q (.ref l) (upd H l (.tup ys))) : uTuple K [.ref p] H Q := ⟨p, ys, rfl, .inl ⟨h, q⟩⟩
end
end SL
namespace SL
open PySem PySem.Spec PyProof.Rows L2
section
variable {X : Cx} {K : PySem.W.Frag} {ex : Expr} {T : String} {rb : V → List V → Hp → VK → Prop} {to : TE} {tl : TA} {σ : L2.St} {H : Hp} {Q : VK}
theorem kBM (e : X.K = K) (h : PE X ex (tBM X.K T rb to tl)) : PE X ex (tBM K T rb to tl) := e ▸ h
theorem g_bm (q : to σ H fun x H1 => tyV K T x H1 ∧ tl σ H1 fun xs H2 => rb x xs H2 Q) : tBM K T rb to tl σ H Q := q
theorem g_bm0 (q : to σ H fun x H1 => tyV K T x H1 ∧ rb x [] H1 Q) : tBM0 K T rb to σ H Q := q
theorem g_tyS {A : Prop} {z : Str} (q : A) : tyV K "str" (.str z) H ∧ A := ⟨rfl, q⟩
theorem g_tyL {A : Prop} {p : Addr} {xs : List V} (h : SqL K H p xs) (q : A) : tyV K "list" (.ref p) H ∧ A := ⟨.inl ⟨rfl, xs, h⟩, q⟩
end
end SL
namespace SL
open PySem PySem.Spec PyProof.Rows L2
theorem valV_out {κ : Type} [DecidableEq κ] {k : κ} : ∀ {kvs : List (κ × V)}, k ∉ kvs.map (·.1) → valV kvs k = none
 | [], _ => rfl
 | p :: r, h => by
  rw [valV_neg fun e => h (by rw [← e]; exact List.mem_cons_self)]
  exact valV_out fun z => h (List.mem_cons_of_mem _ z)
theorem mergeK_nd : ∀ {kvs acc : List (Key × V)}, ((acc ++ kvs).map (·.1)).Nodup → mergeK acc kvs = acc ++ kvs
 | [], acc, _ => (List.append_nil acc).symm
 | p :: r, acc, h => by
  have h1 : p.1 ∉ acc.map (·.1) := fun z => by
   rw [List.map_append, List.nodup_append] at h
   exact h.2.2 p.1 z p.1 (List.mem_cons_self ..) rfl
  show mergeK (putK acc p.1 p.2) r = acc ++ p :: r
  rw [putK_new _ (valV_out h1)]
  have e : acc ++ p :: r = (acc ++ [(p.1, p.2)]) ++ r := by simp
  rw [e] at h ⊢
  exact mergeK_nd h
section
variable {K : PySem.W.Frag} {σ : L2.St} {H : Hp} {Q : VK} {tk tv : TE} {trs : List (TE × TE)} {A : List (V × V) → Hp → Prop}
theorem g_disp (q : ∀ p, H p = none → tPairs trs σ (upd H p (.dK [])) fun ps H2 => H2 p = some (.dK []) ∧ ∃ kvs : List (Key × V), ps = kvs.map (fun kv => (kV kv.1, kv.2)) ∧ kvs.length ≤ 15 ∧ Q (.ref p) (upd H2 p (.dK (mergeK [] kvs)))) : tDisp trs σ H Q := q
theorem g_pairs (q : tk σ H fun x H1 => tv σ H1 fun y H2 => tPairs trs σ H2 fun ps H3 => A ((x, y) :: ps) H3) : tPairs ((tk, tv) :: trs) σ H A := q
theorem g_pairs0 (q : A [] H) : tPairs [] σ H A := q
theorem g_repL {p : Addr} {k : Int} {xs : List V} (h : H p = some (.lst xs)) (h0 : -(2 ^ 63) ≤ k) (h1 : k < 2 ^ 63) (hz : xs.length * k.toNat ≤ sizeLine) (q : ∀ l, H l = none → Q (.ref l) (upd H l (.lst (List.replicate k.toNat xs).flatten))) : uMul (.ref p) (.int k) H Q := ⟨p, k, xs, rfl, rfl, h, h0, h1, hz, q⟩
end
end SL
set_option Elab.async false
set_option linter.all false
set_option maxRecDepth 100000
set_option maxHeartbeats 2000000
namespace SL
open PySem PySem.Spec PyProof.Rows L2
section
variable {P : Program} {w : World} {K : PySem.W.Frag} {mg : Str → Option Value} {base : Heap} {f : Addr} {fd : FuncData} {ps : List Str} {x : Str} {sp : Nat → Sp}
theorem calG_rec (b : Nat) (z : ∀ vs H Q E, ¬ sp 0 vs H Q E) (m : mg x = some (.ref f)) (kp : PySem.W.keepIn K (.ref f) = true) (bb : Binds K fd ps [])
  (st : ∀ n, CalG P w K mg base (b + n) x (sp n) → FnG P w K mg base CX0 (b + n + 1) f fd ps (sp (n + 1))) : ∀ n, CalG P w K mg base (b + n) x (sp n)
 | 0 => calG_of ⟨fun vs H Q E h => absurd h (z _ _ _ _), fun _ _ _ _ _ _ _ _ _ _ _ _ _ h => absurd h (z _ _ _ _)⟩ m kp bb
 | n + 1 => calG_of (st n (calG_rec b z m kp bb st n)) m kp bb
theorem calG_rec0 (z : ∀ vs H Q E, ¬ sp 0 vs H Q E) (m : mg x = some (.ref f)) (kp : PySem.W.keepIn K (.ref f) = true) (bb : Binds K fd ps [])
  (st : ∀ n, CalG P w K mg base n x (sp n) → FnG P w K mg base CX0 (n + 1) f fd ps (sp (n + 1))) : ∀ n, CalG P w K mg base n x (sp n)
 | 0 => calG_of ⟨fun vs H Q E h => absurd h (z _ _ _ _), fun _ _ _ _ _ _ _ _ _ _ _ _ _ h => absurd h (z _ _ _ _)⟩ m kp bb
 | n + 1 => calG_of (st n (calG_rec0 z m kp bb st n)) m kp bb
end
end SL
set_option Elab.async false
set_option linter.all false
set_option maxRecDepth 100000
set_option maxHeartbeats 2000000
namespace SL
open PySem PySem.Spec PyProof.Rows L2
section
variable {X : Cx} {K : PySem.W.Frag} {σ : L2.St} {H : Hp} {Q : VK} {x y : V}
def tFs (ts : List TE) : TE := fun σ H Q => tJs ts Str.empty σ H fun out H1 => Q (.str out) H1
theorem g_fs {ts : List TE} (q : tJs ts Str.empty σ H fun out H1 => Q (.str out) H1) : tFs ts σ H Q := q
theorem g_js0 {acc : Str} {A : Str → Hp → Prop} (q : A acc H) : tJs [] acc σ H A := q
theorem g_js {t : TE} {ts : List TE} {acc : Str} {A : Str → Hp → Prop} (q : t σ H fun x H1 => ∃ y : Str, x = .str y ∧ (acc ++ y).length ≤ sizeLine ∧ tJs ts (acc ++ y) σ H1 A) : tJs (t :: ts) acc σ H A := q
theorem g_fmt {te : TE} (q : te σ H fun x H1 => (∃ y : Str, x = .str y ∧ y.length ≤ sizeLine ∧ Q (.str y) H1) ∨ ∃ i : Int, x = .int i ∧ i.natAbs.log2 < 1920 ∧ Q (.str (toString i)) H1) : tFmt te σ H Q := q
theorem g_fmtS {z : Str} {A : Str → Prop} {B : Prop} (h : z.length ≤ sizeLine) (q : A z) : (∃ y : Str, V.str z = .str y ∧ y.length ≤ sizeLine ∧ A y) ∨ B := .inl ⟨z, rfl, h, q⟩
theorem g_jsS {z acc : Str} {A : Str → Prop} (h : (acc ++ z).length ≤ sizeLine) (q : A z) : ∃ y : Str, V.str z = .str y ∧ (acc ++ y).length ≤ sizeLine ∧ A y := ⟨z, rfl, h, q⟩
theorem app_len {a b : Str} : (a ++ b).length = a.length + b.length := Array.size_append
theorem lit_q : ("'" : Str).length = 1 := by decide +kernel
theorem lit_lp : ("(" : Str).length = 1 := by decide +kernel
theorem lit_rp : (")" : Str).length = 1 := by decide +kernel
theorem lit_sp : (" " : Str).length = 1 := by decide +kernel
theorem lit_cs : (", " : Str).length = 2 := by decide +kernel
theorem lit_not : ("not " : Str).length = 4 := by decide +kernel
theorem lit_is : (" is " : Str).length = 4 := by decide +kernel
theorem lit_if : (" if " : Str).length = 4 := by decide +kernel
theorem lit_e : Str.empty.length = 0 := by decide +kernel
theorem lit_dot : ("." : Str).length = 1 := by decide +kernel
def uInt : List V → Hp → VK → Prop := fun xs H Q => (∃ i, xs = [.int i] ∧ Q (.int i) H) ∨ ∃ k, xs = [.bl k] ∧ Q (.int (if k then 1 else 0)) H
theorem callu_int : CallR X (.type "int") uInt := call_int1
theorem g_intB {k : Bool} (q : Q (.int (if k then 1 else 0)) H) : uInt [.bl k] H Q := .inr ⟨k, rfl, q⟩
def uIs : R2 := fun x y H Q => y = .non ∧ Q (.bl (decide (x = .non))) H
def uIsNot : R2 := fun x y H Q => y = .non ∧ Q (.bl (!decide (x = .non))) H
theorem opu_isNot : OpR X (compareOp .IsNot) uIsNot := op_notN
theorem g_is (q : Q (.bl (decide (x = .non))) H) : uIs x .non H Q := ⟨rfl, q⟩
theorem g_isNot (q : Q (.bl (!decide (x = .non))) H) : uIsNot x .non H Q := ⟨rfl, q⟩
theorem g_inT {z : Str} {p : Addr} {xs : List V} (h : SqL K H p xs ∨ SqT K H p xs) (h2 : xs.all flatV = true) (q : Q (.bl (inV (.str z) xs)) H) : uIn K (.str z) (.ref p) H Q := ⟨p, xs, rfl, h, rfl, h2, q⟩
theorem g_notInT {z : Str} {p : Addr} {xs : List V} (h : SqL K H p xs ∨ SqT K H p xs) (h2 : xs.all flatV = true) (q : Q (.bl (!inV (.str z) xs)) H) : uNotIn K (.str z) (.ref p) H Q := ⟨p, xs, rfl, h, rfl, h2, q⟩
theorem inV_str (z : Str) (ws : List Str) : inV (.str z) (ws.map V.str) = decide (z ∈ ws) := by
 induction ws with
 | nil => rfl
 | cons w r ih =>
  unfold inV at ih ⊢
  rw [List.map_cons, List.any_cons, ih]
  by_cases h : z = w
  ·subst h
   simp [eqV]
  ·have : decide (V.str z = V.str w) = false := decide_eq_false fun e => h (V.str.inj e)
   simp [eqV, h, Ne.symm h]
theorem flat_strs (ws : List Str) : (ws.map V.str).all flatV = true := by
 induction ws with
 | nil => rfl
 | cons w r ih => rw [List.map_cons, List.all_cons, ih]; rfl
end
section
variable {X : Cx} {o e f : Expr} {apos cpos : Pos} {td ty tx : TE}
end
section
variable {K : PySem.W.Frag} {w : World} {H : Hp} {Q : VK} {σ : L2.St}
end
end SL
set_option Elab.async false
set_option linter.all false
set_option maxRecDepth 100000
set_option maxHeartbeats 2000000
namespace SL
open PySem PySem.Spec PyProof.Rows L2
theorem lc_map {J : It} {n : Nat} {G : Hp → Prop} {xs ys : List V} (w : Walk J n G (YAt xs)) {g : TG} {te : TE} {vs : List Nat} {σ : L2.St} {H1 : Hp} {D : Addr} {Qd : Hp → Prop} (hG : ∀ H', Fr [] H1 H' → G H') (hn : xs.length = n) (hy : ys.length = n) (hz : n ≤ 10000) (hD : H1 D = none)
  (body : ∀ (i : Nat) (x y : V) (H' : Hp) (A : V → Hp → Prop), xs[i]? = some x → ys[i]? = some y → Fr [] H1 H' → (∀ H4, Fr [] H' H4 → A y H4) → g x (wipe σ vs) H' fun σ2 H2 => wipe σ2 vs = wipe σ vs ∧ te σ2 H2 A)
  (fin : ∀ H', Fr [] H1 H' → H' D = some (.lst ys) → Qd H') :
  ∃ W : Nat → Nat → Hp → Prop, (∃ m, W 0 m (upd H1 D (.lst []))) ∧ ∀ i m H, W i m H →
   (J.stop i H ∧ Qd H) ∨ (J.go i H ∧ ∃ Nx : Hp → Prop, (∀ H', Nx H' → ∃ m', m' < m ∧ W (i + 1) m' H') ∧ ∀ x H', J.yld i H x H' → g x (wipe σ vs) H' fun σ2 H2 => wipe σ2 vs = wipe σ vs ∧ tYes σ2 H2 fun b H3 =>
    if b = true then te σ2 H3 fun y H4 => ∃ acc, H4 D = some (.lst acc) ∧ acc.length < sizeLine ∧ Nx (upd H4 D (.lst (acc ++ [y]))) else Nx H3) := by
 subst hn
 refine lc_it w (fun i H' => Fr [] H1 H' ∧ H' D = some (.lst (ys.take i))) ⟨Fr.new hD, by rw [List.take_zero]; exact upd_same⟩ (fun i H' _ h => hG H' h.1) (fun i x H' H'' hi h y => ?_) (fun H' h => ?_)
 ·obtain ⟨rfl, hx⟩ := y
  obtain ⟨h1, h2⟩ := h
  have hi2 : i < ys.length := by omega
  exact body i x ys[i] H'' _ hx (List.getElem?_eq_getElem hi2) h1 fun H4 e4 => ⟨_, e4.at h2 (fun z => nomatch z), lt_of (by rw [List.length_take]; omega), (h1.trans e4).over hD, by rw [upd_same, List.take_succ, List.getElem?_eq_getElem hi2]; rfl⟩
 ·exact fin H' h.1 (by rw [h.2, ← hy, List.take_length])
theorem tda_get {α : Type} {K : PySem.W.Frag} {H : Hp} {f : α → PyData} : ∀ {xs : List α} {vs : List V}, TdAll K H vs (xs.map f) → vs.length = xs.length ∧ ∀ (i : Nat) (v : V), vs[i]? = some v → ∃ x, xs[i]? = some x ∧ Td K H v (f x)
 | [], vs, h => by cases h.nil_inv; exact ⟨rfl, fun i x e => by simp at e⟩
 | y :: r, vs, h => by
  obtain ⟨v, ws, rfl, h1, h2⟩ := TdAll.cons_inv (show TdAll K H vs (f y :: r.map f) from h)
  obtain ⟨k1, k2⟩ := tda_get h2
  refine ⟨by simp [k1], fun i x e => ?_⟩
  cases i with
  | zero =>
   simp only [List.getElem?_cons_zero, Option.some.injEq] at e
   subst e
   exact ⟨y, rfl, h1⟩
  | succ j =>
   simp only [List.getElem?_cons_succ] at e
   exact k2 j x e
section
variable {P : Program} {w : World} {K : PySem.W.Frag} {mg : Str → Option Value} {base : Heap} {f : Addr} {fd : FuncData} {ps : List Str} {x : Str} {sp : Nat → Sp}
end
section
variable {K : PySem.W.Frag} {σ : L2.St} {H : Hp} {D : Ends} {Q : VK}
theorem g_dput {td ty tv : TE} (q : tv σ H fun v H1 => td σ H1 fun x H2 => ty σ H2 fun y H3 => ∃ a H4, x = .ref a ∧ DPut H3 a y v H4 ∧ D.nx σ H4) : sDPut td ty tv D σ H := q
theorem g_dputS {p : Addr} {kvs : List (Key × V)} {z : Str} {v : V} {A : Hp → Prop} (h : H p = some (.dK kvs)) (hl : kvs.length ≤ 1000) (q : A (upd H p (.dK (putK kvs (Sum.inr z) v)))) : ∃ a H4, V.ref p = .ref a ∧ DPut H a (.str z) v H4 ∧ A H4 :=
 ⟨p, _, rfl, DPut.k (k := (Sum.inr z : Key)) h (lt_of (by omega)), q⟩
end
section
variable {D : Ends} {σ : L2.St} {H : Hp}
theorem g_seqIf (t : TT) (a b u : TS) (D : Ends) (σ : L2.St) (H : Hp) : tSeq (tIfS t a b) u D σ H → tSeq (tIfS t a b) u D σ H := id
end
end SL
set_option Elab.async false
set_option linter.all false
set_option maxRecDepth 100000
set_option maxHeartbeats 2000000
namespace SL
open PySem PySem.Spec PyProof.Rows L2
section
variable {σ : L2.St} {H : Hp} {Q : VK} {D : Ends}
theorem g_listRg {te : TE} (q : tRg1 te σ H fun a b H1 => RgOk a b ∧ ∀ q, H1 q = none → Q (.ref q) (upd H1 q (.lst (rgV a b)))) : tLstRg (tRg1 te) σ H Q := q
theorem g_rg1 {ta : TE} {A : Int → Int → Hp → Prop} (q : ta σ H fun x H1 => ∃ n, x = .int n ∧ A 0 n H1) : tRg1 ta σ H A := q
theorem g_app {p : Addr} {xs : List V} {v : V} (h : H p = some (.lst xs)) (hz : xs.length ≤ 10000) (q : Q .non (upd H p (.lst (xs ++ [v])))) : rAppend (.ref p) [v] H Q := ⟨p, xs, v, rfl, rfl, h, lt_of (by omega), q⟩
theorem g_while {c : TT} {tb : TS} (Pv : L2.St → Hp → Prop) (μ : L2.St → Hp → Nat) (h0 : Pv σ H) (hs : ∀ σ H, Pv σ H → ∀ N : L2.St → Hp → Prop, (∀ σ' H', Pv σ' H' → μ σ' H' < μ σ H → N σ' H') →
  c σ H fun b H1 => if b = true then tb { D with nx := N, ct := N, bk := D.nx } σ H1 else D.nx σ H1) (hm : ∀ σ H, Pv σ H → ∀ (A B : Bool → Hp → Prop), (∀ b H1, A b H1 → B b H1) → c σ H A → c σ H B) : tWhile c tb D σ H := by
 refine ⟨fun m σ H => m = μ σ H ∧ Pv σ H, ⟨_, rfl, h0⟩, ?_⟩
 rintro m σ H ⟨rfl, p⟩
 refine hm σ H p _ _ (fun b H1 q => ?_) (hs σ H p (fun σ' H' => Pv σ' H' ∧ μ σ' H' < μ σ H) fun σ' H' a b => ⟨a, b⟩)
 cases b with
 | true => exact ⟨_, fun σ' H' ⟨p', l⟩ => ⟨_, l, rfl, p'⟩, q⟩
 | false => exact q
theorem rgV_nat (n : Nat) : rgV 0 (n : Int) = (List.range n).map fun k : Nat => V.int (k : Int) := by
 unfold rgV
 simp
end
abbrev Turns (J : It) (b : (Hp → Prop) → V → Hp → Prop) (H0 : Hp) (Dn : Hp → Prop) : Prop :=
 ∃ W : Nat → Nat → Hp → Prop, (∃ m, W 0 m H0) ∧ ∀ i m H, W i m H → (J.stop i H ∧ Dn H) ∨ (J.go i H ∧ ∃ Nx : Hp → Prop, (∀ H', Nx H' → ∃ m', m' < m ∧ W (i + 1) m' H') ∧ ∀ x H', J.yld i H x H' → b Nx x H')
theorem turns_of {J : It} {n : Nat} {G : Hp → Prop} {Y : Nat → Hp → V → Hp → Prop} (w : Walk J n G Y) {b : (Hp → Prop) → V → Hp → Prop} {H0 : Hp} {Dn : Hp → Prop} (Pv : Nat → Hp → Prop) (h0 : Pv 0 H0) (hG : ∀ i H, i ≤ n → Pv i H → G H)
  (hs : ∀ i x H H', i < n → Pv i H → Y i H x H' → b (Pv (i + 1)) x H') (hd : ∀ H, Pv n H → Dn H) : Turns J b H0 Dn := by
 refine ⟨fun i m H => m + i = n ∧ Pv i H, ⟨n, rfl, h0⟩, fun i m H at_i => ?_⟩
 have ⟨count, p⟩ := at_i
 have good := hG i H (by omega) p
 match m, count with
 | 0, count =>
  obtain rfl : i = n := (Nat.zero_add i).symm.trans count
  exact Or.inl ⟨w.stops H good, hd H p⟩
 | m + 1, count =>
  have more : i < n := by omega
  exact Or.inr ⟨w.goes i H more good, Pv (i + 1), fun H' p' => ⟨m, Nat.lt_succ_self m, by omega, p'⟩, fun x H' y => hs i x H H' more p (w.yields i H x H' more good y)⟩
abbrev inB (g1 : TG) (tt1 : TT) (te : TE) (vs1 : List Nat) (σ : L2.St) (D : Addr) (Nx : Hp → Prop) (x : V) (H' : Hp) : Prop :=
 g1 x (wipe σ vs1) H' fun σ3 H5 => wipe σ3 vs1 = wipe σ vs1 ∧ tt1 σ3 H5 fun b H6 => if b = true then te σ3 H6 fun y H7 => ∃ acc, H7 D = some (.lst acc) ∧ acc.length < sizeLine ∧ Nx (upd H7 D (.lst (acc ++ [y]))) else Nx H6
abbrev outB (g : TG) (tt : TT) (wi1 : TI) (g1 : TG) (tt1 : TT) (te : TE) (vs vs1 : List Nat) (σ : L2.St) (D : Addr) (Nx : Hp → Prop) (x : V) (H' : Hp) : Prop :=
 g x (wipe σ vs) H' fun σ2 H2 => wipe σ2 vs = wipe σ vs ∧ tt σ2 H2 fun b H3 => if b = true then wi1 σ2 H3 fun J1 H4 => Turns J1 (inB g1 tt1 te vs1 σ2 D) H4 Nx else Nx H3
abbrev dictB (g : TG) (tt : TT) (tk tv : TE) (vs : List Nat) (σ : L2.St) (D : Addr) (Nx : Hp → Prop) (x : V) (H' : Hp) : Prop :=
 g x (wipe σ vs) H' fun σ2 H2 => wipe σ2 vs = wipe σ vs ∧ tt σ2 H2 fun b H3 => if b = true then tk σ2 H3 fun y H4 => tv σ2 H4 fun z H5 => ∃ kvs k, y = kV k ∧ H5 D = some (.dK kvs) ∧ kvs.length < sizeLine ∧ Nx (upd H5 D (.dK (putK kvs k z))) else Nx H3
section
variable {J : It} {n : Nat} {G : Hp → Prop} {Y : Nat → Hp → V → Hp → Prop}
theorem lc2_out (w : Walk J n G Y) {g g1 : TG} {tt tt1 : TT} {wi1 : TI} {te : TE} {vs vs1 : List Nat} {σ : L2.St} {H1 : Hp} {D : Addr} {Qd : Hp → Prop} (Pv : Nat → Hp → Prop) (h0 : Pv 0 (upd H1 D (.lst []))) (hG : ∀ i H, i ≤ n → Pv i H → G H)
 (hs : ∀ i x H H', i < n → Pv i H → Y i H x H' → outB g tt wi1 g1 tt1 te vs vs1 σ D (Pv (i + 1)) x H') (hd : ∀ H, Pv n H → Qd H) : Turns J (outB g tt wi1 g1 tt1 te vs vs1 σ D) (upd H1 D (.lst [])) Qd := turns_of w Pv h0 hG hs hd
theorem lc2_in (w : Walk J n G Y) {g1 : TG} {tt1 : TT} {te : TE} {vs1 : List Nat} {σ2 : L2.St} {H4 : Hp} {D : Addr} {Nx : Hp → Prop} (Pv : Nat → Hp → Prop) (h0 : Pv 0 H4) (hG : ∀ i H, i ≤ n → Pv i H → G H)
 (hs : ∀ i x H H', i < n → Pv i H → Y i H x H' → inB g1 tt1 te vs1 σ2 D (Pv (i + 1)) x H') (hd : ∀ H, Pv n H → Nx H) : Turns J (inB g1 tt1 te vs1 σ2 D) H4 Nx := turns_of w Pv h0 hG hs hd
end
section
variable {σ : L2.St} {H : Hp} {Q : VK} {wi wi1 : TI} {g g1 : TG} {tt tt1 : TT} {te tk tv : TE} {vs vs1 : List Nat}
theorem g_lc2 (q : wi σ H fun J H1 => ∀ D, H1 D = none → Turns J (outB g tt wi1 g1 tt1 te vs vs1 σ D) (upd H1 D (.lst [])) fun H => Q (.ref D) H) : tLc2 wi g tt wi1 g1 tt1 te vs vs1 σ H Q := q
theorem g_dc (q : wi σ H fun J H1 => ∀ D, H1 D = none → Turns J (dictB g tt tk tv vs σ D) (upd H1 D (.dK [])) fun H => Q (.ref D) H) : tDc wi g tt tk tv vs σ H Q := q
theorem g_din {ty td : TE} (q : ty σ H fun y H1 => td σ H1 fun x H2 => ∃ a o, x = .ref a ∧ DGet H2 a y o ∧ Q (.bl o.isSome) H2) : tDIn ty td σ H Q := q
theorem g_dinS {p : Addr} {kvs : List (Key × V)} {z : Str} {A : Bool → Prop} (h : H p = some (.dK kvs)) (q : A (valV kvs (Sum.inr z)).isSome) : ∃ a o, V.ref p = .ref a ∧ DGet H a (.str z) o ∧ A o.isSome := ⟨p, _, rfl, DGet.k (k := (Sum.inr z : Key)) h, q⟩
end
def kvT (ws : List Str) : List (Key × V) := ws.map fun x => ((Sum.inr x : Key), V.bl true)
def addL (ws : List Str) (x : Str) : List Str := if x ∈ ws then ws else ws ++ [x]
def onceA (acc ws : List Str) : List Str := ws.foldl addL acc
theorem kvT_any (ws : List Str) (x : Str) : ((kvT ws).any fun kv => decide (kv.1 = (Sum.inr x : Key))) = decide (x ∈ ws) := by
 induction ws with
 | nil => rfl
 | cons y r ih =>
  show (decide ((Sum.inr y : Key) = Sum.inr x) || (kvT r).any _) = _
  rw [ih]
  by_cases h : y = x
  ·subst h; simp
  ·have h1 : decide ((Sum.inr y : Key) = Sum.inr x) = false := decide_eq_false fun e => h (Sum.inr.inj e)
   rw [h1]
   simp [Ne.symm h]
theorem putK_T (ws : List Str) (x : Str) : putK (kvT ws) (Sum.inr x) (.bl true) = kvT (addL ws x) := by
 unfold putK addL
 rw [kvT_any]
 by_cases h : x ∈ ws
 ·rw [if_pos (decide_eq_true h), if_pos h]
  unfold kvT
  rw [List.map_map]
  refine List.map_congr_left fun y _ => ?_
  show (if (Sum.inr y : Key) = Sum.inr x then _ else _) = _
  split <;> rfl
 ·rw [if_neg (by rw [decide_eq_false h]; exact Bool.false_ne_true), if_neg h]
  unfold kvT
  rw [List.map_append]
  rfl
theorem kvT_val (ws : List Str) (x : Str) : (valV (kvT ws) (Sum.inr x)).isSome = decide (x ∈ ws) := by
 induction ws with
 | nil => rfl
 | cons y r ih =>
  by_cases h : y = x
  ·subst h
   rw [show valV (kvT (y :: r)) (Sum.inr y) = some (V.bl true) from valV_pos rfl]
   simp
  ·rw [show valV (kvT (y :: r)) (Sum.inr x) = valV (kvT r) (Sum.inr x) from valV_neg fun e => h (Sum.inr.inj e), ih]
   simp [Ne.symm h]
theorem addL_len (ws : List Str) (x : Str) : (addL ws x).length ≤ ws.length + 1 := by
 unfold addL
 split
 ·omega
 ·rw [List.length_append]; exact Nat.le_refl _
theorem addL_mem {ws : List Str} {x y : Str} : y ∈ addL ws x ↔ y ∈ ws ∨ y = x := by
 unfold addL
 split
 ·exact ⟨.inl, fun h => h.elim id fun e => e ▸ by assumption⟩
 ·simp
end SL
set_option Elab.async false
set_option linter.all false
set_option maxRecDepth 100000
set_option maxHeartbeats 2000000
namespace SL
open PySem PySem.Spec PyProof.Rows L2
structure EcC (K : PySem.W.Frag) (C : Addr) : Prop where
 oe : OexC K C
 xf : XfC K C
 xc : ExcC K C
def oexB (K : PySem.W.Frag) (C : Addr) : Bool := match K.lookup C with
 | some ⟨.type "type", _, .cls cd, sl⟩ => (match cd.mro, sl.toList with
  | .ref C' :: bm, [_, _, _, _, some (.builtin n), _] => decide (C' = C) && (decide (n = "ValueError.__new__") && (!cd.hasDel && (cd.hasDict && PySem.HandSPX.refsVE bm)))
  | _, _ => false)
 | _ => false
def ecB (K : PySem.W.Frag) (C : Addr) : Bool := oexB K C && (decide (PySem.W.findIn K (.ref C) "__setattr__" = some (some (.builtin "object.__setattr__"))) && (decide (PySem.W.subIn K (.ref C) (.type "BaseException") = some true) &&
 (decide (PySem.W.typeIn K (.ref C) = some (.type "type")) && (PySem.W.keepIn K (.ref C) && (decide (PySem.W.findIn K (.ref C) "__getattribute__" = some (some (.builtin "BaseException.__getattribute__"))) &&
 (decide (PySem.W.findIn K (.ref C) "__getattr__" = some none) && (PySem.W.hasDictIn K C && (decide (PySem.W.findIn K (.ref C) "__class__" = some (some (.builtin "object.__class__"))) &&
 (decide (PySem.W.specialIn K (.builtin "object.__class__") "__get__" = some (some (.builtin "getset_descriptor.__get__"))) && (decide (PySem.W.takesIn K (.builtin "object.__class__") = some true) && decide (PySem.W.mroIn K C (.type "object") = some true)))))))))))
theorem oexB_ok {K : PySem.W.Frag} {C : Addr} (h : oexB K C = true) : ∃ nm q N bs bm sn sub ab col dd k0 k1 k2 k3 k5, K.lookup C = some (excClassObj nm q C N bs bm true sn sub ab col dd k0 k1 k2 k3 k5 "ValueError.__new__") ∧ PySem.HandSPX.refsVE bm = true := by
 unfold oexB at h
 split at h
 ·rename_i dd cd sl ho
  split at h
  ·rename_i C' bm k0 k1 k2 k3 n k5 hm hs
   simp only [Bool.and_eq_true, decide_eq_true_eq, Bool.not_eq_true'] at h
   obtain ⟨rfl, rfl, hdel, hd, hr⟩ := h
   obtain ⟨nm, bs, mro, ns, qn, hdt, sn, sub, ab, col, del⟩ := cd
   dsimp only at hm hdel hd
   subst hm hdel hd
   have hsl : sl = #[k0, k1, k2, k3, some (.builtin "ValueError.__new__"), k5] := by
    obtain ⟨l⟩ := sl
    simp only at hs
    rw [hs]
   subst hsl
   exact ⟨nm, qn, ns, bs, bm, sn, sub, ab, col, dd, k0, k1, k2, k3, k5, ho, hr⟩
  ·cases h
 ·cases h
theorem ecB_ok {K : PySem.W.Frag} {C : Addr} (h : ecB K C = true) : EcC K C := by
 unfold ecB at h
 simp only [Bool.and_eq_true, decide_eq_true_eq] at h
 obtain ⟨h1, h2, h3, h4, h5, h6, h7, h8, h9, h10, h11, h12⟩ := h
 exact ⟨⟨oexB_ok h1, h2, h3, h4, h5⟩, ⟨h6, h7, h3, h8⟩, ⟨h6, h7, h3, h8, h9, h10, h11, h12⟩⟩
structure EcI (K : PySem.W.Frag) (C fI : Addr) : Prop where
 ini : PySem.W.findIn K (.ref C) "__init__" = some (some (.ref fI))
 ty : PySem.W.typeIn K (.ref fI) = some (.type "function")
 ga : PySem.W.specialIn K (.ref C) "__getattribute__" = some (some (.builtin "type.__getattribute__"))
 rd : PySem.W.readsIn K C (.type "type") = true
 fd : PySem.W.findCls K (.ref C) (.type "type") "__init__" = some (.val (.ref fI))
 kp : PySem.W.keepIn K (.ref fI) = true
def eciB (K : PySem.W.Frag) (C fI : Addr) : Bool := decide (PySem.W.findIn K (.ref C) "__init__" = some (some (.ref fI))) && (decide (PySem.W.typeIn K (.ref fI) = some (.type "function")) &&
 (decide (PySem.W.specialIn K (.ref C) "__getattribute__" = some (some (.builtin "type.__getattribute__"))) && (PySem.W.readsIn K C (.type "type") && ((match PySem.W.findCls K (.ref C) (.type "type") "__init__" with
  | some (.val (.ref f)) => decide (f = fI)
  | _ => false) && PySem.W.keepIn K (.ref fI)))))
theorem eciB_ok {K : PySem.W.Frag} {C fI : Addr} (h : eciB K C fI = true) : EcI K C fI := by
 unfold eciB at h
 simp only [Bool.and_eq_true, decide_eq_true_eq] at h
 obtain ⟨h1, h2, h3, h4, h5, h6⟩ := h
 refine ⟨h1, h2, h3, h4, ?_, h6⟩
 split at h5
 ·rename_i f e
  rw [e, of_decide_eq_true h5]
 ·cases h5
structure ClG (P : Program) (w : World) (K : PySem.W.Frag) (mg : Str → Option Value) (base : Heap) (k : Nat) (x : Str) (C : Addr) (sp : Sp) : Prop where
 m : mg x = some (.ref C)
 ec : EcC K C
 ex : ∃ (fI : Addr) (fd : FuncData) (ps : List Str), FnG P w K mg base CX0 k fI fd ps sp ∧ EcI K C fI ∧ Binds K fd ps []
section
variable {X : Cx} {k j : Nat} {x : Str} {C : Addr} {sp : Sp} {p p1 p2 pos : Pos} {e : Expr} {es : List Expr} {t ta : TA}
theorem pe_fini {pl : Sem Bool} (c : ClG X.prog X.w X.K X.mg X.base k x C sp) (hr : RoomG j X.A) (hg : Gl X x) (ha : PA X (e :: es) t) (hk : k ≤ j := by first | decide | omega)
  (hdb : (x == ("__debug__" : Str)) = false := by decide)
  (hc : eval (.Call (.Attribute (.Name x p1) "__init__" p2) (e :: es) [] pos) X.env = (do
   let ov ← eval (.Name x p1) X.env
   standAt p2.atName
   let (f, first) ← holding [ov] (getMethod ov "__init__" pl)
   callWith pos f first (backTo pos (starEach (e :: es) X.env)) (backToKw pos (keywordEach [] X.env))) := by rfl)
  (hst : starEach (e :: es) X.env = (false, eval e X.env) :: starEach es X.env := by rfl) (hnp : (backTo pos (starEach es X.env)).any (·.1) = false := by rfl) :
  PE X (.Call (.Attribute (.Name x p1) "__init__" p2) (e :: es) [] pos) (tCall sp [] E0 t) := by
 obtain ⟨fI, fd, ps, F, ci, b⟩ := c.ex
 refine ⟨fun pins s σ H Q I h => ?_⟩
 refine PySem.W.methodCall_KW (ld_glob I hg c.m ?_ hdb) hc
 refine PySem.W.method_cls I.kIn ci.ga (PySem.W.cls_value I.kIn ci.rd ci.fd rfl ?_)
 have I2 := I.tok (s.toks + 1)
 refine PySem.W.callWith_K (h₀ := X.base) I2.ok.mod.kin ci.kp (thn (ha.run pos pins _ σ H _ I2 h) fun us s1 z => ?_) hst hnp
 obtain ⟨vs, H1, I1, r, q⟩ := z
 exact ⟨I1.kIn, run_fng F (hr.mono hk) b .nil pass0 I1 r q⟩
theorem RoomG.make {k : Nat} {A : Around} (hr : RoomG (k + 1) A) (C : Addr) (us : List Value) (kw : List (Str × Value)) : RoomG k (A.under (.builtin "type.__call__" ⟨.ref C :: us, kw⟩)) := ⟨hr.rm.make C us kw, hr.gd⟩
def spMk (C : Addr) (sp : Sp) (vs : List V) (H1 : Hp) (Q : VK) : Prop := vs.length ≤ 1000 ∧ ∀ a, H1 a = none → sp (.ref a :: vs) (upd H1 a (exo a C none)) (fun v H2 => v = .non ∧ Q (.ref a) H2) E0
abbrev laidE (C : Addr) (us : List Value) (s : Shared) : Shared := { s with heap := (s.heap.push (PySem.W.kdv_tup us)).push (PySem.HandSPX.excO C s.heap.objs.size) }
theorem laidE_keeps {us : List Value} {s : Shared} (a : Addr) (o : Obj) (e : s.heap.get? a = some o) : (laidE C us s).heap.get? a = some o := Heap.get?_push_of_some _ (Heap.get?_push_of_some _ e)
theorem laidE_inv {us : List Value} {pins : List (Addr × Obj)} {σ : L2.St} {H : Hp} {s : Shared} (I : Inv X pins σ H s) : Inv X pins σ (upd H (s.heap.objs.size + 1) (exo (s.heap.objs.size + 1) C none)) (laidE C us s) :=
 I.laid (t' := s.toks) laidE_keeps (Nat.le_succ _) (exo_ok (by heap_get))
theorem exn_runs (c : ClG X.prog X.w X.K X.mg X.base k x C sp) (hr : RoomG j X.A) (hk : k + 1 ≤ j) {pins : List (Addr × Obj)} {σ : L2.St} {H : Hp} {s : Shared} {Q E : Value → Shared → Prop} {Qi : VK} {vs : List V} {us : List Value} (I : Inv X pins σ H s) (r : Vals vs us) (few : vs.length ≤ 1000)
  (prom : sp (.ref (s.heap.objs.size + 1) :: vs) (upd H (s.heap.objs.size + 1) (exo (s.heap.objs.size + 1) C none)) Qi E0)
  (on : ∀ u z, CE X.stack X.prog X.w (upd H (s.heap.objs.size + 1) (exo (s.heap.objs.size + 1) C none)) (laidE C us s) Qi u z → u = .none ∧ Q (.ref (s.heap.objs.size + 1)) z) :
  wpAny (model X.prog X.w) X.A (call (.ref C) us) Q E s := by
 obtain ⟨fI, fd, ps, Fn, ci, binds⟩ := c.ex
 have J := laidE_inv (C := C) (us := us) I
 have all : Vals (V.ref (s.heap.objs.size + 1) :: vs) (Value.ref (s.heap.objs.size + 1) :: us) := .cons rfl r
 have count : (Value.ref (s.heap.objs.size + 1) :: us ++ []).length = ps.length := (congrArg List.length (List.append_nil _)).trans (all.length.symm.trans (Fn.len _ _ _ _ prom))
 have small : us.length ≤ sizeLine := by rw [← r.length, sizeLine_eq]; omega
 have bound := List.append_nil (Value.ref (s.heap.objs.size + 1) :: us) ▸ binds (laidE C us s) (Value.ref (s.heap.objs.size + 1) :: us) J.kIn count
 have body := Fn.go _ X.stack (laidE C us s) _ ⟨Value.ref (s.heap.objs.size + 1) :: us, []⟩ _ _ Qi E0 ((hr.mono hk).make C us []) (J.env0.make C us []) bound all prom
 obtain ⟨_, _, _, _, bm, _, _, _, _, _, _, _, _, _, _, at_C, same⟩ := c.ec.oe.cls
 refine wpAny_call (PySem.HandSPX.call_own F.excBase_ValueError (fun Y => PySem.HandSPX.refsVE_contains Y bm same) (I.kIn _ _ at_C) (PySem.W.looks_findIn I.kIn ci.ini) (fun self => PySem.W.bind_fn I.kIn self ci.ty) small (codeAny_mono body fun res z hz => ?_))
 match res, hz with
 | .ok (.ret u), hz => exact on u z hz
 | .ok .next, hz => exact absurd hz id
 | .ok .brk, hz => exact absurd hz id
 | .ok .cont, hz => exact absurd hz id
 | .error _, hz => exact absurd hz id
def tMkE (C : Addr) (sp : Sp) (ta : TA) : TE := fun σ H Q => ta σ H fun vs H1 => spMk C sp vs H1 Q
def tXat (K : PySem.W.Frag) (n : Str) (te : TE) : TE := fun σ H Q => te σ H fun x H1 => ∃ (a C d : Addr) (fs : List (Str × V)) (v : V), x = .ref a ∧ EcC K C ∧ PySem.W.findIn K (.ref C) n = some none ∧ H1 a = some (exo a C (some d)) ∧ H1 d = some (exd d fs) ∧ fs.lookup n = some v ∧ Q v H1
end
end SL
namespace PySem.W
open PySem PySem.Spec PySem.Calls PyProof.Rows
section
variable {prog : Program} {w : World} {A : Around} {E : Value → Shared → Prop} {s : Shared} {K : Frag} {x D : Addr} {ox : Obj} {od : Option Obj}
theorem sl_kitx (C : L2.ExcC K D) : KitX K (.ref x) (.ref D) (fun h => InstAt h x ox D od) :=
 kitx_exc ((any_some C.hd).elim fun _ h => by rw [h.1]; rfl) C.hg C.hk C.hs C.ha C.hn C.ht C.hm
end
end PySem.W
namespace SL
open PySem PySem.Spec PyProof.Rows L2
def rIsS (K : PySem.W.Frag) (a : Addr) (cls : Value) (d : Option Addr) : List V → Hp → VK → Prop := fun xs H Q => ∃ (C dd : Addr) (fs : List (Str × V)) (c : V) (cv : Value) (b : Bool), xs = [.ref a, c] ∧ cls = .ref C ∧ d = some dd ∧ H dd = some (.xd fs) ∧ EcC K C ∧ (∀ u, RelV c u → u = cv) ∧ PySem.W.kitOne K (.ref C) cv = some b ∧ Q (.bl b) H
theorem call_isS {X : Cx} {a : Addr} {oe : Obj} {cls : Value} {d : Option Addr} {pn : List (Addr × Obj)} (hz : Zc cls d oe) (hf : ∃ vs, oe.data = .fields vs) : CallR (X.suite a ((a, oe) :: pn)) (.builtin "isinstance") (rIsS X.K a cls d) := by
 intro pins s σ H xs us Q I r h
 obtain ⟨C, dd, fs, c, cv, b, rfl, rfl, rfl, hd, T, hcv, e, q⟩ := h
 cases r with
 | cons rx rr =>
  cases rr with
  | cons rt rr =>
   cases rr
   cases rx
   have ec := hcv _ rt
   subst ec
   obtain ⟨hget, _⟩ := I.pin (a, oe) (List.mem_append.mpr (.inl List.mem_cons_self))
   obtain ⟨vs, hv⟩ := hf
   have hx : ObjOk X.prog X.w H s.heap dd (.xd fs) := I.hok dd _ hd
   obtain ⟨mA, hns, hr⟩ := hx
   obtain ⟨od, ho, hl⟩ := lookIn_ns hns
   have J : PySem.W.InstAt s.heap a oe C (some od) := ⟨hget, hz.1, by unfold PySem.W.notCls; rw [hv] <;> rfl, by rw [hz.2]; exact ho⟩
   exact PySem.W.kia_one (PySem.W.sl_kitx T.xc) I.kIn J e (fun z => nomatch z) fun tk => ⟨.bl b, H, I.kept (t' := tk) fun _ _ z => z, rfl, q⟩
section
variable {X : Cx} {k j : Nat} {x : Str} {C : Addr} {sp : Sp} {p p1 p2 pos : Pos} {e : Expr} {es : List Expr} {t ta : TA}
def tMkX (C : Addr) (sp : Sp) (ta : TA) : L2.St → Hp → XK → Prop := fun σ H Q => ta σ H fun vs H1 => vs.length ≤ 1000 ∧ ∀ a, H1 a = none → sp (.ref a :: vs) (upd H1 a (exo a C none))
 (fun v H2 => v = .non ∧ ∃ (d : Addr) (fs : List (Str × V)), H2 a = some (exo a C (some d)) ∧ H2 d = some (exd d fs) ∧ H1 d = none ∧ Q (.ref C) (some d) (upd (del H2 a) d (.xd fs))) E0
theorem mkX_ok (c : ClG X.prog X.w X.K X.mg X.base k x C sp) (hr : RoomG j X.A) (hk : k + 1 ≤ j) {pins : List (Addr × Obj)} {σ : L2.St} {H1 : Hp} {s1 : Shared} {Q : XK} {vs : List V} {us : List Value} (I1 : Inv X pins σ H1 s1) (r1 : Vals vs us)
  (q : vs.length ≤ 1000 ∧ ∀ a, H1 a = none → sp (.ref a :: vs) (upd H1 a (exo a C none)) (fun v H2 => v = .non ∧ ∃ (d : Addr) (fs : List (Str × V)), H2 a = some (exo a C (some d)) ∧ H2 d = some (exd d fs) ∧ H1 d = none ∧ Q (.ref C) (some d) (upd (del H2 a) d (.xd fs))) E0) :
  wpAny (model X.prog X.w) X.A (call (.ref C) us) (MkP X pins σ Q) X.xe s1 :=
 exn_runs c hr hk I1 r1 q.1 (q.2 _ (I1.hok.fresh (Nat.le_succ _))) fun u z hz => by
  obtain ⟨v, H2, same_os, bare, un, hok, rv, rfl, d, fs, at_a, at_d, free, q2⟩ := hz
  exact ⟨rv, mk_end (raises_own c.ec.oe.exC c.ec.oe.tyC) I1 (Nat.le_succ _) laidE_keeps un hok same_os bare at_a at_d free q2⟩
theorem pmk_mkX (c : ClG X.prog X.w X.K X.mg X.base k x C sp) (hr : RoomG j X.A) (hg : Gl X x) (ha : PA X (e :: es) ta) (hk : k + 1 ≤ j := by first | decide | omega)
  (hdb : (x == ("__debug__" : Str)) = false := by decide) (hst : starEach (e :: es) X.env = (false, eval e X.env) :: starEach es X.env := by rfl) (hnp : (backTo pos (starEach es X.env)).any (·.1) = false := by rfl) :
  PMk X (.Call (.Name x p) (e :: es) [] pos) (tMkX C sp ta) := by
 intro pins s σ H Q I h
 refine wpAny_Call_Name_kw (ld_glob I hg c.m ?_ hdb)
 refine PySem.W.callWith_K (h₀ := X.base) I.ok.mod.kin c.ec.oe.kC (thn (ha.run pos pins s σ H _ I h) fun us s1 ⟨vs, H1, I1, r1, q1⟩ => ⟨I1.kIn, ?_⟩) hst hnp
 exact mkX_ok c hr hk I1 r1 q1
end
structure CalX (P : Program) (w : World) (K : PySem.W.Frag) (mg : Str → Option Value) (base : Heap) (k : Nat) (x : Str) (sp : Sp) : Prop where
 ex : ∃ (f : Addr) (fd : FuncData) (ps : List Str), FnG P w K mg base (L2.CX P w) k f fd ps sp ∧ mg x = some (.ref f) ∧ PySem.W.keepIn K (.ref f) = true ∧ Binds K fd ps []
theorem calX_of {P : Program} {w : World} {K : PySem.W.Frag} {mg : Str → Option Value} {base : Heap} {k : Nat} {x : Str} {sp : Sp} {f : Addr} {fd : FuncData} {ps : List Str} (F : FnG P w K mg base (L2.CX P w) k f fd ps sp) (m : mg x = some (.ref f)) (kp : PySem.W.keepIn K (.ref f) = true) (b : Binds K fd ps []) : CalX P w K mg base k x sp := ⟨f, fd, ps, F, m, kp, b⟩
section
variable {X : Cx} {k j : Nat} {x : Str} {sp : Sp} {p pos : Pos} {e : Expr} {es : List Expr} {t : TA} {W : WX}
theorem pe_calX (c : CalX X.prog X.w X.K X.mg X.base k x sp) (tk : Takes X W) (hr : RoomG j X.A) (hg : Gl X x) (ha : PA X (e :: es) t) (hk : k ≤ j := by first | decide | omega)
  (hdb : (x == ("__debug__" : Str)) = false := by decide) (hst : starEach (e :: es) X.env = (false, eval e X.env) :: starEach es X.env := by rfl) (hnp : (backTo pos (starEach es X.env)).any (·.1) = false := by rfl) :
  PE X (.Call (.Name x p) (e :: es) [] pos) (tCallS sp (WE W) t) := by
 obtain ⟨f, fd, ps, F, hm, kp, b⟩ := c.ex
 constructor
 intro pins s σ H Q I h
 refine wpAny_Call_Name_kw (ld_glob I hg hm (PySem.W.callWith_K (h₀ := X.base) I.ok.mod.kin kp (thn (ha.run pos pins s σ H _ I h) fun us s1 z => ?_) hst hnp) hdb)
 obtain ⟨vs, H1, I1, r, q⟩ := z
 refine ⟨I1.kIn, ?_⟩
 have ln : us.length = ps.length := r.length.symm.trans (F.len _ _ _ _ q)
 have b2 := b s1 us I1.kIn (by rw [List.append_nil]; exact ln)
 rw [List.append_nil] at b2
 refine wpAny_call (codeAny_mono (F.go X.A X.stack s1 H1 ⟨us, []⟩ us vs Q (WE W σ) (hr.mono hk) I1.env0 b2 r q) fun res s2 hq => ?_)
 cases res with
 | ok fl =>
  cases fl with
  | ret u => exact I1.after hq
  | _ => exact hq.elim
 | error z => exact passAt tk σ pins H1 s1 z s2 I1 hq
end
end SL
namespace SL
open PySem PySem.Spec PyProof.Rows L2
def tXs (K : PySem.W.Frag) (a : Addr) (cls : Value) (d : Option Addr) (n : Str) (te : TE) : TE := fun σ H Q => te σ H fun x H1 => x = .ref a ∧ ∃ (C dd : Addr) (fs : List (Str × V)) (v : V), cls = .ref C ∧ d = some dd ∧ EcC K C ∧ PySem.W.findIn K (.ref C) n = some none ∧ H1 dd = some (.xd fs) ∧ fs.lookup n = some v ∧ Q v H1
theorem pe_xs {X : Cx} {a : Addr} {oe : Obj} {cls : Value} {d : Option Addr} {pn : List (Addr × Obj)} {e : Expr} {te : TE} {pos : Pos} (n : Str)
  (hz : Zc cls d oe) (hf : ∃ vs, oe.data = .fields vs) (he : PE (X.suite a ((a, oe) :: pn)) e te) (hb : attributeBase e n X.env (eval e X.env) = eval e X.env := by rfl) :
  PE (X.suite a ((a, oe) :: pn)) (.Attribute e n pos) (tXs X.K a cls d n te) := ⟨fun pins s σ H Q I h => attr_of hb (thn (he.run pins s σ H _ I h) fun got z hz1 => by
 obtain ⟨_, H1, J, same, rfl, C, dd, fs, v, rfl, rfl, cl, none_own, at_dd, val, q⟩ := hz1
 cases (show got = Value.ref a from same)
 have ⟨_, dat⟩ := hf
 have ⟨names, is_ns, rel⟩ : ObjOk X.prog X.w H1 z.heap dd (.xd fs) := J.hok dd _ at_dd
 have ⟨od, at_od, look⟩ := lookIn_ns is_ns
 have ⟨_, there, ru⟩ := RelO.some_of (v := v) (o := names n) (val ▸ rel n)
 have pinned := (J.pin (a, oe) (List.mem_append.mpr (.inl (.head _)))).1
 have no_cls : PySem.W.notCls oe = true := by unfold PySem.W.notCls; rw [dat] <;> rfl
 exact HandSPX.exc_get J.kIn (⟨pinned, hz.1, no_cls, hz.2 ▸ at_od⟩ : PySem.W.InstAt z.heap a oe C (some od)) cl.xf.ga cl.xf.gg cl.xf.exC (PySem.W.findObj_own cl.xf.hdC none_own rfl ((look n).trans (congrArg some there))) (handed_of ru) ⟨v, H1, J.tok _, ru, q⟩)⟩
def tRs (t : L2.St → Hp → XK → Prop) (W : WX) : TS := fun _ σ H => t σ H fun cls d H' => W cls d σ H'
theorem ps_rs {X : Cx} {W : WX} {e : Expr} {t : L2.St → Hp → XK → Prop} {pos : Pos} (hc : X.calm = true) (tk : Takes X W) (he : PMk X e t) : PS X (.Raise (some e) none pos) (tRs t W) := ps_raise hc tk he
def tTry (K : PySem.W.Frag) (c : Value) (i : Nat) (tb : WX → TS) (ts : Addr → Value → Option Addr → TS) (Wout : WX) : TS := fun D σ H => tb (wAs K c i ts Wout D) D σ H
theorem ps_tryK {X : Cx} {K : PySem.W.Frag} {x n : Str} {c : Value} {i : Nat} {body suite : List Stmt} {b₀ : Stmt} {np pos pos' : Pos} {tb : WX → TS} {ts : Addr → Value → Option Addr → TS} {Wout : WX} (eK : X.K = K)
  (hs : X.stack = X.env :: X.outer) (hf : X.env.frame = some X.env.locals) (hN : X.N.Nodup) (hi : X.N[i]? = some n) (hln : X.env.kindOf n = some .local) (hc : Names X x c) (tk : Takes X Wout)
  (hb : ∀ (W : WX) (pn : List (Addr × Obj)) (xe : Value → Shared → Prop), Takes (X.tr pn xe) W → PassesOwn (model X.prog X.w) X.A X.env xe → PSs (X.tr pn xe) body (tb W))
  (hsu : ∀ (a : Addr) (oe : Obj) (cls : Value) (d : Option Addr) (pn : List (Addr × Obj)), Zc cls d oe → (∃ vs, oe.data = .fields vs) → PSs (X.suite a ((a, oe) :: pn)) (b₀ :: suite) (ts a cls d)) :
  PS X (.Try body [.ExceptHandler (some (.Name x np)) (some n) (b₀ :: suite) pos'] [] [] pos) (tTry K c i tb ts Wout) := by
 subst eK
 exact ps_try_as hs hf hN hi hln hc tk hb hsu
theorem find_VE (K : PySem.W.Frag) : PySem.W.findCls K (.type "ValueError") (.type "type") "__init__" = some (.val (.builtin "ValueError.__init__")) := by kernel_rfl
section
variable {X : Cx} {K : PySem.W.Frag} {e : Expr} {st : Stmt} {ta : TA} {te to : TE} {f : Str} {a : Addr} {cls : Value} {d : Option Addr} {σ : L2.St} {H : Hp} {Q : VK} {D : Ends}
theorem kVeI (q : X.K = K) (h : PE X e (tVeI X.K ta)) : PE X e (tVeI K ta) := q ▸ h
theorem kOst (q : X.K = K) (h : PS X st (tOst X.K f to te)) : PS X st (tOst K f to te) := q ▸ h
theorem kXs (q : X.K = K) (h : PE X e (tXs X.K a cls d f te)) : PE X e (tXs K a cls d f te) := q ▸ h
theorem g_vei (q : ta σ H fun vs H1 => ∃ (a C : Addr) (ws : List V), vs = .ref a :: ws ∧ ws.length ≤ 1000 ∧ OexC K C ∧ H1 a = some (exo a C none) ∧ Q .non H1) : tVeI K ta σ H Q := q
theorem g_ost (q : te σ H fun y H1 => to σ H1 fun x H2 => ∃ a C : Addr, x = .ref a ∧ OexC K C ∧ PySem.W.findIn K (.ref C) f = some none ∧
 ((H2 a = some (exo a C none) ∧ ∀ dx, H2 dx = none → dx ≠ a → D.nx σ (upd (upd H2 dx (exd dx [(f, y)])) a (exo a C (some dx)))) ∨
  ∃ (dx : Addr) (fs : List (Str × V)), H2 a = some (exo a C (some dx)) ∧ H2 dx = some (exd dx fs) ∧ fs.length ≤ 900 ∧ D.nx σ (upd H2 dx (exd dx ((f, y) :: fs))))) : tOst K f to te D σ H := q
theorem g_xat (q : te σ H fun x H1 => ∃ (a C d : Addr) (fs : List (Str × V)) (v : V), x = .ref a ∧ EcC K C ∧ PySem.W.findIn K (.ref C) f = some none ∧ H1 a = some (exo a C (some d)) ∧ H1 d = some (exd d fs) ∧ fs.lookup f = some v ∧ Q v H1) : tXat K f te σ H Q := q
theorem g_xs (q : te σ H fun x H1 => x = .ref a ∧ ∃ (C dd : Addr) (fs : List (Str × V)) (v : V), cls = .ref C ∧ d = some dd ∧ EcC K C ∧ PySem.W.findIn K (.ref C) f = some none ∧ H1 dd = some (.xd fs) ∧ fs.lookup f = some v ∧ Q v H1) : tXs K a cls d f te σ H Q := q
theorem g_mkE {C : Addr} {sp : Sp} (q : ta σ H fun vs H1 => spMk C sp vs H1 Q) : tMkE C sp ta σ H Q := q
theorem g_rs {t : L2.St → Hp → XK → Prop} {W : WX} (q : t σ H fun cls d H' => W cls d σ H') : tRs t W D σ H := q
theorem g_mkX {C : Addr} {sp : Sp} {Qx : XK} (q : ta σ H fun vs H1 => vs.length ≤ 1000 ∧ ∀ a, H1 a = none → sp (.ref a :: vs) (upd H1 a (exo a C none))
 (fun v H2 => v = .non ∧ ∃ (d : Addr) (fs : List (Str × V)), H2 a = some (exo a C (some d)) ∧ H2 d = some (exd d fs) ∧ H1 d = none ∧ Qx (.ref C) (some d) (upd (del H2 a) d (.xd fs))) E0) : tMkX C sp ta σ H Qx := q
theorem g_try {c : Value} {i : Nat} {tb : WX → TS} {ts : Addr → Value → Option Addr → TS} {Wout : WX} (q : tb (wAs K c i ts Wout D) D σ H) : tTry K c i tb ts Wout D σ H := q
theorem g_callS {sp : Sp} {E : L2.St → XK} (q : ta σ H fun vs H1 => sp vs H1 Q (E σ)) : tCallS sp E ta σ H Q := q
theorem g_wAs {c : Value} {i : Nat} {ts : Addr → Value → Option Addr → TS} {Wout : WX} (h : PySem.W.exmOne K cls c = some true) (q : ∀ a, H a = none → ts a cls d { nx := fun σ' H' => D.nx (σ'.set i none) H', rt := D.rt, bk := fun σ' H' => D.bk (σ'.set i none) H', ct := fun σ' H' => D.ct (σ'.set i none) H' } (σ.set i (some (.ref a))) H) :
 WE (wAs K c i ts Wout D) σ cls d H := ⟨true, h, fun _ => q, fun z => nomatch z⟩
end
theorem okX {P : Program} {w : World} {K : PySem.W.Frag} {mg : Str → Option Value} {base : Heap} {x qual : Str} {pr : Arguments} {bd : List Stmt} {sc : Scope} {dvs : List V} {kws : List (Str × V)} {f : Addr} {fd : FuncData} {N ps : List Str} {k : Nat} {sp : Sp} (F : FunD K x qual pr bd sc dvs kws f fd) (S : FnScope N ps sc) (hlen : ∀ vs H Q E, sp vs H Q E → vs.length = ps.length)
  (hb : ∀ (cdv : Value) (A : Around) (outer : List Env) (s : Shared) (H : Hp) (vs : List V) (Q : VK) (E : XK), RoomG k (A.deeper (envOfC qual sc s.heap.objs.size f cdv)) → sp vs H Q E →
   Takes (cxOf (L2.CX P w) P w K mg base N qual sc f cdv A outer s H E) (fun cls d _ H => E cls d H) →
   ∃ t, PSs (cxOf (L2.CX P w) P w K mg base N qual sc f cdv A outer s H E) bd t ∧ t { nx := fun _ H' => Q .non H', rt := Q } (start N vs) H) : FnG P w K mg base (L2.CX P w) (k + 1) f fd ps sp :=
 okG F S hlen fun cdv A outer s H vs Q E hr hsp => hb cdv A outer s H vs Q E hr hsp (takes_of rfl rfl rfl rfl)
def Made (a C : Addr) (fs : List (Str × V)) (H : Hp) (Q : VK) : Prop := ∀ (d : Addr) (H' : Hp), H d = none → d ≠ a → Fr [a] H H' → H' a = some (exo a C (some d)) → H' d = some (exd d fs) → Q .non H'
def IniAt (K : PySem.W.Frag) (a C : Addr) (f : Str) (H : Hp) : Prop := OexC K C ∧ PySem.W.findIn K (.ref C) f = some none ∧ H a = some (exo a C none)
def spL (K : PySem.W.Frag) : Sp := fun vs H Q _ => ∃ (a C : Addr) (y : V), vs = [.ref a, y] ∧ IniAt K a C "word" H ∧ Made a C [("word", y)] H Q
def spI1 (K : PySem.W.Frag) (w f : Str) : Sp := fun vs H Q _ => ∃ (a C : Addr) (y : V), vs = [.ref a, y] ∧ IniAt K a C "word" H ∧ PySem.W.findIn K (.ref C) f = some none ∧ Made a C [(f, y), ("word", .str w)] H Q
theorem nofix_exo {e C : Addr} {d : Option Addr} : ¬ Fix (exo e C d) := fun z => z
theorem Fr.exd {H : Hp} {a d C : Addr} {o u : HO} (hd : H d = none) (ha : H a = some (exo a C none)) : Fr [a] H (upd (upd H d o) a u) := (Fr.new hd).trans (Fr.mut List.mem_cons_self (by rw [upd_ne (ne_of_none ha hd)]; exact ha) nofix_exo)
theorem mkX_I1 {K : PySem.W.Frag} {C : Addr} {w f : Str} {y : V} {H : Hp} {Qx : XK} (T : EcC K C) (h1 : PySem.W.findIn K (.ref C) "word" = some none) (h2 : PySem.W.findIn K (.ref C) f = some none)
  (q : ∀ (d : Addr) (H' : Hp), Fr [] H H' → H' d = some (.xd [(f, y), ("word", .str w)]) → Qx (.ref C) (some d) H') :
  [y].length ≤ 1000 ∧ ∀ a, H a = none → spI1 K w f (.ref a :: [y]) (upd H a (exo a C none)) (fun v H2 => v = .non ∧ ∃ (d : Addr) (fs : List (Str × V)), H2 a = some (exo a C (some d)) ∧ H2 d = some (exd d fs) ∧ H d = none ∧ Qx (.ref C) (some d) (upd (del H2 a) d (.xd fs))) E0 :=
 ⟨Nat.le_of_ble_eq_true rfl, fun a ha => ⟨a, C, y, rfl, ⟨T.oe, h1, upd_same⟩, h2, fun d H' hd hne fr e1 e2 => ⟨rfl, d, _, e1, e2, by rw [upd_ne hne] at hd; exact hd, q d _ (fun b o hb _ => by
  have hb2 : b ≠ a := ne_of_none hb ha
  have hd2 : H d = none := by rw [upd_ne hne] at hd; exact hd
  rw [upd_ne (ne_of_none hb hd2), del_ne hb2]
  exact fr b o (by rw [upd_ne hb2]; exact hb) (.inl fun z => hb2 (List.mem_singleton.mp z))) upd_same⟩⟩⟩
end SL
namespace SL
open PySem PySem.Spec PyProof.Rows L2
section
variable {K : PySem.W.Frag} {σ : L2.St} {H : Hp} {Q : VK} {ta tb tc te : TE} {r r' : R2}
theorem g_chain (q : ta σ H fun x H1 => tb σ H1 fun y H2 => r x y H2 fun z H3 => ∃ k, z = .bl k ∧ (if k = true then tc σ H3 fun w' H4 => r' y w' H4 Q else Q (.bl false) H3)) : tChain r r' ta tb tc σ H Q := q
theorem g_rU {f : Int → V} {i : Int} (q : Q (f i) H) : rU f (.int i) H Q := ⟨i, rfl, q⟩
theorem g_istr {S : It → Hp → Prop} (q : te σ H fun v H1 => ∃ x, v = .str x ∧ S (Its x) H1) : iStr te σ H S := q
theorem g_leS {a b : Str} (q : Q (.bl (!decide (b.cps.toList < a.cps.toList))) H) : uLe (.str a) (.str b) H Q := q
end
end SL
namespace SL
open PySem PySem.Spec PyProof.Rows L2 He
def asY (g : Addr → Option Obj) (n : Nat) : List Addr := He.asD g n ++ [cStatics]
structure SaysY (fa : List Fa) (fn : List DefD) (ts : List Tab) (ex : PySem.W.Frag → Bool) (w : World) (K : PySem.W.Frag) : Prop where
 t : SaysT fa fn ts w K
 more : ex K = true
def obsY (n : Nat) (fa : List Fa) (fn : List DefD) (ts : List Tab) (ex : PySem.W.Frag → Bool) (g : Addr → Option Obj) : AlX := (obsT fa fn ts (frG g (asY g n)), ex (frG g (asY g n)))
def hookY (n : Nat) (fa : List Fa) (fn : List DefD) (ts : List Tab) (ex : PySem.W.Frag → Bool) : PySem.W.Hook where
 α := AlX
 obs := fun s => obsY n fa fn ts ex s.heap.get?
 val := fun w => (valT fn ts w, true)
 says := fun w h => ∃ K : PySem.W.Frag, K.In h ∧ SaysY fa fn ts ex w K
 of := fun _ _ e => ⟨_, frG_in, ⟨congrArg (fun z : AlX => z.1) e, congrArg (fun z : AlX => z.2) e⟩⟩
 keeps := fun _ _ _ ⟨K, hK, c⟩ k => ⟨K, PySem.W.Frag.In.keeps hK k, c⟩
theorem obsY_eq {n : Nat} {fa : List Fa} {fn : List DefD} {ts : List Tab} {ex : PySem.W.Frag → Bool} {g : Addr → Option Obj} {s : Shared} (h : ∀ a, g a = s.heap.get? a) : obsY n fa fn ts ex g = (hookY n fa fn ts ex).obs s := by
 have e : g = s.heap.get? := funext h
 rw [e] <;> rfl
end SL
set_option Elab.async false
set_option linter.all false
set_option maxRecDepth 100000
set_option maxHeartbeats 2000000
namespace SL
open PySem PySem.Spec PySem.W PyProof.Rows L2
abbrev Beh := (Shared → Prop) → (Value → Shared → Prop) → Shared → Prop
abbrev Bod := (Hp → Prop) → L2.St → Hp → Prop
abbrev bad (P : Program) (w : World) (A : Around) (env : Env) (R : Result → Shared → Prop) : Value → Shared → Prop := notedBy (model P w) A env fun e z => R (.error e) z
def turnAt (P : Program) (w : World) (A : Around) (it : Value) (tg : Expr) (env : Env) (B : Beh) (R : Result → Shared → Prop) (good : Shared → Prop) (s : Shared) : Prop :=
 wpAny (model P w) A (pyNext it) (fun r s1 => match r with
  | none => R (.ok .next) s1
  | some u => wpAny (model P w) A (letOwnedTupleGo tg it u) (fun _ s2 => wpAny (model P w) A (assign tg env u) (fun _ s3 => B good (bad P w A env R) s3) (bad P w A env R) s2) (bad P w A env R) s1) (bad P w A env R) s
def Loops (P : Program) (w : World) (A : Around) (c : Expr) (k : Nat) (it acc : Value) (tg : Expr) (env : Env) (B : Beh) : Prop :=
 ∀ (R : Result → Shared → Prop) (I : Nat → Shared → Prop), (∀ n s, I n s → turnAt P w A it tg env B R (fun z => ∃ m, m < n ∧ I m z) s) →
  ∀ n s, I n s → codeAny (model P w) A (.compLoop c k it acc env) R s
def Rounds (J : It) (g : TG) (b : Bod) (vs : List Nat) (σ : L2.St) (H0 : Hp) (Dn : Hp → Prop) : Prop :=
 ∃ (n : Nat) (Pv : Nat → Hp → Prop), Pv 0 H0 ∧ (∀ H, Pv n H → J.stop n H ∧ Dn H) ∧ ∀ i H, i < n → Pv i H → J.go i H ∧
  ∀ x H', J.yld i H x H' → g x (wipe σ vs) H' fun σ2 H2 => wipe σ2 vs = wipe σ vs ∧ b (Pv (i + 1)) σ2 H2
theorem rounds_of {J : It} {n : Nat} {G : Hp → Prop} {Y : Nat → Hp → V → Hp → Prop} (w : Walk J n G Y) {g : TG} {b : Bod} {vs : List Nat} {σ : L2.St} {H0 : Hp} {Dn : Hp → Prop} (Pv : Nat → Hp → Prop) (h0 : Pv 0 H0) (hG : ∀ i H, i ≤ n → Pv i H → G H)
  (hs : ∀ i x H H', i < n → Pv i H → Y i H x H' → g x (wipe σ vs) H' fun σ2 H2 => wipe σ2 vs = wipe σ vs ∧ b (Pv (i + 1)) σ2 H2) (hd : ∀ H, Pv n H → Dn H) : Rounds J g b vs σ H0 Dn :=
 ⟨n, Pv, h0, fun H p => ⟨w.stops H (hG n H (Nat.le_refl _) p), hd H p⟩, fun i H lt p =>
  let good := hG i H (Nat.le_of_lt lt) p
  ⟨w.goes i H lt good, fun x H' y => hs i x H H' lt p (w.yields i H x H' lt good y)⟩⟩
def BodOk (Y : Cx) (vs : List Nat) (B : Beh) (b : Bod) : Prop :=
 ∀ (pins : List (Addr × Obj)) (σ : L2.St) (H : Hp) (s : Shared) (Nx : Hp → Prop) (good : Shared → Prop) (E : Value → Shared → Prop), Inv Y pins σ H s → b Nx σ H →
  (∀ H' z, Inv Y pins (wipe σ vs) H' z → Nx H' → good z) → B good E s
theorem wiped {Y : Cx} {pins : List (Addr × Obj)} {σ : L2.St} {H : Hp} {s : Shared} (vs : List Nat) (I : Inv Y pins σ H s) : Inv Y pins (wipe σ vs) H s := I.weak (wipe_length σ vs) fun _ _ e => (wipe_some e).1
theorem wipe_in {ws vs : List Nat} {σ : L2.St} (sub : ∀ i ∈ ws, i ∈ vs) {j : Nat} {v : V} (e : (wipe σ vs)[j]? = some (some v)) : (wipe σ ws)[j]? = some (some v) := by
 have ⟨known, out⟩ := wipe_some e
 rw [wipe_out fun z => out (sub j z)]
 exact known
theorem wiped_in {Y : Cx} {pins : List (Addr × Obj)} {σ : L2.St} {H : Hp} {s : Shared} {ws vs : List Nat} (sub : ∀ i ∈ ws, i ∈ vs) (I : Inv Y pins (wipe σ ws) H s) : Inv Y pins (wipe σ vs) H s :=
 I.weak ((wipe_length σ vs).trans (wipe_length σ ws).symm) fun _ _ e => wipe_in sub e
section
variable {Y : Cx} {pins : List (Addr × Obj)}
theorem rounds_walk {c tg : Expr} {k : Nat} {it : Addr} {acc : Value} {B : Beh} {b : Bod} {g : TG} {J : It} {fp : List Addr} {tn : Nat → Heap → Prop} {vs : List Nat} {σ : L2.St} {H : Hp} {s : Shared} {Dn : Hp → Prop} {R : Result → Shared → Prop}
  (hc : Y.calm = true) (none_raises : Y.xe = fun _ _ => False) (L : Loops Y.prog Y.w Y.A c k (.ref it) acc tg Y.env B) (T : Turn Y.prog Y.w Y.K tg J fp it tn) (pg : PG Y tg g) (hB : BodOk Y vs B b)
  (foot : ∀ {σ' : L2.St} {H' : Hp} {s' : Shared}, Inv Y pins σ' H' s' → (∀ a ∈ fp, H' a = none) → ∀ a ∈ fp, FpOk Y pins H' a)
  (I : Inv Y pins (wipe σ vs) H s) (st : tn 0 s.heap) (fr : ∀ a ∈ fp, H a = none) (q : Rounds J g b vs σ H Dn) (good : ∀ H' z, Inv Y pins (wipe σ vs) H' z → (∀ a ∈ fp, H' a = none) → Dn H' → R (.ok .next) z) :
  codeAny (model Y.prog Y.w) Y.A (.compLoop c k (.ref it) acc Y.env) R s := by
 have ⟨n, Pv, p0, last, more⟩ := q
 refine L R (fun m z => ∃ i Hz, m + i = n ∧ Inv Y pins (wipe σ vs) Hz z ∧ tn i z.heap ∧ (∀ a ∈ fp, Hz a = none) ∧ Pv i Hz) (fun m z hz => ?_) n s ⟨0, H, rfl, I, st, fr, p0⟩
 obtain ⟨i, Hz, count, Iz, stz, frz, pz⟩ := hz
 cases m with
 | zero =>
  obtain rfl : i = n := (Nat.zero_add i).symm.trans count
  have ⟨halt, fin⟩ := last Hz pz
  exact thnF (T.done Y rfl rfl rfl hc i pins z (wipe σ vs) Hz _ Iz (foot Iz frz) stz halt) fun r y h => by
   cases h.1
   exact good Hz y h.2 frz fin
 | succ m =>
  have ⟨ahead, body⟩ := more i Hz (by omega) pz
  refine thnF (T.item Y rfl rfl rfl hc i pins z (wipe σ vs) Hz _ Iz (foot Iz frz) stz ahead) fun r z1 h1 => ?_
  obtain ⟨u, rfl, h1⟩ := h1
  refine thnF h1 fun _ z2 h2 => ?_
  obtain ⟨x, H2, I2, rx, yx, st2, fr2⟩ := h2
  have as := pg.run (pins ++ pinsAt fp z2.heap) z2 (wipe σ vs) H2 x u _ (I2.pinned (foot I2 fr2) (T.obj (i + 1) z2.heap st2)) rx (body x H2 yx)
  rw [none_raises] at as
  refine thnF as fun _ z3 h3 => ?_
  obtain ⟨σ3, H3, I3, same, h3⟩ := h3
  refine hB _ σ3 H3 z3 _ _ _ I3 h3 fun Hy y Iy py => ?_
  rw [same] at Iy
  have held : ∀ a ∈ fp, ∀ o, z2.heap.get? a = some o → y.heap.get? a = some o ∧ Hy a = none := fun a ha o e => by
   have pin := Iy.pin (a, o) (List.mem_append.mpr (.inr (List.mem_append.mpr (.inr (mem_pinsAt ha e)))))
   exact ⟨pin.1, pin.2.1⟩
  refine ⟨m, Nat.lt_succ_self m, i + 1, Hy, by omega, Iy.unpinned, T.keep (i + 1) z2.heap y.heap st2 fun a ha o e => (held a ha o e).1, fun a ha => ?_, py⟩
  have ⟨o, e, _⟩ := T.obj (i + 1) z2.heap st2 a ha
  exact (held a ha o e).2
end
abbrev InBlk (X : Cx) (scope : Scope) (p : Cx → Prop) : Prop := ∀ (s : Shared) (H : Hp) (C : Addr) (cl : List (PySem.Str × Addr)) (fp : List Addr), p (X.blk s H scope (compEnvC scope cl C X.env) fp)
section
variable {X : Cx}
def Makes (X : Cx) (mk : Sem Value) (Th : Addr → HO) : Prop := ∀ (pins : List (Addr × Obj)) (σ : L2.St) (H : Hp) (s : Shared) (Q : Value → Shared → Prop), Inv X pins σ H s →
 (∀ z : Shared, Inv X pins σ (upd H s.heap.objs.size (Th s.heap.objs.size)) z → (∀ a o, s.heap.get? a = some o → z.heap.get? a = some o) → s.heap.objs.size < z.heap.objs.size → Q (.ref s.heap.objs.size) z) →
 wpAny (model X.prog X.w) X.A mk Q X.xe s
def Starts (P : Program) (w : World) (A : Around) (c : Expr) (k : Nat) (acc : Value) (env : Env) : Prop := ∀ (it : Value) (R : Result → Shared → Prop) (s : Shared),
 codeAny (model P w) A (.compLoop c k it acc env) R s → wpAny (model P w) A (pyIter it) (fun it' z => codeAny (model P w) A (.compLoop c k it' acc env) R z) (bad P w A env R) s →
 codeAny (model P w) A (.compStart c k it acc env) R s
theorem blk_foot {scope : Scope} {env : Env} {fp : List Addr} {s0 : Shared} {H0 : Hp} {σ : L2.St} {H : Hp} {s : Shared} (I : Inv (X.blk s0 H0 scope env fp) [] σ H s) (fr : ∀ a ∈ fp, H a = none) : ∀ a ∈ fp, FpOk (X.blk s0 H0 scope env fp) [] H a := fun a ha =>
 have cells := I.ok.exf a ha
 ⟨fr a ha, cells.1, I.ok.exfs a ha, Or.inl ha, cells.2, fun p hp => nomatch hp⟩
theorem blk_out {pins : List (Addr × Obj)} {scope : Scope} {env : Env} {fp : List Addr} {s0 z : Shared} {H0 H : Hp} {σ σ' : L2.St} (I0 : Inv X pins σ H0 s0) (f0 : ∀ a ∈ fp, FpOk X pins H0 a) (I : Inv (X.blk s0 H0 scope env fp) [] σ' H z) : Inv X pins σ H z :=
 I0.call' I.os I.base I.hok I.bare fun a ha => have ⟨_, no_locals, _, mine, no_cell, no_pin⟩ := f0 a ha; ⟨mine, no_locals, no_cell, no_pin⟩
theorem pe_comp {c tg iter : Expr} {mk : Sem Value} {Th : Addr → HO} {ifs : List Expr} {rest : List Comprehension} {scope : Scope} {own : List (PySem.Str × Nat)} {pos : Pos} {wi : TI} {g : TG} {B : Addr → Env → Beh} {b : Addr → Bod} {Fresh : Hp → Addr → Prop}
  (ev : eval c X.env = comprehension c scope X.env pos mk false (eval iter X.env)) (cl1 : clausesOf c = ⟨tg, iter, ifs, 0⟩ :: rest) (calm : X.calm = true) (nd : X.N.Nodup) (src : PI X tg iter wi) (ok : BlkOk X.N X.env.scope scope own) (same : ∀ x, foldedSetIterable iter X.env x = pure x)
  (fresh : ∀ {pins : List (Addr × Obj)} {σ : L2.St} {H : Hp} {s : Shared}, Inv X pins σ H s → Fresh H s.heap.objs.size) (hmk : Makes X mk Th) (hst : ∀ (D : Addr) (env : Env), Starts X.prog X.w X.A c 0 (.ref D) env) (hL : ∀ (it D : Addr) (env : Env), Loops X.prog X.w X.A c 0 (.ref it) (.ref D) tg env (B D env))
  (hg : InBlk X scope fun Y => PG Y tg g) (hB : ∀ D, InBlk X scope fun Y => BodOk Y (own.map (·.2)) (B D Y.env) (b D)) :
  PE X c (fun σ H Q => wi σ H fun J H1 => ∀ D, Fresh H1 D → Rounds J g (b D) (own.map (·.2)) σ (upd H1 D (Th D)) fun H => Q (.ref D) H) := by
 refine ⟨fun pins s σ H Q I h => ?_⟩
 rw [ev]
 have caught : ∀ y ∈ scope.names, y.2 = .free → ∃ a, X.env.cells.lookup y.1 = some a := fun y hy free => I.ok.has y.1 (ok.free y hy free)
 refine wpAny_comprehension_free cl1 same (closure_ok caught) ok.kind (fun y hy loc => (ok.uniq y hy).trans (congrArg some loc)) (thn (src.run pins s σ H _ I h) fun _ s1 made => thn made fun _ s2 h2 => ?_)
 obtain ⟨it, fp, tn, J, H1, rfl, I1, T, st, foot, rounds⟩ := h2
 have R1 := rounds s2.heap.objs.size (fresh I1)
 refine hmk pins σ H1 s2 _ I1 fun s3 I3 grows more => newEnv_comp ?_
 have low : ∀ a ∈ fp, a < s2.heap.objs.size := fun a ha => have ⟨_, e, _⟩ := T.obj 0 s2.heap st a ha; Heap.lt_size e
 have foot3 : ∀ a ∈ fp, FpOk X pins (upd H1 s2.heap.objs.size (Th s2.heap.objs.size)) a := fun a ha => ⟨(upd_ne (Nat.ne_of_lt (low a ha))).trans (foot a ha).1, (foot a ha).2⟩
 have st3 : tn 0 s3.heap := T.keep 0 s2.heap s3.heap st fun a _ o e => grows a o e
 have I4 := block_start I3 ok nd fun a ha => ⟨foot3 a ha, Nat.lt_trans (low a ha) more⟩
 generalize s2.heap.objs.size = D at R1 I3 foot3 I4 ⊢
 have hB4 := hB D s3 (upd H1 D (Th D)) s3.heap.objs.size (cellsFrom (s3.heap.objs.size + 1) scope.names (cloFrom X.env.cells scope.names [])) fp
 have pg4 := hg s3 (upd H1 D (Th D)) s3.heap.objs.size (cellsFrom (s3.heap.objs.size + 1) scope.names (cloFrom X.env.cells scope.names [])) fp
 have atC : (compEnvC scope (cellsFrom (s3.heap.objs.size + 1) scope.names (cloFrom X.env.cells scope.names [])) s3.heap.objs.size X.env).locals = s3.heap.objs.size := rfl
 generalize new_env : compEnvC scope (cellsFrom (s3.heap.objs.size + 1) scope.names (cloFrom X.env.cells scope.names [])) s3.heap.objs.size X.env = ce at I4 hB4 pg4 atC
 generalize new_state : ({ s3 with heap := pushCells (s3.heap.push { cls := .type "dict", data := .dict #[] }) scope.names } : Shared) = s4 at I4 ⊢
 have st4 : tn 0 s4.heap := T.keep 0 s3.heap s4.heap st3 fun a _ o e => by
  subst new_state
  exact pushCells_keeps _ _ _ _ (Heap.get?_push_of_some _ e)
 have run := rounds_walk (Y := X.blk s3 (upd H1 D (Th D)) scope ce fp) (R := compPost (model X.prog X.w) X.A X.xe none (EP X pins σ Q) (.ref D) s3.heap.objs.size) (pins := []) calm rfl (hL it D ce) T pg4 hB4 (fun I fr => blk_foot I fr) I4 st4 (fun a ha => (foot3 a ha).1) R1 fun H' z I' fr' fin => by
  have ⟨m, ns, _⟩ := I'.loc
  have gone : H' s3.heap.objs.size = none := atC ▸ I'.free
  refine ⟨m, atC ▸ ns, fun h' but => ?_⟩
  have Iz := blk_out I3 foot3 I'
  have ⟨g0, g1, _, g3, g4, g5⟩ := I3.fpOk (Nat.le_refl _) gone
  exact ⟨.ref D, H', Iz.turned (t' := z.toks) (fun a o ne e => (but.2 a ne).trans e) g0 g1 g3 g4 g5, rfl, fin⟩
 subst new_env
 exact hst D _ (.ref it) _ s4 run (T.self X.A 0 s4 _ _ st4 run)
end
end SL
set_option Elab.async false
set_option linter.all false
set_option maxRecDepth 100000
set_option maxHeartbeats 2000000
namespace SL
open PySem PySem.Spec PySem.W PyProof.Rows L2
abbrev testsOf (ifs : List Expr) (env : Env) : Sem Bool := forIn ifs true fun t r => if r = true then do let ok ← isTrue t env (eval t env); pure (ForInStep.yield ok) else pure (ForInStep.yield r)
def turnOf (c : Expr) (k : Nat) (it acc : Value) (env : Env) (p : Pos) (tg : Expr) (ifs : List Expr) (inner : Sem Unit) : Sem Fin := do
 standAt p
 match ← pyNext it with
 | none => pure (.done .next)
 | some u =>
  letOwnedTupleGo tg it u
  assign tg env u
  let ok ← testsOf ifs env
  if ok then do
   inner
   again (.compLoop c k it acc env)
  else again (.compLoop c k it acc env)
def afterTests (P : Program) (w : World) (A : Around) (ifs : List Expr) (env : Env) (inner : Sem Unit) : Beh := fun good E s =>
 wpAny (model P w) A (testsOf ifs env) (fun ok z => if ok = true then wpAny (model P w) A inner (fun _ y => good y) E z else good z) E s
structure Clause (P : Program) (w : World) (c : Expr) (k : Nat) (acc : Value) (env : Env) (g : Comprehension) : Prop where
 at_k : (clausesOf c)[k]? = some g
 plain : g.is_async = 0
 quiet : ∀ it, (Code.compLoop c k it acc env).quiet = true
 turn : ∀ it, (model P w).den (.compLoop c k it acc env) = (compTurn c k it acc env).onRaise fun x => do noteFrame x env; theTreesLotGoes x
 start : ∀ it, (model P w).den (.compStart c k it acc env) = (compStart c k it acc env).onRaise fun x => do noteFrame x env; standAt theWindowsPlace
 under : ∀ (A : Around) it, A.under (.compLoop c k it acc env) = A ∧ A.under (.compStart c k it acc env) = A
section
variable {P : Program} {w : World} {A : Around} {c : Expr} {k : Nat} {acc : Value} {env : Env} {g : Comprehension}
theorem starts_of (C : Clause P w c k acc env g) : Starts P w A c k acc env := fun it R s now later => by
 refine codeAny_of_tree ?_
 rw [C.start it, (C.under A it).2]
 refine wpAny_notedAt ?_
 have form : PySem.compStart c k it acc env = (do
   if (← ask).params.followText "comprehension-iter-twice" then again (.compLoop c k it acc env)
   else do
    rule "comprehension.iter-twice"
    standAt g.iter.pos
    again (.compLoop c k (← pyIter it) acc env)) := by
  simp only [PySem.compStart, C.at_k, C.plain, Option.elim, bne_self_eq_false, Bool.false_eq_true, if_false]
 rw [form]
 refine wpAny_bind (wpAny_askSetting (wpAny_ite ?_))
 by_cases twice : (model P w).w.params.followText "comprehension-iter-twice" = true
 ·rw [if_pos twice]
  exact wpAny_pure ⟨C.quiet it, now⟩
 ·rw [if_neg twice]
  exact wpAny_bind (wpAny_rule (wpAny_bind (wpAny_standAt (wpAny_bind (wpAny_mono later (fun it' z hz => wpAny_pure ⟨C.quiet it', hz⟩) fun _ _ x => x)))))
theorem loops_of (C : Clause P w c k acc env g) {tg : Expr} {ifs : List Expr} {p : Pos} {it : Value} {inner : Sem Unit} (form : compTurn c k it acc env = turnOf c k it acc env p tg ifs inner) : Loops P w A c k it acc tg env (afterTests P w A ifs env inner) := fun R I turn m s hI => by
 refine codeAny_loop (C.quiet it) I (fun m s hI => ?_) m hI
 rw [C.turn it, (C.under A it).1, form]
 refine wpAny_noted (wpAny_bind (wpAny_standAt (wpAny_bind (wpAny_mono (turn m s hI) (fun r s1 h1 => ?_) fun _ _ x => x))))
 match r, h1 with
 | none, h1 => exact wpAny_pure h1
 | some u, h1 =>
  refine wpAny_bind (wpAny_mono h1 (fun _ s2 h2 => wpAny_bind (wpAny_mono h2 (fun _ s3 h3 => wpAny_bind (wpAny_mono h3 (fun ok s4 h4 => ?_) fun _ _ x => x)) fun _ _ x => x)) fun _ _ x => x)
  match ok, h4 with
  | false, h4 => exact wpAny_pure ⟨rfl, h4⟩
  | true, h4 => exact wpAny_bind (wpAny_mono h4 (fun _ s5 h5 => wpAny_pure ⟨rfl, h5⟩) fun _ _ x => x)
end
def InnerOk (Y : Cx) (vs : List Nat) (inner : Sem Unit) (b : Bod) : Prop :=
 ∀ (pins : List (Addr × Obj)) (σ : L2.St) (H : Hp) (s : Shared) (Nx : Hp → Prop) (good : Shared → Prop) (E : Value → Shared → Prop), Inv Y pins σ H s → b Nx σ H →
  (∀ H' z, Inv Y pins (wipe σ vs) H' z → Nx H' → good z) → wpAny (model Y.prog Y.w) Y.A inner (fun _ y => good y) E s
abbrev ifB (tt : TT) (b : Bod) : Bod := fun Nx σ H => tt σ H fun t H1 => if t = true then b Nx σ H1 else Nx H1
theorem body_of {Y : Cx} {vs : List Nat} {ifs : List Expr} {inner : Sem Unit} {tt : TT} {b : Bod} (nr : Y.xe = fun _ _ => False) (pt : PTs Y ifs tt) (hI : InnerOk Y vs inner b) : BodOk Y vs (afterTests Y.prog Y.w Y.A ifs Y.env inner) (ifB tt b) := fun pins σ H s Nx good E I h on => by
 have tests := pt.run pins s σ H _ I h
 rw [nr] at tests
 refine thnF tests fun ok z hz => ?_
 obtain ⟨H1, I1, h1⟩ := hz
 match ok, h1 with
 | false, h1 => exact on H1 z (wiped vs I1) h1
 | true, h1 => exact hI pins σ H1 z Nx good E I1 h1 on
abbrev putCode (kx vx : Expr) (D : Addr) (env : Env) : Sem Unit := do
 let kv ← eval kx env
 let vv ← holding [kv] (eval vx env)
 standAt { kx.pos with endLine := vx.pos.endLine, endCol := vx.pos.endCol }
 holding [kv, vv] (dictSet D kv vv)
abbrev putB (tk tv : TE) (D : Addr) : Bod := fun Nx σ H => tk σ H fun y H1 => tv σ H1 fun z H2 => ∃ kvs k, y = kV k ∧ H2 D = some (.dK kvs) ∧ kvs.length < sizeLine ∧ Nx (upd H2 D (.dK (putK kvs k z)))
theorem put_ok {Y : Cx} {vs : List Nat} {kx vx : Expr} {tk tv : TE} {D : Addr} (nr : Y.xe = fun _ _ => False) (pk : PE Y kx tk) (pv : PE Y vx tv) : InnerOk Y vs (putCode kx vx D Y.env) (putB tk tv D) := fun pins σ H s Nx good E I h on => by
 have key := pk.run pins s σ H _ I h
 rw [nr] at key
 refine wpAny_bind (thnF key fun u s1 h1 => ?_)
 obtain ⟨y, H1, I1, ru, h1⟩ := h1
 have val := pv.run pins s1 σ H1 _ I1 h1
 rw [nr] at val
 refine wpAny_bind (wpAny_holding (thnF val fun r s2 h2 => wpAny_bind (wpAny_standAt (wpAny_holding ?_))))
 obtain ⟨z, H2, I2, rr, kvs, key, rfl, at_D, room, nx⟩ := h2
 exact d_dictSet I2 at_D room ru rr fun s3 I3 => on _ s3 (wiped vs I3) nx
theorem makes_dict {X : Cx} : Makes X newDict (fun _ => .dK []) := fun pins σ H s Q I on =>
 wpAny_newObj_type (on _ (I.laid (t' := s.toks) (fun a o e => Heap.get?_push_of_some _ e) (Nat.le_refl _) (dk_empty s.heap I.big)) (fun a o e => Heap.get?_push_of_some _ e) (by rw [Heap.size_push]; exact Nat.lt_succ_self _))
abbrev innerCode (c i1 : Expr) (acc : Value) (env : Env) : Sem Unit := do
 let x ← eval i1 env
 standAt i1.pos
 let x ← foldedSetIterable i1 env x
 let it1 ← holding [x] (pyIter x)
 let _ ← runOwn (.compStart c 1 it1 acc env) env
 pure ()
section
variable {P : Program} {w : World} {env : Env} {kx vx tg iter tg1 iter1 elt : Expr} {ifs ifs1 : List Expr} {scope : Scope} {pos : Pos} {D : Addr}
theorem clause_d20 {acc : Value} : Clause P w (.DictComp kx vx [⟨tg, iter, ifs, 0⟩, ⟨tg1, iter1, ifs1, 0⟩] scope pos) 0 acc env ⟨tg, iter, ifs, 0⟩ := ⟨rfl, rfl, fun _ => rfl, fun _ => rfl, fun _ => rfl, fun _ _ => ⟨rfl, rfl⟩⟩
theorem clause_d21 {acc : Value} : Clause P w (.DictComp kx vx [⟨tg, iter, ifs, 0⟩, ⟨tg1, iter1, ifs1, 0⟩] scope pos) 1 acc env ⟨tg1, iter1, ifs1, 0⟩ := ⟨rfl, rfl, fun _ => rfl, fun _ => rfl, fun _ => rfl, fun _ _ => ⟨rfl, rfl⟩⟩
theorem form_d21 {it : Value} : compTurn (.DictComp kx vx [⟨tg, iter, ifs, 0⟩, ⟨tg1, iter1, ifs1, 0⟩] scope pos) 1 it (.ref D) env = turnOf (.DictComp kx vx [⟨tg, iter, ifs, 0⟩, ⟨tg1, iter1, ifs1, 0⟩] scope pos) 1 it (.ref D) env iter1.pos tg1 ifs1 (putCode kx vx D env) := rfl
theorem form_d20 {it : Value} : compTurn (.DictComp kx vx [⟨tg, iter, ifs, 0⟩, ⟨tg1, iter1, ifs1, 0⟩] scope pos) 0 it (.ref D) env = turnOf (.DictComp kx vx [⟨tg, iter, ifs, 0⟩, ⟨tg1, iter1, ifs1, 0⟩] scope pos) 0 it (.ref D) env iter.pos tg ifs (innerCode (.DictComp kx vx [⟨tg, iter, ifs, 0⟩, ⟨tg1, iter1, ifs1, 0⟩] scope pos) iter1 (.ref D) env) := by
 simp only [turnOf, innerCode, bind_assoc, pure_bind]
 rfl
end
abbrev innerB (wi1 : TI) (g1 : TG) (b1 : Bod) (vs1 : List Nat) : Bod := fun Nx σ H => wi1 σ H fun J1 H1 => Rounds J1 g1 b1 vs1 σ H1 Nx
theorem inner_ok {Y : Cx} {vs vs1 : List Nat} {c tg1 i1 : Expr} {acc : Value} {B1 : Beh} {wi1 : TI} {g1 : TG} {b1 : Bod} (nr : Y.xe = fun _ _ => False) (calm : Y.calm = true) (sub : ∀ i ∈ vs1, i ∈ vs) (src : PI Y tg1 i1 wi1) (same : ∀ x, foldedSetIterable i1 Y.env x = pure x)
  (C1 : Starts Y.prog Y.w Y.A c 1 acc Y.env) (L1 : ∀ it, Loops Y.prog Y.w Y.A c 1 (.ref it) acc tg1 Y.env B1) (pg : PG Y tg1 g1) (hB : BodOk Y vs1 B1 b1) : InnerOk Y vs (innerCode c i1 acc Y.env) (innerB wi1 g1 b1 vs1) := fun pins σ H s Nx good E I h on => by
 have made := src.run pins s σ H _ I h
 rw [nr] at made
 refine wpAny_bind (thnF made fun x s1 h1 => wpAny_bind (wpAny_standAt (wpAny_bind (wpAny_of_eq (same x) (wpAny_bind (wpAny_holding (thnF h1 fun it1 s2 h2 => wpAny_bind (wpAny_runOwn ?_))))))))
 obtain ⟨it, fp, tn, J1, H1, rfl, I1, T, st, foot, rounds⟩ := h2
 rw [Around.mark_none]
 have run := rounds_walk (R := fun r y => match r with | .ok f => wpAny (model Y.prog Y.w) Y.A (pure () : Sem Unit) (fun _ z => good z) E y | .error e => cameBackBy (model Y.prog Y.w) Y.A Y.env E e y) calm nr (L1 it) T pg hB (fun _ fr a ha => ⟨fr a ha, (foot a ha).2⟩) (wiped vs1 I1) st (fun a ha => (foot a ha).1) rounds
  fun H' z I' _ nx => wpAny_pure (on H' z (wiped_in sub I') nx)
 exact C1 (.ref it) _ s2 run (T.self Y.A 0 s2 _ _ st run)
section
variable {X : Cx}
def tDc2 (wi : TI) (g : TG) (tt : TT) (wi1 : TI) (g1 : TG) (tt1 : TT) (tk tv : TE) (vs vs1 : List Nat) : TE := fun σ H Q => wi σ H fun J H1 => ∀ D, H1 D = none →
 Rounds J g (ifB tt (innerB wi1 g1 (ifB tt1 (putB tk tv D)) vs1)) vs σ (upd H1 D (.dK [])) fun H => Q (.ref D) H
theorem pe_dc2 {kx vx tg iter tg1 iter1 : Expr} {ifs ifs1 : List Expr} {scope : Scope} {own : List (PySem.Str × Nat)} {vs1 : List Nat} {pos : Pos} {wi wi1 : TI} {g g1 : TG} {tt tt1 : TT} {tk tv : TE}
  (calm : X.calm = true) (nd : X.N.Nodup) (src : PI X tg iter wi) (ok : BlkOk X.N X.env.scope scope own) (sub : ∀ i ∈ vs1, i ∈ own.map (·.2)) (hg : InBlk X scope fun Y => PG Y tg g) (ht : InBlk X scope fun Y => PTs Y ifs tt)
  (src1 : InBlk X scope fun Y => PI Y tg1 iter1 wi1) (hg1 : InBlk X scope fun Y => PG Y tg1 g1) (ht1 : InBlk X scope fun Y => PTs Y ifs1 tt1) (hk : InBlk X scope fun Y => PE Y kx tk) (hv : InBlk X scope fun Y => PE Y vx tv)
  (same : ∀ x, foldedSetIterable iter X.env x = pure x := by intro _; rfl) (same1 : ∀ env x, foldedSetIterable iter1 env x = pure x := by intro _ _; rfl) :
  PE X (.DictComp kx vx [⟨tg, iter, ifs, 0⟩, ⟨tg1, iter1, ifs1, 0⟩] scope pos) (tDc2 wi g tt wi1 g1 tt1 tk tv (own.map (·.2)) vs1) :=
 pe_comp (Fresh := fun H D => H D = none) (Th := fun _ => .dK []) (b := fun D => ifB tt (innerB wi1 g1 (ifB tt1 (putB tk tv D)) vs1)) rfl rfl calm nd src ok same (fun I => I.hok.fresh (Nat.le_refl _)) makes_dict (fun D env => starts_of clause_d20) (fun it D env => loops_of clause_d20 form_d20) hg
  fun D s H C cl fp => body_of rfl (ht s H C cl fp) (inner_ok rfl calm sub (src1 s H C cl fp) (same1 _) (starts_of clause_d21) (fun it => loops_of clause_d21 form_d21) (hg1 s H C cl fp) (body_of rfl (ht1 s H C cl fp) (put_ok rfl (hk s H C cl fp) (hv s H C cl fp))))
end
end SL
set_option Elab.async false
set_option linter.all false
set_option maxRecDepth 100000
set_option maxHeartbeats 2000000
namespace SL
open PySem PySem.Spec PyProof.Rows L2
theorem meets_enum1 {v : Value} {o : Obj} {H : Heap → Prop} (B : Begins v o H) :
  Meets (Builtin.«enumerate.__new__» ⟨[.type "enumerate", v], []⟩) (fun _ R s => H s.heap ∧
   R (.ok (.ret (.ref (s.heap.push o).objs.size))) { s with heap := (s.heap.push o).push { cls := .type "enumerate", data := .fields #[.none, .bool false, .ref s.heap.objs.size, rawInt 0, .none, .none] } }) :=
 .of_wp fun prog w A R s pre => by
  have no_sub := sub_enumerate
  obtain ⟨held, ret⟩ := pre
  have iter : ∀ {A' : Around} {E : Value → Shared → Prop} {Q : Value → Shared → Prop}, Q (.ref s.heap.objs.size) ⟨s.heap.push o, s.gens, s.drawn, s.toks, s.os⟩ → wpAny (model prog w) A' (pyIter v) Q E s := fun q => B.iter prog w _ _ s _ held q
  obtain ⟨h, g, d, t, os⟩ := s
  wp_walk using iter
  refine wpAny_stack_any fun _ => wpAny_pure ?_
  split
  next c _ _ _ _ _ => cases c == Value.type "enumerate" <;> (wp_walk using iter; exact ⟨_, rfl, ret⟩)
  next => wp_walk using iter; exact ⟨_, rfl, ret⟩
section
variable {prog : Program} {w : World} {A : Around} {E : Value → Shared → Prop} {s : Shared}
theorem enum1_call {v : Value} {o : Obj} {H : Heap → Prop} {Q : Value → Shared → Prop} (B : Begins v o H) (h1 : H s.heap)
  (h : ∀ h', IsEnum h' (s.heap.objs.size + 1) s.heap.objs.size 0 .none → h'.get? s.heap.objs.size = some o → (∀ b o, s.heap.get? b = some o → h'.get? b = some o) → Q (.ref (s.heap.objs.size + 1)) { s with heap := h' }) :
  wpAny (model prog w) A (call (.type "enumerate") [v]) Q E s := by
 refine callType_new F.called_enumerate (by decide) (F.typeCall_enumerate_1 _) (F.newCall_enumerate_1 _) (fun obj => F.args_object_init_2 obj _) F.entry_enumerate_new (meets_enum1 B) ⟨h1, ?_⟩
 have hz : (s.heap.push o).objs.size = s.heap.objs.size + 1 := Heap.size_push ..
 show _ ∧ _
 rw [hz]
 have he := Heap.get?_push_size (s.heap.push o) (o := { cls := .type "enumerate", data := .fields #[.none, .bool false, .ref s.heap.objs.size, rawInt 0, .none, .none] }) rfl
 rw [hz] at he
 exact ⟨⟨_, he, rfl⟩, h _ he (Heap.get?_push_of_some _ (Heap.get?_push_size _ B.free)) fun b o x => Heap.get?_push_of_some _ (Heap.get?_push_of_some _ x)⟩
end
def IteT (K : PySem.W.Frag) (a : Addr) : It :=
 ⟨fun i H => ∃ (xs : List V) (x : V), SqT K H a xs ∧ xs[i]? = some x, fun i H v H' => ∃ T x, v = .ref T ∧ H T = none ∧ H' = upd H T (.tup [.int (i : Nat), x]) ∧ ∀ xs, SqT K H a xs → xs[i]? = some x, fun i H => ∃ xs : List V, SqT K H a xs ∧ xs.length ≤ i⟩
structure EnumT (a e it : Addr) (i : Nat) (h : Heap) : Prop where
 outer : ∃ old, IsEnum h e it ((i : Nat) : Int) old
 inner : h.IsTupleIter it a i
 apart : e ≠ it ∧ a ≠ it ∧ e ≠ a
theorem enumT_obj {a e it : Addr} {i : Nat} {h : Heap} (st : EnumT a e it i h) : ∀ b ∈ [e, it], ∃ o, h.get? b = some o ∧ ∀ v, o.data ≠ .cell v := fun b hb => by
 have ⟨_, at_e⟩ := st.outer
 have ⟨o, at_it, _, dat⟩ := st.inner
 cases hb with
 | head => exact ⟨_, at_e, fun v q => nomatch q⟩
 | tail _ hb => cases List.mem_singleton.mp hb; exact ⟨o, at_it, fun v q => nomatch dat.symm.trans q⟩
theorem enumT_next {X : Cx} {pins : List (Addr × Obj)} {s : Shared} {σ : L2.St} {H : Hp} {E : Value → Shared → Prop} {elts : List Expr} {kk i : Nat} {tpos : Pos} {a e it : Addr} {xs : List V} {x : V} (hc : X.calm = true) (I : Inv X pins σ H s) (hf : ∀ b ∈ [e, it], FpOk X pins H b) (st : EnumT a e it i s.heap) (tup : SqT X.K H a xs) (hx : xs[i]? = some x) :
  wpAny (model X.prog X.w) X.A (pyNext (.ref e)) (fun r s1 => ∃ u, r = some u ∧ wpAny (model X.prog X.w) X.A (letOwnedTupleGo (.Tuple elts kk tpos) (.ref e) u) (fun _ z => ∃ v H', Inv X pins σ H' z ∧ RelV v u ∧ (IteT X.K a).yld i H v H' ∧ EnumT a e it (i + 1) z.heap ∧ ∀ b ∈ [e, it], H' b = none) E s1) E s := by
 obtain ⟨us, rel, at_a, _⟩ := I.tuple tup
 obtain ⟨u, hu, ru⟩ := rel.get hx
 have ⟨_, at_e⟩ := st.outer
 have old : ∀ b ∈ [e, it], b < s.heap.objs.size := fun b hb => have ⟨_, q, _⟩ := enumT_obj st b hb; Heap.lt_size q
 have more : i < us.toArray.size := by rw [List.size_toArray]; exact (List.getElem?_eq_some_iff.mp hu).1
 refine wpAny_pyNext_enum_itemD (Draws.tuple (A := X.A.in1) (I.ok.hd hc) it a st.apart.2.1 us.toArray) at_e ⟨st.inner, at_a⟩ more st.apart.1 (by simp [st.apart.1, st.apart.2.2]) fun y h1 tk hy at_e1 st1 new _ rest => ?_
 obtain rfl : u = y := Option.some.inj (hu.symm.trans ((List.getElem?_toArray ..).symm.trans hy))
 refine ⟨_, rfl, wpAny_letOwnedTupleGo_enum (s := ⟨h1, s.gens, s.drawn, tk + 1, s.os⟩) at_e1 fun h2 at_e2 but => ?_⟩
 have born : ObjOk X.prog X.w (upd H s.heap.objs.size (.tup [.int (i : Nat), x])) h2 s.heap.objs.size (.tup [.int (i : Nat), x]) :=
  ⟨(by decide : 2 ≤ sizeLine), [.int i tk, u], .cons ⟨_, rfl⟩ (.cons ru .nil), ⟨_, (but.2 _ (Nat.ne_of_gt (old e (.head _)))).trans new, rfl, _, rfl⟩⟩
 refine ⟨.ref s.heap.objs.size, _, I.turnedNew (t' := tk + 1) (ch := [e, it]) (fun b o out q => ?_) hf (Nat.le_refl _) born, rfl, ⟨_, x, rfl, I.hok.fresh (Nat.le_refl _), rfl, fun ys hy => I.tuple_inj hy tup ▸ hx⟩, ⟨⟨u, ?_⟩, st1.1.at fun o q => (but.2 it (Ne.symm st.apart.1)).trans q, st.apart⟩, fun b hb => (upd_ne (Nat.ne_of_lt (old b hb))).trans (hf b hb).1⟩
 ·have ne : b ≠ e ∧ b ≠ it := ⟨fun z => out (z ▸ .head _), fun z => out (z ▸ .tail _ (.head _))⟩
  exact (but.2 b ne.1).trans (rest b o ne.1 ne.2 q)
 ·exact (Int.natCast_succ i : ((i + 1 : Nat) : Int) = (i : Int) + 1) ▸ at_e2
theorem enumT_end {X : Cx} {pins : List (Addr × Obj)} {s : Shared} {σ : L2.St} {H : Hp} {E : Value → Shared → Prop} {i : Nat} {a e it : Addr} {xs : List V} (hc : X.calm = true) (I : Inv X pins σ H s) (hf : ∀ b ∈ [e, it], FpOk X pins H b) (st : EnumT a e it i s.heap) (tup : SqT X.K H a xs) (le : xs.length ≤ i) :
  wpAny (model X.prog X.w) X.A (pyNext (.ref e)) (fun r z => r = none ∧ Inv X pins σ H z) E s := by
 obtain ⟨us, rel, at_a, _⟩ := I.tuple tup
 have ⟨_, at_e⟩ := st.outer
 have over : us.toArray[i]? = none := by rw [List.getElem?_toArray]; exact List.getElem?_eq_none (rel.length ▸ le)
 have ⟨f0, f1, _, f3, f4, f5⟩ := hf it (.tail _ (.head _))
 have spent : Draws X.prog X.w X.A.in1 it [it, a] i (fun _ _ => True) (fun j h => j = i ∧ h.IsTupleIter it a i ∧ h.IsTuple a us.toArray) :=
  {
   live := fun _ _ q => have ⟨o, ho, _⟩ := q.2.1; ⟨o, ho⟩
   frame := fun _ _ _ q keep => ⟨q.1, q.2.1.at fun o => keep it (.head _) o, q.2.2.at fun o => keep a (.tail _ (.head _)) o⟩
   item := fun j _ _ _ lt q _ => absurd (q.1 ▸ lt) (Nat.lt_irrefl _)
   done := fun _ _ _ q hE => wpAny_nextOf_tuple_end (I.ok.hd hc) q.2.1 q.2.2 over hE
  }
 exact wpAny_pyNext_enum_endD spent at_e ⟨rfl, st.inner, at_a⟩ fun h' same => ⟨rfl, I.turned (t' := s.toks) (fun b o ne q => same b o ne q) f0 f1 f3 f4 f5⟩
theorem turn_enumT {P : Program} {w : World} {K : PySem.W.Frag} {elts : List Expr} {kk : Nat} {tpos : Pos} (a e it : Addr) : Turn P w K (.Tuple elts kk tpos) (IteT K a) [e, it] e (EnumT a e it) :=
 {
  mem := .head _
  obj := fun _ _ st => enumT_obj st
  keep := fun _ _ _ st keep => ⟨have ⟨u, q⟩ := st.outer; ⟨u, keep e (.head _) _ q⟩, st.inner.at fun o => keep it (.tail _ (.head _)) o, st.apart⟩
  item := fun X hP hw hK hc i pins s σ H E I hf st ⟨xs, x, tup, hx⟩ => by subst hP hw hK; exact enumT_next hc I hf st tup hx
  done := fun X hP hw hK hc i pins s σ H E I hf st ⟨xs, tup, le⟩ => by subst hP hw hK; exact enumT_end hc I hf st tup le
  self := fun A i s Q E st h => have ⟨_, q⟩ := st.outer; wpAny_pyIter_enum q h
 }
def iEnumT (K : PySem.W.Frag) (ta : TA) : TI := fun σ H R => ta σ H fun vs H1 => ∃ a xs, vs = [.ref a] ∧ SqT K H1 a xs ∧ R (IteT K a) H1
theorem pi_enumT {X : Cx} {K : PySem.W.Frag} {e : Expr} {ta : TA} {p pos tpos : Pos} {elts : List Expr} {kk : Nat} (eK : X.K = K) (hg : Gl X "enumerate") (hm : X.mg "enumerate" = none) (ha : PA X [e] ta) (hs : starEach [e] X.env = [(false, eval e X.env)] := by rfl) :
  PI X (.Tuple elts kk tpos) (.Call (.Name "enumerate" p) [e] [] pos) (iEnumT K ta) := by
 subst eK
 refine ⟨fun pins s σ H R I h => ?_⟩
 refine Call_ (ld_blt I hg hm boot_enumerate (PyProof.Rows.callWith_type1 (thn (ha.run pos pins s σ H _ I h) fun us s1 ⟨vs, H1, I1, r1, q1⟩ => ?_) hs rfl))
 obtain ⟨a, xs, rfl, tup, q⟩ := q1
 obtain ⟨u, rfl, ru⟩ := vals1 r1
 obtain rfl : u = Value.ref a := ru
 obtain ⟨_, _, at_a, _⟩ := I1.tuple tup
 have low : a < s1.heap.objs.size := have ⟨_, z, _⟩ := at_a; Heap.lt_size z
 have new : ∀ b ∈ [s1.heap.objs.size + 1, s1.heap.objs.size], s1.heap.objs.size ≤ b := fun b hb => by simp at hb; omega
 exact enum1_call (begins_tuple a _) at_a fun h' at_e at_it keep => wpAny_pyIter_enum at_e
  ⟨s1.heap.objs.size + 1, _, _, _, H1, rfl, I1.kept (t' := s1.toks) keep, turn_enumT a (s1.heap.objs.size + 1) s1.heap.objs.size, ⟨⟨.none, at_e⟩, ⟨_, at_it, rfl, rfl⟩, Nat.succ_ne_self _, Nat.ne_of_lt low, Nat.ne_of_gt (Nat.lt_succ_of_lt low)⟩, fun b hb => I1.fpOk (new b hb) (I1.hok.fresh (new b hb)), q⟩
theorem walk_enumT {K : PySem.W.Frag} {a : Addr} {xs : List V} : Walk (IteT K a) xs.length (fun H => SqT K H a xs) (YPair (fun i => some (.int (i : Nat))) (fun i => xs[i]?)) := by
 refine ⟨fun i _ hi q => ⟨xs, xs[i], q, by simp [hi]⟩, fun _ q => ⟨xs, q, Nat.le_refl _⟩, fun i H v H' _ q y => ?_⟩
 obtain ⟨T, x, h1, h2, h3, h4⟩ := y
 exact ⟨T, .int (i : Nat), x, h1, h2, h3, rfl, h4 xs q⟩
def rMinS (K : PySem.W.Frag) : List V → Hp → VK → Prop := fun vs H Q => ∃ (a : Addr) (z : Str) (zs : List Str), vs = [V.ref a] ∧ SqL K H a ((z :: zs).map V.str) ∧ ∀ m, m ∈ z :: zs → (∀ y ∈ z :: zs, ¬ y.cps.toList < m.cps.toList) → Q (.str m) H
theorem min_strs : ∀ (zs : List Str) (z : Str), ∃ m, W.minD (.str z) (zs.map .str) = .str m ∧ m ∈ z :: zs ∧ ∀ y ∈ z :: zs, ¬ y.cps.toList < m.cps.toList
 | [], z => ⟨z, rfl, List.mem_cons_self, fun y hy => by rw [List.mem_singleton.mp hy]; exact List.lt_irrefl _⟩
 | w :: r, z => by
  have key : W.minD (.str z) ((w :: r).map .str) = W.minD (if W.dataLt (.str w) (.str z) then .str w else .str z) (r.map .str) := rfl
  by_cases c : w.cps.toList < z.cps.toList
  ·obtain ⟨m, h1, h2, h3⟩ := min_strs r w
   refine ⟨m, ?_, List.mem_cons_of_mem _ h2, fun y hy => ?_⟩
   ·rw [key, W.dataLt_str, if_pos (decide_eq_true c)]
    exact h1
   ·rcases List.mem_cons.mp hy with rfl | hy
    ·exact fun q => h3 w List.mem_cons_self (List.lt_trans c q)
    ·exact h3 y hy
  ·obtain ⟨m, h1, h2, h3⟩ := min_strs r z
   refine ⟨m, ?_, ?_, fun y hy => ?_⟩
   ·rw [key, W.dataLt_str, if_neg (by simpa using c)]
    exact h1
   ·rcases List.mem_cons.mp h2 with rfl | h2
    ·exact List.mem_cons_self
    ·exact List.mem_cons_of_mem _ (List.mem_cons_of_mem _ h2)
   ·rcases List.mem_cons.mp hy with rfl | hy
    ·exact h3 y List.mem_cons_self
    ·rcases List.mem_cons.mp hy with rfl | hy
     ·intro q
      rcases List.le_total z.cps.toList y.cps.toList with t | t
      ·exact h3 z List.mem_cons_self (List.lt_of_le_of_lt t q)
      ·exact c (Decidable.byContradiction fun n => by
       have e := List.le_antisymm t (List.not_lt.mp n)
       rw [e] at q
       exact h3 z List.mem_cons_self q)
     ·exact h3 y (List.mem_cons_of_mem _ hy)
theorem cr_minS {X : Cx} (hc : X.calm = true) (hu : X.A.units + 64 < cLine) : CallR X (.builtin "min") (rMinS X.K) := by
 intro pins s σ H vs us Q I r h
 obtain ⟨a, z, zs, rfl, hs, q⟩ := h
 obtain ⟨its, rv, hl, _⟩ := I.list hs
 rw [Vals.ref1 r]
 have hd : ∀ ws : List Str, DpAll X.K H (ws.map V.str) (ws.map PyData.str) := fun ws => by
  induction ws with
  | nil => exact .nil
  | cons x r ih => exact .cons (.str x) ih
 obtain ⟨as, hR⟩ := Dp.readsAll I _ _ _ (hd (z :: zs)) rv
 have hdep : PyData.depthAll ((z :: zs).map PyData.str) = 0 := by
  induction (z :: zs) with
  | nil => simp only [List.map_nil, PyData.depthAll]
  | cons x r ih => simp only [List.map_cons, PyData.depthAll, PyData.depth, ih, Nat.max_self]
 obtain ⟨m, h1, h2, h3⟩ := min_strs zs z
 refine W.min_list_data (x := .str z) (xs := zs.map .str) (I.ok.hd hc) hl.isList (by simpa using hR) ?_ (by
  have := hdep
  rw [List.map_cons] at this
  rw [this]
  omega) fun i v h' tk bs hv hr hk => ?_
 ·have key : ∀ x ∈ PyData.str z :: zs.map PyData.str, ∃ w, x = .str w := fun x hx => by
   rcases List.mem_cons.mp hx with rfl | hx
   ·exact ⟨_, rfl⟩
   ·obtain ⟨w, _, rfl⟩ := List.mem_map.mp hx
    exact ⟨w, rfl⟩
  refine ⟨fun x hx y hy => ?_, fun x hx => ?_⟩
  ·obtain ⟨w1, rfl⟩ := key x hx
   obtain ⟨w2, rfl⟩ := key y hy
   rfl
  ·obtain ⟨w1, rfl⟩ := key x hx
   exact fun z => nomatch z
 ·rw [h1] at hr
  cases hr with
  | str x t => exact ⟨.str m, H, I.kept hk, ⟨t, rfl⟩, q m h2 h3⟩
end SL
namespace SL
open PySem PySem.Spec PyProof.Rows L2
theorem g_ienT {H : Hp} {σ : L2.St} {K : PySem.W.Frag} {R : It → Hp → Prop} {ta : TA} (q : ta σ H fun vs H1 => ∃ a xs, vs = [.ref a] ∧ SqT K H1 a xs ∧ R (IteT K a) H1) : iEnumT K ta σ H R := q
theorem g_dc2 {σ : L2.St} {H : Hp} {Q : VK} {wi wi1 : TI} {g g1 : TG} {tt tt1 : TT} {tk tv : TE} {vs vs1 : List Nat} (q : wi σ H fun J H1 => ∀ D, H1 D = none → Rounds J g (ifB tt (innerB wi1 g1 (ifB tt1 (putB tk tv D)) vs1)) vs σ (upd H1 D (.dK [])) fun H => Q (.ref D) H) : tDc2 wi g tt wi1 g1 tt1 tk tv vs vs1 σ H Q := q
end SL
set_option Elab.async false
set_option linter.all false
set_option maxRecDepth 100000
set_option maxHeartbeats 2000000
namespace SL
open PySem PySem.Spec PySem.W PyProof.Rows
section
variable {prog : Program} {w : World} {A : Around} {s : Shared}
end
open L2
def Keys (sp : Sp) (K : PySem.W.Frag) (H : Hp) (xs : List V) (ds : List PyData) : Prop :=
 ∀ (j : Nat) (x : V) (d : PyData), xs[j]? = some x → ds[j]? = some d → ∀ (H' : Hp) (Q : VK), SL.Fr [] H H' → (∀ y H2, SL.Fr [] H' H2 → Dp K H2 y d → Q y H2) → sp [x] H' Q E0
section
variable {X : Cx} {pins : List (Addr × Obj)} {σ : L2.St} {H : Hp} {s : Shared} {f : Addr} {fd : FuncData} {ps : List Str} {sp : Sp} {k : Nat}
end
structure CalF (P : Program) (w : World) (K : PySem.W.Frag) (mg : Str → Option Value) (base : Heap) (k : Nat) (x : Str) (f : Addr) (sp : Sp) : Prop where
 m : mg x = some (.ref f)
 ex : ∃ (fd : FuncData) (ps : List Str), FnG P w K mg base CX0 k f fd ps sp ∧ PySem.W.keepIn K (.ref f) = true ∧ Binds K fd ps []
theorem CalF.g {P : Program} {w : World} {K : PySem.W.Frag} {mg : Str → Option Value} {base : Heap} {k : Nat} {x : Str} {f : Addr} {sp : Sp} (D : CalF P w K mg base k x f sp) : CalG P w K mg base k x sp := by
 obtain ⟨fd, ps, F, kp, b⟩ := D.ex
 exact ⟨f, fd, ps, F, D.m, kp, b⟩
end SL
set_option Elab.async false
set_option linter.all false
set_option maxRecDepth 100000
set_option maxHeartbeats 2000000
namespace SL
open PySem PySem.Spec PyProof.Rows L2
structure MetG (P : Program) (w : World) (K : PySem.W.Frag) (mg : Str → Option Value) (base : Heap) (CX : CXT) (k : Nat) (C : Addr) (m : Str) (dvs : List V) (sp : Sp) : Prop where
 cls : Cls K C
 ex : ∃ (f : Addr) (fd : FuncData) (ps : List Str) (ds : List Value), Meth K C m f ∧ FnG P w K mg base CX k f fd ps sp ∧ Binds K fd ps ds ∧ Vals dvs ds
section
variable {X : Cx} {k j : Nat} {C : Addr} {sp : Sp} {m : Str} {pos apos : Pos} {e o : Expr} {es : List Expr} {ta : TE} {t : TA} {W : WX} {dvs : List V}
end
section
variable {X : Cx} {K : PySem.W.Frag} {o e value ex : Expr} {f : Str} {pos pos' tpos : Pos} {ta tv : TE} {rd : V → V → Hp → VK → Prop} {st : Stmt}
variable {σ : L2.St} {H : Hp} {Q : VK} {C : Addr} {m : Str} {sp : Sp} {dvs : List V} {E : L2.St → XK} {t : TA} {D : Ends}
end
section
variable {σ : L2.St} {H : Hp} {D : Ends}
end
end SL
set_option Elab.async false
set_option linter.all false
set_option maxRecDepth 100000
set_option maxHeartbeats 2000000
namespace SL
open PySem PySem.Spec PyProof.Rows L2
section
variable {X : Cx} {k j n : Nat} {f C : Addr} {fd : FuncData} {ps ks : List Str} {sp : Sp} {x : Str} {p pos : Pos} {e : Expr} {es : List Expr} {kws : List Keyword} {t tk : TA} {g : List Value → List Value → List Value} {gV : List V → List V → List V} {W : WX}
structure MkX (P : Program) (w : World) (K : PySem.W.Frag) (mg : Str → Option Value) (base : Heap) (k : Nat) (x : Str) (C : Addr) (n : Nat) (ks : List Str) (gV : List V → List V → List V) (sp : Sp) : Prop where
 m : mg x = some (.ref C)
 ex : ∃ (f : Addr) (fd : FuncData) (ps : List Str) (g : List Value → List Value → List Value), Mk K C f ∧ FnG P w K mg base (L2.CX P w) k f fd ps sp ∧ KBn K fd ps (n + 1) ks g gV
end
end SL
set_option Elab.async false
set_option linter.all false
set_option maxRecDepth 100000
set_option maxHeartbeats 2000000
namespace SL
open PySem PySem.Spec PyProof.Rows L2 PySem.Builtin PySem.Builtin.Str
section
variable {X : Cx} {o e : Expr} {te : TE} {to tk : TE} {y : Str} {j1 j2 j3 : Nat} {c0 c1 c2 apos pos pm : Pos}
end
end SL
set_option Elab.async false
set_option linter.all false
set_option maxRecDepth 100000
set_option maxHeartbeats 4000000
namespace LW
open PySem PySem.Spec PyProof.Rows L2 SL
abbrev FnP (K : PySem.W.Frag) (x : Str) (st : Stmt) (f : Addr) (fd : FuncData) : Prop := FunD K x x (defArgs st) (defBody st) (defScope st) [] [] f fd
def topS (i : Nat) : Stmt := PySem.Challenge.pw_sightlore_k08_what_is_loose.main.body.getD i (.Pass ⟨0, 0, 0, 0⟩)
abbrev FnM (K : PySem.W.Frag) (q : Str) (st : Stmt) (f : Addr) (fd : FuncData) : Prop := FunD K "__init__" q (defArgs st) (defBody st) (defScope st) [] [] f fd
def methS (i j : Nat) : Stmt := match topS i with
 | .ClassDef _ _ _ body _ _ _ _ _ _ _ => body.getD j (.Pass ⟨0, 0, 0, 0⟩)
 | s => s
local macro_rules | `(tactic| walk_at "q") => `(tactic| repeat walk_at "st")
local macro_rules | `(tactic| walk_at "st") => `(tactic| first
 | with_reducible refine g_seq ?_
 | ((with_reducible show tVar _ _ _ _); refine g_var rfl ?_)
 | with_reducible refine g_c ?_
 | with_reducible refine g_op ?_
 | with_reducible refine g_asg ?_
 | with_reducible refine g_name ?_
 | with_reducible refine g_if ?_
 | with_reducible refine g_test ?_
 | with_reducible refine g_k ?_
 | with_reducible refine g_ret ?_
 | with_reducible refine g_next ?_
 | with_reducible refine g_cons ?_
 | with_reducible refine g_nil ?_
 | with_reducible refine g_call ?_
 | with_reducible refine g_cb ?_
 | with_reducible refine g_addI ?_
 | with_reducible refine g_subI ?_
 | with_reducible refine g_ltI ?_
 | with_reducible refine g_leI ?_
 | with_reducible refine g_gtI ?_
 | with_reducible refine g_geI ?_
 | with_reducible refine g_eqI ?_
 | with_reducible refine g_eqS ?_
 | with_reducible refine g_eqB ?_
 | with_reducible refine g_neI ?_
 | with_reducible refine g_neS ?_
 | with_reducible refine g_neB ?_
 | ((with_reducible refine g_mulI ?h0 ?_); (case h0 => first | exact mulR (by decide) (by decide) | exact mulL (by decide) (by decide) | exact mulR (by omega) (by omega) | exact mulL (by omega) (by omega)))
 | ((with_reducible refine g_modI ?h0 ?_); (case h0 => first | decide | omega))
 | ((with_reducible refine g_divI ?h0 ?_); (case h0 => first | exact divS (by decide) (by decide) | exact divS (by omega) (by omega)))
 | ((with_reducible refine g_powI ?h0 ?_); (case h0 => exact ⟨by decide +kernel, by decide +kernel, by decide +kernel⟩))
 | ((with_reducible show rIx _ (V.ref _) (V.int _) _ _); refine g_ixL (by first | assumption | exact SqL.of (by assumption)) (by exact rfl) ?_)
 | ((with_reducible show rIx _ (V.ref _) (V.int _) _ _); refine g_ixT (by first | assumption | exact SqT.of (by assumption)) (by exact rfl) ?_)
 | ((with_reducible show uLen _ [V.ref _] _ _); first | refine g_len (.inl (SqL.of (by assumption))) ?_ | refine g_len (.inl (by assumption)) ?_ | refine g_len (.inr (by assumption)) ?_ | refine g_len (.inr (SqT.of (by assumption))) ?_)
 | with_reducible refine g_dget ?_
 | with_reducible refine g_dput ?_
 | with_reducible refine g_bm ?_
 | with_reducible refine g_bm0 ?_
 | with_reducible refine g_tyS ?_
 | ((with_reducible show tyV _ "list" (V.ref _) _ ∧ _); refine g_tyL (by first | assumption | exact SqL.of (by assumption)) ?_)
 | with_reducible refine g_pairs ?_
 | with_reducible refine g_pairs0 ?_
 | with_reducible refine g_for ?_
 | with_reducible refine g_iR1 ?_
 | with_reducible refine g_iR2 ?_
 | with_reducible refine g_iL ?_
 | with_reducible refine g_iT ?_
 | with_reducible refine g_lc ?_
 | with_reducible refine g_lc2 ?_
 | with_reducible refine g_dc ?_
 | with_reducible refine g_din ?_
 | with_reducible refine g_listRg ?_
 | with_reducible refine g_rg1 ?_
 | with_reducible refine g_izA ?_
 | with_reducible refine g_iz ?_
 | ((with_reducible show gTup _ _ _ (V.ref _) _ _ _); first | refine g_gtup (SqT.of upd_same) rfl ?_ | refine g_gtup (by first | assumption | exact SqT.of (by assumption)) rfl ?_)
 | with_reducible refine g_gcons ?_
 | with_reducible refine g_gnil ?_
 | with_reducible refine g_yes ?_
 | with_reducible refine g_andT ?_
 | with_reducible refine g_orT ?_
 | with_reducible refine g_notT ?_
 | with_reducible refine g_truB ?_
 | with_reducible refine g_and ?_
 | with_reducible refine g_or ?_
 | with_reducible refine g_not ?_
 | with_reducible refine g_ifE ?_
 | with_reducible refine g_B ?_
 | with_reducible refine g_un ?_
 | with_reducible refine g_sub ?_
 | with_reducible refine g_drop ?_
 | with_reducible refine g_sl ?_
 | with_reducible refine g_noPart ?_
 | with_reducible refine g_part ?_
 | with_reducible refine g_ki ?_
 | with_reducible refine g_fs ?_
 | with_reducible refine g_js0 ?_
 | with_reducible refine g_js ?_
 | with_reducible refine g_fmt ?_
 | with_reducible refine g_is ?_
 | with_reducible refine g_isNot ?_
 | with_reducible refine g_chain ?_
 | with_reducible refine g_istr ?_
 | with_reducible refine g_rU ?_
 | with_reducible refine g_leS ?_
 | with_reducible refine g_vei ?_
 | with_reducible refine g_dc2 ?_
 | with_reducible refine g_ienT ?_
 | with_reducible refine g_ost ?_
 | with_reducible refine g_xat ?_
 | with_reducible refine g_xs ?_
 | with_reducible refine g_mkE ?_
 | with_reducible refine g_rs ?_
 | with_reducible refine g_mkX ?_
 | with_reducible refine g_try ?_
 | with_reducible refine g_callS ?_
 | (with_reducible refine g_tup ?_)
 | (with_reducible refine g_lst ?_)
 | ((with_reducible refine g_tt ?h0 ?_); (case h0 => decide +kernel))
 | ((with_reducible refine g_ff ?h0 ?_); (case h0 => decide +kernel)))
local macro_rules | `(tactic| walk_at "sz") => `(tactic| (refine le_of ?_; (try simp only [app_len, lit_q, lit_lp, lit_rp, lit_sp, lit_cs, lit_not, lit_is, lit_if, lit_e, lit_dot]); omega))
local macro_rules | `(tactic| walk_at "fs") => `(tactic| first
 | walk_at "st"
 | (refine g_fmtS ?hz ?_; (case hz => walk_at "sz"))
 | (refine g_jsS ?hz ?_; (case hz => walk_at "sz"))
 | (refine g_addS ?hz ?_; (case hz => walk_at "sz")))
local macro_rules | `(tactic| walk_at "if") => `(tactic| ((fail_if_success (with_reducible refine g_seqIf _ _ _ _ _ _ _ ?_)); walk_at "st"))
inductive SumE where
 | val (v : V) | var (x : Str) | op (s : Str) (a b : SumE)
def SumAt (K : PySem.W.Frag) (H : Hp) : SumE → V → Prop
 | .val u, v => ∃ p, v = .ref p ∧ SqT K H p [.str "value", u]
 | .var x, v => ∃ p, v = .ref p ∧ SqT K H p [.str "var", .str x]
 | .op s a b, v => ∃ p y z, v = .ref p ∧ SqT K H p [.str s, y, z] ∧ SumAt K H a y ∧ SumAt K H b z
theorem SumAt.fr {K : PySem.W.Frag} {H H' : Hp} {M : List Addr} (e : Fr M H H') : ∀ {t : SumE} {v : V}, SumAt K H t v → SumAt K H' t v
 | .val _, _, ⟨p, h1, h2⟩ => ⟨p, h1, e.tup h2⟩
 | .var _, _, ⟨p, h1, h2⟩ => ⟨p, h1, e.tup h2⟩
 | .op _ _ _, _, ⟨p, y, z, h1, h2, h3, h4⟩ => ⟨p, y, z, h1, e.tup h2, SumAt.fr e h3, SumAt.fr e h4⟩
def SumE.deep : SumE → Nat
 | .op _ a b => max a.deep b.deep + 1
 | _ => 0
def isSg (s : Str) : Prop := s = "+" ∨ s = "-" ∨ s = "*"
theorem sg_ne {s : Str} (h : isSg s) : s ≠ "value" ∧ s ≠ "var" := by
 rcases h with rfl | rfl | rfl <;> exact ⟨by decide +kernel, by decide +kernel⟩
inductive TermE where
 | any | s (e : SumE)
inductive PartE where
 | atom (no : Bool) (x : Str) (ts : List TermE) | lt (x : Str) (e : SumE) | test (s : Str) (a b : SumE)
inductive ArgE where
 | s (e : SumE) | fold (w : Str) (x : Option Str)
def SumE.d : SumE → PyData
 | .val u => .tuple [.str "value", scD u]
 | .var x => .tuple [.str "var", .str x]
 | .op s a b => .tuple [.str s, a.d, b.d]
def TermE.d : TermE → PyData
 | .any => .tuple [.str "any"]
 | .s e => e.d
def PartE.d : PartE → PyData
 | .atom no x ts => .tuple [.str (if no then "not" else "atom"), .str x, .tuple (ts.map TermE.d)]
 | .lt x e => .tuple [.str "let", .str x, e.d]
 | .test s a b => .tuple [.str "test", .str s, a.d, b.d]
def ArgE.d : ArgE → PyData
 | .s e => e.d
 | .fold w none => .tuple [.str "fold", .str w, .none]
 | .fold w (some x) => .tuple [.str "fold", .str w, .str x]
structure Tx (n : Nat) (t : Str) : Prop where
 len : t.length ≤ n
 ok : ∀ c ∈ t.cps.toList, c < 0x110000
theorem Tx.mono {m n : Nat} {t : Str} (h : Tx m t) (l : m ≤ n) : Tx n t := ⟨Nat.le_trans h.len l, h.ok⟩
theorem tl_app (a b : Str) : (a ++ b).cps.toList = a.cps.toList ++ b.cps.toList := Array.toList_append
theorem Tx.app {m n : Nat} {a b : Str} (h : Tx m a) (k : Tx n b) : Tx (m + n) (a ++ b) := ⟨by rw [app_len]; exact Nat.add_le_add h.len k.len, fun c hc => by
 rw [tl_app, List.mem_append] at hc
 exact hc.elim (h.ok c) (k.ok c)⟩
def txB (n : Nat) (t : Str) : Bool := decide (t.length ≤ n) && t.cps.toList.all (fun c => decide (c < 0x110000))
theorem Tx.lit {n : Nat} {t : Str} (h : txB n t = true) : Tx n t := by
 unfold txB at h
 simp only [Bool.and_eq_true, decide_eq_true_eq, List.all_eq_true] at h
 exact ⟨h.1, h.2⟩
theorem join_cons (y a b : Str) (r : List Str) : Txt.join y (a :: b :: r) = a ++ y ++ Txt.join y (b :: r) := by
 rw [TL.join_eq, TL.join_eq]
 rfl
theorem Tx.join {k m : Nat} {y : Str} (hy : Tx k y) : ∀ {ts : List Str}, (∀ t ∈ ts, Tx m t) → Tx (ts.length * (m + k)) (Txt.join y ts)
 | [], _ => by
  rw [TL.join_eq]
  exact ⟨Nat.zero_le _, fun c hc => nomatch hc⟩
 | [a], h => by
  rw [TL.join_eq]
  exact (h a List.mem_cons_self).mono (by simp)
 | a :: b :: r, h => by
  rw [join_cons]
  refine (((h a List.mem_cons_self).app hy).app (Tx.join hy fun t ht => h t (List.mem_cons_of_mem _ ht))).mono ?_
  simp only [List.length_cons, Nat.succ_mul]
  omega
def valT : V → Str
 | .bl b => if b then "yes" else "no"
 | .int i => toString i
 | .str x => "'" ++ x ++ "'"
 | _ => ""
def tightE : SumE → Nat
 | .op s _ _ => if s = "*" then 2 else 1
 | _ => 3
def wrapS (k : Nat) (e : SumE) (t : Str) : Str := if tightE e < k then "(" ++ t ++ ")" else t
def sumT : SumE → Str
 | .val u => valT u
 | .var x => x
 | .op s a b => wrapS (if s = "*" then 2 else 1) a (sumT a) ++ " " ++ s ++ " " ++ wrapS ((if s = "*" then 2 else 1) + 1) b (sumT b)
def termT : TermE → Str
 | .any => "_"
 | .s e => sumT e
def listT (ts : List Str) : Str := Txt.join ", " ts
def atomT (x : Str) (ts : List TermE) : Str := x ++ "(" ++ listT (ts.map termT) ++ ")"
def partT : PartE → Str
 | .atom no x ts => if no then "not " ++ atomT x ts else atomT x ts
 | .lt x e => x ++ " is " ++ sumT e
 | .test s a b => sumT a ++ " " ++ s ++ " " ++ sumT b
def argT : ArgE → Str
 | .s e => sumT e
 | .fold w none => w
 | .fold w (some x) => w ++ " " ++ x
def argsT (as : List ArgE) : Str := listT (as.map argT)
def partsT (ps : List PartE) : Str := listT (ps.map partT)
def ValG (u : V) : Prop := (∃ i : Int, u = .int i ∧ i.natAbs < 10 ^ 30) ∨ (∃ b, u = .bl b) ∨ ∃ x, u = .str x ∧ Tx 12 x
inductive SumG : Nat → SumE → Prop
 | val {n : Nat} {u : V} : ValG u → SumG n (.val u)
 | var {n : Nat} {x : Str} : Tx 12 x → SumG n (.var x)
 | op {n : Nat} {s : Str} {a b : SumE} : isSg s → SumG n a → SumG n b → SumG (n + 1) (.op s a b)
theorem SumG.up {m n : Nat} {e : SumE} (h : SumG m e) (l : m ≤ n) : SumG n e := by
 induction h generalizing n with
 | val h => exact .val h
 | var h => exact .var h
 | op hs _ _ iha ihb =>
  obtain ⟨k, rfl⟩ : ∃ k, n = k + 1 := ⟨n - 1, by omega⟩
  exact .op hs (iha (by omega)) (ihb (by omega))
inductive TermG : TermE → Prop
 | any : TermG .any
 | s {e : SumE} : SumG 0 e → TermG (.s e)
inductive PartG : PartE → Prop
 | atom {no : Bool} {x : Str} {ts : List TermE} : Tx 44 x → ts.length ≤ 4 → (∀ t ∈ ts, TermG t) → PartG (.atom no x ts)
 | lt {x : Str} {e : SumE} : Tx 12 x → SumG 1 e → PartG (.lt x e)
 | test {s : Str} {a b : SumE} : Tx 2 s → SumG 1 a → SumG 1 b → PartG (.test s a b)
inductive ArgG : ArgE → Prop
 | s {e : SumE} : SumG 0 e → ArgG (.s e)
 | fold0 {w : Str} : Tx 5 w → ArgG (.fold w none)
 | fold {w x : Str} : Tx 5 w → Tx 12 x → ArgG (.fold w (some x))
theorem tx_int {i : Int} (h : i.natAbs < 10 ^ 30) : Tx 31 (toString i : Str) := by
 refine ⟨?_, fun c hc => ?_⟩
 ·have e := int_text_length_le10 (k := 30) (by decide) h
  show (Str.ofString (toString i)).length ≤ 31
  rw [PySem.ofString_length]
  exact e
 ·have hc2 : c ∈ (Str.ofString (toString i)).cps.toList := hc
  rw [PyProof.Rows.signs_ofString, List.mem_map] at hc2
  obtain ⟨ch, _, rfl⟩ := hc2
  rcases ch.valid with h | h
  ·exact Nat.lt_trans h (by decide)
  ·exact h.2
theorem ValG.tx {u : V} (h : ValG u) : Tx 31 (valT u) := by
 rcases h with ⟨i, rfl, h⟩ | ⟨b, rfl⟩ | ⟨x, rfl, h⟩
 ·exact tx_int h
 ·cases b
  ·exact Tx.lit (by decide +kernel)
  ·exact Tx.lit (by decide +kernel)
 ·exact (((Tx.lit (n := 1) (by decide +kernel)).app h).app (Tx.lit (n := 1) (by decide +kernel))).mono (by decide)
theorem Tx.wrap {n k : Nat} {e : SumE} {t : Str} (h : Tx n t) : Tx (n + 2) (wrapS k e t) := by
 unfold wrapS
 split
 ·exact (((Tx.lit (n := 1) (by decide +kernel)).app h).app (Tx.lit (n := 1) (by decide +kernel))).mono (by omega)
 ·exact h.mono (by omega)
theorem isSg.tx {s : Str} (h : isSg s) : Tx 1 s := by
 rcases h with rfl | rfl | rfl <;> exact Tx.lit (by decide +kernel)
theorem SumG.tx {m : Nat} {e : SumE} (h : SumG m e) : Tx (48 * 2 ^ m - 7) (sumT e) := by
 induction h with
 | @val n u h => exact h.tx.mono (by have := Nat.one_le_two_pow (n := n); omega)
 | @var n x h => exact h.mono (by have := Nat.one_le_two_pow (n := n); omega)
 | @op n s a b hs _ _ iha ihb =>
  have l1 : Tx 1 (" " : Str) := Tx.lit (by decide +kernel)
  have p := Nat.one_le_two_pow (n := n)
  refine (((((iha.wrap).app l1).app hs.tx).app l1).app ihb.wrap).mono ?_
  rw [Nat.pow_succ]
  omega
theorem TermG.tx {t : TermE} (h : TermG t) : Tx 41 (termT t) := by
 cases h with
 | any => exact Tx.lit (by decide +kernel)
 | s h => exact h.tx.mono (by decide)
theorem txs_map {α : Type} {f : α → Str} {xs : List α} {n : Nat} (h : ∀ x ∈ xs, Tx n (f x)) : ∀ t ∈ xs.map f, Tx n t := fun t ht => by
 obtain ⟨x, hx, rfl⟩ := List.mem_map.mp ht
 exact h x hx
theorem Tx.list {α : Type} {f : α → Str} {xs : List α} {n k : Nat} (h : ∀ x ∈ xs, Tx n (f x)) (l : xs.length ≤ k) : Tx (k * (n + 2)) (listT (xs.map f)) := by
 refine (Tx.join (k := 2) (y := ", ") (Tx.lit (by decide +kernel)) (txs_map h)).mono ?_
 rw [List.length_map]
 exact Nat.mul_le_mul_right _ l
theorem Tx.atom {x : Str} {ts : List TermE} (hx : Tx 44 x) (hl : ts.length ≤ 4) (h : ∀ t ∈ ts, TermG t) : Tx 218 (atomT x ts) :=
 (((hx.app (Tx.lit (n := 1) (by decide +kernel))).app (Tx.list (fun t ht => (h t ht).tx) hl)).app (Tx.lit (n := 1) (by decide +kernel))).mono (by decide)
theorem PartG.tx {p : PartE} (h : PartG p) : Tx 240 (partT p) := by
 cases h with
 | @atom no x ts hx hl h =>
  cases no
  ·exact (Tx.atom hx hl h).mono (by decide)
  ·exact ((Tx.lit (n := 4) (t := "not ") (by decide +kernel)).app (Tx.atom hx hl h)).mono (by decide)
 | lt hx he => exact ((hx.app (Tx.lit (n := 4) (by decide +kernel))).app he.tx).mono (by decide)
 | test hs ha hb => exact ((((ha.tx.app (Tx.lit (n := 1) (by decide +kernel))).app hs).app (Tx.lit (n := 1) (by decide +kernel))).app hb.tx).mono (by decide)
theorem ArgG.tx {a : ArgE} (h : ArgG a) : Tx 41 (argT a) := by
 cases h with
 | s h => exact h.tx.mono (by decide)
 | fold0 h => exact h.mono (by decide)
 | fold h hx => exact ((h.app (Tx.lit (n := 1) (by decide +kernel))).app hx).mono (by decide)
def argsD (as : List ArgE) : PyData := .tuple (as.map ArgE.d)
def argsG (as : List ArgE) : Prop := as.length ≤ 8 ∧ ∀ a ∈ as, ArgG a
def partsG (ps : List PartE) : Prop := ps.length ≤ 8 ∧ ∀ p ∈ ps, PartG p
theorem argsG.tx {as : List ArgE} (h : argsG as) : Tx 344 (argsT as) := Tx.list (fun a ha => (h.2 a ha).tx) h.1
theorem partsG.tx {ps : List PartE} (h : partsG ps) : Tx 1936 (partsT ps) := Tx.list (fun a ha => (h.2 a ha).tx) h.1
theorem td_val {K : PySem.W.Frag} {H : Hp} {u v : V} (hu : ValG u) (h : Td K H v (.tuple [.str "value", scD u])) : ∃ p, v = .ref p ∧ SqT K H p [.str "value", u] := by
 obtain ⟨p, x, y, rfl, hp, hx, hy⟩ := h.t2
 cases hx.str_inv
 rcases hu with ⟨i, rfl, _⟩ | ⟨b, rfl⟩ | ⟨x, rfl, _⟩
 ·cases hy.int_inv; exact ⟨p, rfl, hp⟩
 ·cases hy.bl_inv; exact ⟨p, rfl, hp⟩
 ·cases hy.str_inv; exact ⟨p, rfl, hp⟩
theorem sum_deep {m : Nat} {e : SumE} (h : SumG m e) : e.deep ≤ m := by
 induction h with
 | val => exact Nat.zero_le _
 | var => exact Nat.zero_le _
 | op _ _ _ h1 h2 => exact Nat.succ_le_succ (Nat.max_le.mpr ⟨h1, h2⟩)
structure BiT (mg : Str → Option Value) : Prop where
 b_isinstance : mg "isinstance" = none
 b_bool : mg "bool" = none
 b_int : mg "int" = none
 b_str : mg "str" = none
structure Bi (mg : Str → Option Value) : Prop where
 b_len : mg "len" = none
 b_list : mg "list" = none
 b_range : mg "range" = none
def bagO (cs : Addr) (i r k : Int) : HO := .lst [.ref cs, .int i, .int r, .int k]
structure BagAt (H : Hp) (b cs : Addr) : Prop where
 ex : ∃ (cells : List Int) (i r k : Int), H b = some (bagO cs i r k) ∧ H cs = some (.lst (cells.map V.int)) ∧ 0 ≤ i
theorem BagAt.ne {H : Hp} {b cs : Addr} (h : BagAt H b cs) : cs ≠ b := by
 obtain ⟨cells, i, r, k, h1, h2, _⟩ := h.ex
 intro e
 rw [e, h1] at h2
 have h3 : [V.ref cs, .int i, .int r, .int k] = cells.map V.int := HO.lst.inj (Option.some.inj h2)
 cases cells with
 | nil => cases h3
 | cons c r => cases (List.cons.inj h3).1
theorem BagAt.fr {H H' : Hp} {b cs : Addr} {M : List Addr} (h : BagAt H b cs) (e : Fr M H H') (n1 : b ∉ M) (n2 : cs ∉ M) : BagAt H' b cs := by
 obtain ⟨cells, i, r, k, h1, h2, h3⟩ := h.ex
 exact ⟨cells, i, r, k, e.at h1 n1, e.at h2 n2, h3⟩
theorem BagAt.fr0 {H H' : Hp} {b cs : Addr} (h : BagAt H b cs) (e : Fr [] H H') : BagAt H' b cs := h.fr e (fun z => nomatch z) (fun z => nomatch z)
theorem BagAt.put {H : Hp} {b cs : Addr} (h : BagAt H b cs) {i r k : Int} (hi : 0 ≤ i) : BagAt (upd H b (bagO cs i r k)) b cs := by
 obtain ⟨cells, _, _, _, h1, h2, h3⟩ := h.ex
 exact ⟨cells, i, r, k, upd_same, by rw [upd_ne h.ne]; exact h2, hi⟩
theorem BagAt.frp {H : Hp} {b cs : Addr} (h : BagAt H b cs) {o : HO} : Fr [b] H (upd H b o) := by
 obtain ⟨cells, i, r, k, h1, h2, h3⟩ := h.ex
 exact Fr.mut (List.mem_singleton.mpr rfl) h1 nofix_lst
theorem BagAt.some {H : Hp} {b cs : Addr} (h : BagAt H b cs) {p : Addr} (hp : H p = none) : p ≠ b ∧ p ≠ cs := by
 obtain ⟨cells, i, r, k, h1, h2, h3⟩ := h.ex
 exact ⟨fun e => (by rw [e, h1] at hp; cases hp), fun e => (by rw [e, h2] at hp; cases hp)⟩
def spBag (K : PySem.W.Frag) : Sp := fun vs H Q _ => ∃ (a : Addr) (ns : List Int), vs = [.ref a] ∧ SqL K H a (ns.map V.int) ∧ ns.length ≤ 63 ∧
 ∀ b cs H', Fr [] H H' → H b = none → BagAt H' b cs → Q (.ref b) H'
def spPull : Sp := fun vs H Q _ => ∃ (b cs : Addr) (u : Int), vs = [.ref b, .int u] ∧ BagAt H b cs ∧ 0 < u ∧ u < 2 ^ 200 ∧
 ∀ d H', 0 ≤ d → d < u → BagAt H' b cs → Fr [b] H H' → Q (.int d) H'
abbrev s__law_bag : Stmt := topS 15
theorem sc__law_bag : FnScope ["_law_script", "_law_cells", "_law_knot", "_law_cell"] ["_law_script"] (defScope s__law_bag) := ⟨rfl, rfl, rfl, by decide +kernel, rfl, by decide +kernel, by decide +kernel⟩
abbrev s__law_pull : Stmt := topS 16
theorem sc__law_pull : FnScope ["_law_bag_here", "_law_upto", "_law_seed", "_law_fold", "_law_twist", "_law_drawn"] ["_law_bag_here", "_law_upto"] (defScope s__law_pull) := ⟨rfl, rfl, rfl, by decide +kernel, rfl, by decide +kernel, by decide +kernel⟩
section
variable {P : Program} {w : World} {K : PySem.W.Frag} {mg : Str → Option Value} {base : Heap}
theorem ok__law_bag {f : Addr} {fd : FuncData} (F : FnP K "_law_bag" s__law_bag f fd) (B : Bi mg) : FnG P w K mg base CX0 10 f fd ["_law_script"] (spBag K) := by
 refine okG F sc__law_bag (fun vs H Q E h => ?_) (fun cdv A outer s H vs Q E hr h => ?_)
 ·obtain ⟨a, ns, rfl, _⟩ := h
  rfl
 obtain ⟨a, ns, rfl, hS, hl, q⟩ := h
 refine ⟨_, PSs.nox (pss_cons (ps_set (i := 1) sc__law_bag.nd rfl (.inl rfl) (pe_callTy (kCall (K := K) (r := uList) rfl callu_list) (by rfl) B.b_list (by decide +kernel) (pa_cons (pe_slice (kSl (K := K) (r := rSlL) rfl sl_list) (pv 0) po_none (po_some pe_int)) pa_nil)))
 (pss_cons (ps_set (i := 2) sc__law_bag.nd rfl (.inl rfl) (pe_op (kOp (K := K) (r := uAdd) rfl opu_add) pe_int (pe_callB (kCall (K := K) (r := uLen) rfl callu_len) (by rfl) B.b_len (by decide +kernel) (pa_cons (pv 1) pa_nil))))
 (pss_cons (ps_for PassesOwn.never rfl (pi_listK (K := K) rfl (pv 1)) (pg_name (i := 3) sc__law_bag.nd rfl (by first | exact Or.inl rfl | exact Or.inr rfl)) (pss_one (ps_set (i := 2) sc__law_bag.nd rfl (.inl rfl) (pe_op opu_mod (pe_op (kOp (K := K) (r := uAdd) rfl opu_add) (pe_op opu_mul (pv 2) pe_int) (pv 3)) pe_int))))
 (pss_one (ps_ret (pe_lst (pa_cons (pv 1) (pa_cons pe_int (pa_cons pe_int (pa_cons (pv 2) pa_nil)))))))))), rd_start (σ0 := [some (.ref a), none, none, none]) rfl ?_⟩
 walk_at "q"
 refine g_slL hS fun p1 hp1 => ?_
 walk_at "q"
 refine g_list (.inl (SqL.of upd_same)) fun p2 hp2 => ?_
 have ec : cutV (ns.map V.int) none (some 63) = ns.map V.int := by
  have z := cut0 (ns.map V.int) 63
  rw [List.take_of_length_le (by rw [List.length_map]; omega)] at z
  exact z
 rw [ec] at hp2 ⊢
 have e2 : Fr [] H (upd (upd H p1 (.lst (ns.map V.int))) p2 (.lst (ns.map V.int))) := (Fr.new hp1).trans (Fr.new hp2)
 have h2 : (upd (upd H p1 (.lst (ns.map V.int))) p2 (.lst (ns.map V.int))) p2 = some (.lst (ns.map V.int)) := upd_same
 generalize upd (upd H p1 (.lst (ns.map V.int))) p2 (.lst (ns.map V.int)) = H2 at *
 walk_at "q"
 refine ⟨_, rfl, ⟨_, SqL.of h2⟩, for_list (K := K) (a := p2) (xs := ns.map V.int) (fun i σ H' => ∃ (k : Int) (c : Option V), σ = [some (.ref a), some (.ref p2), some (.int k), c] ∧ H' = H2) ⟨_, _, rfl, rfl⟩ (fun i σ H' _ h => ?_) (fun i x σ H' hi h => ?_) (fun σ H' h => ?_)⟩
 ·obtain ⟨k, c, rfl, rfl⟩ := h
  exact SqL.of h2
 ·obtain ⟨k, c, rfl, rfl⟩ := h
  obtain ⟨n, _, rfl⟩ := List.mem_map.mp (List.mem_of_getElem? hi)
  walk_at "q"
  exact ⟨_, _, rfl, rfl⟩
 ·obtain ⟨k, c, rfl, rfl⟩ := h
  walk_at "q"
  refine ⟨le_of (by simp), fun p3 hp3 => ?_⟩
  refine q p3 p2 _ (e2.trans (Fr.new hp3)) (e2.back (fun z => nomatch z) hp3) ⟨ns, 0, 0, k, upd_same, by rw [upd_ne (ne_of_none h2 hp3)]; exact h2, Int.le_refl 0⟩
theorem ok__law_pull {f : Addr} {fd : FuncData} (F : FnP K "_law_pull" s__law_pull f fd) (B : Bi mg) : FnG P w K mg base CX0 10 f fd ["_law_bag_here", "_law_upto"] spPull := by
 refine okG F sc__law_pull (fun vs H Q E h => ?_) (fun cdv A outer s H vs Q E hr h => ?_)
 ·obtain ⟨b, cs, u, rfl, _⟩ := h
  rfl
 obtain ⟨b, cs, u, rfl, hB, hu0, hu1, q⟩ := h
 obtain ⟨cells, i, r, k, hb, hc, hi⟩ := id hB.ex
 refine ⟨_, PSs.nox (pss_cons (ps_if (pt_cmpR (kOp (K := K) (r := uLt) rfl opu_lt) (pe_ix (kIx (K := K) (r := rIx) rfl ix_seq) (pv 0) pe_int (fun _ _ => rfl)) pe_int (nomark _)) (pss_cons (ps_asg (pe_op (kOp (K := K) (r := uAdd) rfl opu_add) (pe_ix (kIx (K := K) (r := rIx) rfl ix_seq) (pv 0) pe_int (fun _ _ => rfl)) pe_int) (pg_sub (pv 0) pe_int set_list))
 (pss_cons (ps_set (i := 2) sc__law_pull.nd rfl (.inl rfl) (pe_op (kOp (K := K) (r := uAdd) rfl opu_add) (pe_ix (kIx (K := K) (r := rIx) rfl ix_seq) (pv 0) pe_int (fun _ _ => rfl)) (pe_op opu_mul (pe_ix (kIx (K := K) (r := rIx) rfl ix_seq) (pv 0) pe_int (fun _ _ => rfl)) pe_int)))
 (pss_cons (ps_if (pt_cmpR opu_le (pe_ix (kIx (K := K) (r := rIx) rfl ix_seq) (pv 0) pe_int (fun _ _ => rfl)) (pe_callB (kCall (K := K) (r := uLen) rfl callu_len) (by rfl) B.b_len (by decide +kernel) (pa_cons (pe_ix (kIx (K := K) (r := rIx) rfl ix_seq) (pv 0) pe_int (fun _ _ => rfl)) pa_nil)) (nomark _)) (pss_one (ps_set (i := 2) sc__law_pull.nd rfl (.inl rfl) (pe_ix (kIx (K := K) (r := rIx) rfl ix_seq) (pe_ix (kIx (K := K) (r := rIx) rfl ix_seq) (pv 0) pe_int (fun _ _ => rfl)) (pe_op opu_sub (pe_ix (kIx (K := K) (r := rIx) rfl ix_seq) (pv 0) pe_int (fun _ _ => rfl)) pe_int) (fun _ _ => rfl)))) pss_nil)
 (pss_cons (ps_if (PW.pt (pw_or (pt_cmpR opu_gt (pe_ix (kIx (K := K) (r := rIx) rfl ix_seq) (pv 0) pe_int (fun _ _ => rfl)) (pe_callB (kCall (K := K) (r := uLen) rfl callu_len) (by rfl) B.b_len (by decide +kernel) (pa_cons (pe_ix (kIx (K := K) (r := rIx) rfl ix_seq) (pv 0) pe_int (fun _ _ => rfl)) pa_nil)) (nomark _)) (pw_or1 (pt_cmpR (kOp (K := K) (r := uLt) rfl opu_lt) (pv 2) (pe_op opu_pow pe_int pe_int) (nomark _))))) (pss_cons (ps_set (i := 3) sc__law_pull.nd rfl (.inl rfl) (pe_op opu_mod (pe_op (kOp (K := K) (r := uAdd) rfl opu_add) (pe_op (kOp (K := K) (r := uAdd) rfl opu_add) (pe_op opu_mul (pv 2) pe_int) (pe_op opu_mul (pe_ix (kIx (K := K) (r := rIx) rfl ix_seq) (pv 0) pe_int (fun _ _ => rfl)) pe_int)) (pe_ix (kIx (K := K) (r := rIx) rfl ix_seq) (pv 0) pe_int (fun _ _ => rfl))) pe_int))
 (pss_cons (ps_set (i := 4) sc__law_pull.nd rfl (.inl rfl) (pe_op opu_mod (pe_op (kOp (K := K) (r := uAdd) rfl opu_add) (pe_op opu_mul (pv 3) (pv 3)) (pe_ix (kIx (K := K) (r := rIx) rfl ix_seq) (pv 0) pe_int (fun _ _ => rfl))) pe_int))
 (pss_one (ps_ret (pe_op opu_mod (pe_op opu_div (pe_op opu_mod (pe_op (kOp (K := K) (r := uAdd) rfl opu_add) (pe_op opu_mul (pv 4) pe_int) (pv 3)) pe_int) pe_int) (pv 1)))))) pss_nil)
 (pss_one (ps_asg (pv 2) (pg_sub (pv 0) pe_int set_list))))))) pss_nil)
 (pss_cons (ps_set (i := 5) sc__law_pull.nd rfl (.inl rfl) (pe_op opu_mod (pe_ix (kIx (K := K) (r := rIx) rfl ix_seq) (pv 0) pe_int (fun _ _ => rfl)) (pv 1)))
 (pss_cons (ps_asg (pe_op opu_div (pe_ix (kIx (K := K) (r := rIx) rfl ix_seq) (pv 0) pe_int (fun _ _ => rfl)) (pv 1)) (pg_sub (pv 0) pe_int set_list))
 (pss_one (ps_ret (pv 5)))))), rd_start (σ0 := [some (.ref b), some (.int u), none, none, none, none]) rfl ?_⟩
 unfold bagO at hb
 have hcb := hB.ne
 walk_at "q"
 refine g_by (fun c1 => ?_) (fun c1 => ?_)
 ·walk_at "q"
  refine g_setL (j := 1) hb rfl ?_
  have hb1 : (upd H b (.lst ([V.ref cs, .int i, .int r, .int k].set 1 (.int (i + 1))))) b = some (.lst [V.ref cs, .int (i + 1), .int r, .int k]) := upd_same
  have hc1 : (upd H b (.lst ([V.ref cs, .int i, .int r, .int k].set 1 (.int (i + 1))))) cs = some (.lst (cells.map V.int)) := by rw [upd_ne hcb]; exact hc
  have hf1 : Fr [b] H (upd H b (.lst ([V.ref cs, .int i, .int r, .int k].set 1 (.int (i + 1))))) := hB.frp
  generalize upd H b (.lst ([V.ref cs, .int i, .int r, .int k].set 1 (.int (i + 1)))) = H1 at *
  walk_at "q"
  refine g_by (fun c2 => ?_) (fun c2 => ?_)
  ·walk_at "q"
   have hl : i + 1 ≤ (cells.length : Int) := by rw [List.length_map] at c2; exact c2
   obtain ⟨j, rfl⟩ : ∃ j : Nat, i = (j : Int) := ⟨i.toNat, by omega⟩
   have hj : j < cells.length := by omega
   have hat : atI (cells.map V.int) ((j : Int) + 1 - 1) = some (.int cells[j]) := by
    rw [show (j : Int) + 1 - 1 = (j : Int) by omega]
    exact atI_nat (by rw [List.getElem?_map, List.getElem?_eq_getElem hj]; rfl)
   refine g_ixL (SqL.of hc1) hat ?_
   generalize cells[j] = seed
   walk_at "q"
   have hB1 : BagAt H1 b cs := ⟨cells, _, r, k, hb1, hc1, by omega⟩
   refine g_by (fun c3 => ?_) (fun c3 => ?_)
   ·have key : ∀ z : Int, Q (.int (z % u)) H1 := fun z => q _ _ (Int.emod_nonneg _ (by omega)) (Int.emod_lt_of_pos _ hu0) hB1 hf1
    walk_at "q"
    exact key _
   ·walk_at "q"
    refine g_by (fun c4 => ?_) (fun c4 => ?_)
    ·have key : ∀ z : Int, Q (.int (z % u)) H1 := fun z => q _ _ (Int.emod_nonneg _ (by omega)) (Int.emod_lt_of_pos _ hu0) hB1 hf1
     walk_at "q"
     exact key _
    ·walk_at "q"
     refine g_setL (j := 2) hb1 rfl ?_
     have hb2 : (upd H1 b (.lst ([V.ref cs, .int ((j : Int) + 1), .int r, .int k].set 2 (.int seed)))) b = some (.lst [V.ref cs, .int ((j : Int) + 1), .int seed, .int k]) := upd_same
     have hB2 : BagAt (upd H1 b (.lst ([V.ref cs, .int ((j : Int) + 1), .int r, .int k].set 2 (.int seed)))) b cs := hB1.put (by omega)
     have hf2 : Fr [b] H (upd H1 b (.lst ([V.ref cs, .int ((j : Int) + 1), .int r, .int k].set 2 (.int seed)))) := hf1.trans hB1.frp
     generalize upd H1 b (.lst ([V.ref cs, .int ((j : Int) + 1), .int r, .int k].set 2 (.int seed))) = H2 at *
     walk_at "q"
     refine g_setL (j := 2) hb2 rfl ?_
     walk_at "q"
     exact q _ _ (Int.emod_nonneg _ (by omega)) (Int.emod_lt_of_pos _ hu0) (hB2.put (by omega)) (hf2.trans hB2.frp)
  ·walk_at "q"
   generalize k + (i + 1) * 7919 = seed
   walk_at "q"
   have hB1 : BagAt H1 b cs := ⟨cells, _, r, k, hb1, hc1, by omega⟩
   refine g_by (fun c3 => ?_) (fun c3 => ?_)
   ·have key : ∀ z : Int, Q (.int (z % u)) H1 := fun z => q _ _ (Int.emod_nonneg _ (by omega)) (Int.emod_lt_of_pos _ hu0) hB1 hf1
    walk_at "q"
    exact key _
   ·walk_at "q"
    refine g_by (fun c4 => ?_) (fun c4 => ?_)
    ·have key : ∀ z : Int, Q (.int (z % u)) H1 := fun z => q _ _ (Int.emod_nonneg _ (by omega)) (Int.emod_lt_of_pos _ hu0) hB1 hf1
     walk_at "q"
     exact key _
    ·walk_at "q"
     refine g_setL (j := 2) hb1 rfl ?_
     have hb2 : (upd H1 b (.lst ([V.ref cs, .int (i + 1), .int r, .int k].set 2 (.int seed)))) b = some (.lst [V.ref cs, .int (i + 1), .int seed, .int k]) := upd_same
     have hB2 : BagAt (upd H1 b (.lst ([V.ref cs, .int (i + 1), .int r, .int k].set 2 (.int seed)))) b cs := hB1.put (by omega)
     have hf2 : Fr [b] H (upd H1 b (.lst ([V.ref cs, .int (i + 1), .int r, .int k].set 2 (.int seed)))) := hf1.trans hB1.frp
     generalize upd H1 b (.lst ([V.ref cs, .int (i + 1), .int r, .int k].set 2 (.int seed))) = H2 at *
     walk_at "q"
     refine g_setL (j := 2) hb2 rfl ?_
     walk_at "q"
     exact q _ _ (Int.emod_nonneg _ (by omega)) (Int.emod_lt_of_pos _ hu0) (hB2.put (by omega)) (hf2.trans hB2.frp)
 ·walk_at "q"
  refine g_setL (j := 2) hb rfl ?_
  walk_at "q"
  exact q _ _ (Int.emod_nonneg _ (by omega)) (Int.emod_lt_of_pos _ hu0) (hB.put hi) hB.frp
end
theorem atI_in {α : Type} {xs : List α} {d : Int} (h0 : 0 ≤ d) (h1 : d < (xs.length : Int)) : ∃ v, v ∈ xs ∧ atI xs d = some v := by
 obtain ⟨j, rfl⟩ : ∃ j : Nat, d = (j : Int) := ⟨d.toNat, by omega⟩
 have hj : j < xs.length := by omega
 exact ⟨xs[j], List.getElem_mem hj, atI_nat (List.getElem?_eq_getElem hj)⟩
def spOne (K : PySem.W.Frag) : Sp := fun vs H Q _ => ∃ (b cs r : Addr) (xs : List V), vs = [.ref b, .ref r] ∧ BagAt H b cs ∧ ((SqL K H r xs ∧ r ≠ b) ∨ SqT K H r xs) ∧ 0 < xs.length ∧ xs.length ≤ 1000 ∧
 ∀ v H', v ∈ xs → BagAt H' b cs → Fr [b] H H' → Q v H'
abbrev s__law_one : Stmt := topS 17
theorem sc__law_one : FnScope ["_law_bag_here", "_law_row"] ["_law_bag_here", "_law_row"] (defScope s__law_one) := ⟨rfl, rfl, rfl, by decide +kernel, rfl, by decide +kernel, by decide +kernel⟩
section
variable {P : Program} {w : World} {K : PySem.W.Frag} {mg : Str → Option Value} {base : Heap}
theorem ok__law_one {f : Addr} {fd : FuncData} (F : FnP K "_law_one" s__law_one f fd) (B : Bi mg) (C__law_pull : CalG P w K mg base 10 "_law_pull" spPull) : FnG P w K mg base CX0 20 f fd ["_law_bag_here", "_law_row"] (spOne K) := by
 refine okG F sc__law_one (fun vs H Q E h => ?_) (fun cdv A outer s H vs Q E hr h => ?_)
 ·obtain ⟨b, cs, r, xs, rfl, _⟩ := h
  rfl
 obtain ⟨b, cs, r, xs, rfl, hB, hx, h0, h1, q⟩ := h
 refine ⟨_, PSs.nox (pss_one (ps_ret (pe_ix (kIx (K := K) (r := rIx) rfl ix_seq) (pv 1) (pe_calG C__law_pull hr rfl (pa_cons (pv 0) (pa_cons (pe_callB (kCall (K := K) (r := uLen) rfl callu_len) (by rfl) B.b_len (by decide +kernel) (pa_cons (pv 1) pa_nil)) pa_nil))) (fun _ _ => rfl)))), rd_start (σ0 := [some (.ref b), some (.ref r)]) rfl ?_⟩
 walk_at "q"
 refine g_len (hx.imp (fun z => z.1) id) ?_
 walk_at "q"
 refine ⟨b, cs, _, rfl, hB, by omega, Int.lt_of_le_of_lt (b := 1000) (by omega) (by decide), fun d H' d0 d1 hB' hF => ?_⟩
 obtain ⟨v, hv, ha⟩ := atI_in d0 d1
 rcases hx with ⟨hx, hn⟩ | hx
 ·exact g_ixL (hF.seq (fun z => hn (List.mem_singleton.mp z)) hx) ha (q v H' hv hB' hF)
 ·exact g_ixT (hF.tup hx) ha (q v H' hv hB' hF)
end
def isLet (c : Nat) : Bool := decide (97 ≤ c ∧ c ≤ 122)
def isFig (c : Nat) : Bool := decide (48 ≤ c ∧ c ≤ 57)
def WordP (x : Str) : Prop := ∃ c r, x.cps.toList = c :: r ∧ isLet c = true ∧ (∀ d ∈ r, (isLet d || isFig d) = true) ∧ r.length ≤ 11
def signs36 : Str := "abcdefghijklmnopqrstuvwxyz0123456789"
theorem signs36_list : signs36.cps.toList = [97, 98, 99, 100, 101, 102, 103, 104, 105, 106, 107, 108, 109, 110, 111, 112, 113, 114, 115, 116, 117, 118, 119, 120, 121, 122, 48, 49, 50, 51, 52, 53, 54, 55, 56, 57] := by decide +kernel
theorem signs36_at {d : Int} (h0 : 0 ≤ d) (h1 : d < 36) : ∃ c, atI signs36.cps.toList d = some c ∧ (isLet c || isFig c) = true := by
 obtain ⟨c, hc, ha⟩ := atI_in (xs := signs36.cps.toList) h0 (by rw [signs36_list]; exact h1)
 refine ⟨c, ha, ?_⟩
 rw [signs36_list] at hc
 have z : ∀ x ∈ ([97, 98, 99, 100, 101, 102, 103, 104, 105, 106, 107, 108, 109, 110, 111, 112, 113, 114, 115, 116, 117, 118, 119, 120, 121, 122, 48, 49, 50, 51, 52, 53, 54, 55, 56, 57] : List Nat), (isLet x || isFig x) = true := by decide
 exact z c hc
theorem signs26_at {d : Int} (h0 : 0 ≤ d) (h1 : d < 26) : ∃ c, atI signs36.cps.toList d = some c ∧ isLet c = true := by
 obtain ⟨j, rfl⟩ : ∃ j : Nat, d = (j : Int) := ⟨d.toNat, by omega⟩
 have hj : j < 26 := by omega
 have z : ∀ j : Nat, j < 26 → ∃ c, signs36.cps.toList[j]? = some c ∧ isLet c = true := by
  rw [signs36_list]
  intro j hj
  have y : ∀ i : Fin 26, isLet (([97, 98, 99, 100, 101, 102, 103, 104, 105, 106, 107, 108, 109, 110, 111, 112, 113, 114, 115, 116, 117, 118, 119, 120, 121, 122, 48, 49, 50, 51, 52, 53, 54, 55, 56, 57] : List Nat).getD i.val 0) = true := by decide
  have y2 := y ⟨j, hj⟩
  have hl : j < ([97, 98, 99, 100, 101, 102, 103, 104, 105, 106, 107, 108, 109, 110, 111, 112, 113, 114, 115, 116, 117, 118, 119, 120, 121, 122, 48, 49, 50, 51, 52, 53, 54, 55, 56, 57] : List Nat).length := by
   show j < 36
   omega
  refine ⟨_, List.getElem?_eq_getElem hl, ?_⟩
  rw [List.getD_eq_getElem?_getD, List.getElem?_eq_getElem hl] at y2
  exact y2
 obtain ⟨c, h1, h2⟩ := z j hj
 exact ⟨c, atI_nat h1, h2⟩
theorem len_le12 {x : Str} (h : WordP x) : x.length ≤ 12 := by
 obtain ⟨c, r, e, _, _, l⟩ := h
 rw [TL.len_tl]
 show x.cps.toList.length ≤ 12
 rw [e, List.length_cons]
 omega
def spWord : Sp := fun vs H Q _ => ∃ (b cs : Addr), vs = [.ref b] ∧ BagAt H b cs ∧ ∀ x H', WordP x → BagAt H' b cs → Fr [b] H H' → Q (.str x) H'
abbrev s__law_word : Stmt := topS 18
theorem sc__law_word : FnScope ["_law_bag_here", "_law_signs", "_law_word_here", "_law_k"] ["_law_bag_here"] (defScope s__law_word) := ⟨rfl, rfl, rfl, by decide +kernel, rfl, by decide +kernel, by decide +kernel⟩
section
variable {P : Program} {w : World} {K : PySem.W.Frag} {mg : Str → Option Value} {base : Heap}
theorem ok__law_word {f : Addr} {fd : FuncData} (F : FnP K "_law_word" s__law_word f fd) (B : Bi mg) (C__law_pull : CalG P w K mg base 10 "_law_pull" spPull) (C__law_one : CalG P w K mg base 20 "_law_one" (spOne K)) : FnG P w K mg base CX0 30 f fd ["_law_bag_here"] spWord := by
 refine okG F sc__law_word (fun vs H Q E h => ?_) (fun cdv A outer s H vs Q E hr h => ?_)
 ·obtain ⟨b, cs, rfl, _⟩ := h
  rfl
 obtain ⟨b, cs, rfl, hB, q⟩ := h
 refine ⟨_, PSs.nox (pss_cons (ps_set (i := 1) sc__law_word.nd rfl (.inl rfl) pe_str)
 (pss_cons (ps_set (i := 2) sc__law_word.nd rfl (.inl rfl) (pe_ix (kIx (K := K) (r := rIx) rfl ix_seq) (pv 1) (pe_calG C__law_pull hr rfl (pa_cons (pv 0) (pa_cons pe_int pa_nil))) (fun _ _ => rfl)))
 (pss_cons (ps_for PassesOwn.never rfl (pi_range1 rfl B.b_range (pa_cons (pe_calG C__law_pull hr rfl (pa_cons (pv 0) (pa_cons (pe_calG C__law_one hr rfl (pa_cons (pv 0) (pa_cons (pe_lst (pa_cons pe_int (pa_cons pe_int pa_nil))) pa_nil))) pa_nil))) pa_nil)) (pg_name (i := 3) sc__law_word.nd rfl (by first | exact Or.inl rfl | exact Or.inr rfl)) (pss_one (ps_set (i := 2) sc__law_word.nd rfl (.inl rfl) (pe_op (kOp (K := K) (r := uAdd) rfl opu_add) (pv 2) (pe_ix (kIx (K := K) (r := rIx) rfl ix_seq) (pv 1) (pe_calG C__law_pull hr rfl (pa_cons (pv 0) (pa_cons pe_int pa_nil))) (fun _ _ => rfl))))))
 (pss_one (ps_ret (pv 2)))))), rd_start (σ0 := [some (.ref b), none, none, none]) rfl ?_⟩
 walk_at "q"
 refine ⟨b, cs, _, rfl, hB, by decide, by decide, fun d H1 d0 d1 hB1 hF1 => ?_⟩
 obtain ⟨c0, ha, hc0⟩ := signs26_at d0 d1
 refine g_ixS (le_of (by decide)) ha ?_
 walk_at "q"
 refine ⟨le_of (by decide), fun p hp => ?_⟩
 have hF2 : Fr [b] H1 (upd H1 p (.lst [V.int 3, .int 12])) := Fr.new hp
 have hB2 := hB1.fr0 (Fr.new (M := []) (o := .lst [V.int 3, .int 12]) hp)
 have hpl : (upd H1 p (.lst [V.int 3, .int 12])) p = some (.lst [V.int 3, .int 12]) := upd_same
 generalize upd H1 p (.lst [V.int 3, .int 12]) = H2 at *
 walk_at "q"
 refine ⟨b, cs, p, [V.int 3, .int 12], rfl, hB2, .inl ⟨SqL.of hpl, (hB1.some hp).1⟩, by decide, by decide, fun v H3 hv hB3 hF3 => ?_⟩
 obtain ⟨n, rfl, n0, n1⟩ : ∃ n : Int, v = .int n ∧ 0 < n ∧ n ≤ 12 := by
  rcases List.mem_cons.mp hv with e | hv
  ·exact ⟨3, e, by decide, by decide⟩
  ·exact ⟨12, List.mem_singleton.mp hv, by decide, by decide⟩
 walk_at "q"
 refine ⟨b, cs, n, rfl, hB3, n0, Int.lt_of_le_of_lt n1 (by decide), fun m H4 m0 m1 hB4 hF4 => ?_⟩
 walk_at "q"
 refine ⟨m, rfl, by omega, by omega, for_range (lo := 0) (n := m.toNat) (fun i σ H' => ∃ (x : Str) (z : Option V), σ = [some (.ref b), some (.str signs36), some (.str x), z] ∧ Fr [b] H H' ∧ BagAt H' b cs ∧
  ∃ r, x.cps.toList = c0 :: r ∧ (∀ d ∈ r, (isLet d || isFig d) = true) ∧ r.length = i) ⟨_, _, rfl, ((hF1.trans hF2).trans hF3).trans hF4, hB4, [], rfl, (fun _ z => nomatch z), rfl⟩ (fun i σ H' hi h => ?_) (fun σ H' h => ?_)⟩
 ·obtain ⟨x, z, rfl, hF, hB', r, hx, hr1, hr2⟩ := h
  walk_at "q"
  refine ⟨b, cs, _, rfl, hB', by decide, by decide, fun d H5 d0 d1 hB5 hF5 => ?_⟩
  obtain ⟨c1, ha1, hc1⟩ := signs36_at d0 d1
  refine g_ixS (le_of (by decide)) ha1 ?_
  have hxl : x.length = r.length + 1 := by rw [TL.len_tl]; show x.cps.toList.length = _; rw [hx]; rfl
  refine g_addS (le_of (by rw [hxl]; show r.length + 1 + 1 ≤ _; omega)) ?_
  walk_at "q"
  refine ⟨_, _, rfl, hF.trans hF5, hB5, r ++ [c1], ?_, ?_, by rw [List.length_append, hr2]; rfl⟩
  ·show TL.tl (x ++ ⟨#[c1]⟩) = _
   rw [TL.tl_append]
   show x.cps.toList ++ [c1] = _
   rw [hx]
   rfl
  ·intro d hd
   rcases List.mem_append.mp hd with hd | hd
   ·exact hr1 d hd
   ·rw [List.mem_singleton.mp hd]; exact hc1
 ·obtain ⟨x, z, rfl, hF, hB', r, hx, hr1, hr2⟩ := h
  walk_at "q"
  exact q x H' ⟨c0, r, hx, hc0, hr1, by omega⟩ hB' hF
end
def spNumber : Sp := fun vs H Q _ => ∃ (b cs : Addr), vs = [.ref b] ∧ BagAt H b cs ∧ ∀ n H', -(10 ^ 30) < n → n < 10 ^ 30 → BagAt H' b cs → Fr [b] H H' → Q (.int n) H'
abbrev s__law_number : Stmt := topS 19
theorem sc__law_number : FnScope ["_law_bag_here"] ["_law_bag_here"] (defScope s__law_number) := ⟨rfl, rfl, rfl, by decide +kernel, rfl, by decide +kernel, by decide +kernel⟩
section
variable {P : Program} {w : World} {K : PySem.W.Frag} {mg : Str → Option Value} {base : Heap}
theorem ok__law_number {f : Addr} {fd : FuncData} (F : FnP K "_law_number" s__law_number f fd) (C__law_pull : CalG P w K mg base 10 "_law_pull" spPull) : FnG P w K mg base CX0 30 f fd ["_law_bag_here"] spNumber := by
 refine okG F sc__law_number (fun vs H Q E h => ?_) (fun cdv A outer s H vs Q E hr h => ?_)
 ·obtain ⟨b, cs, rfl, _⟩ := h
  rfl
 obtain ⟨b, cs, rfl, hB, q⟩ := h
 refine ⟨_, PSs.nox (pss_cons (ps_if (pt_cmpR (kOp (K := K) (r := uEq) rfl (opu_eq hr.units)) (pe_calG C__law_pull hr rfl (pa_cons (pv 0) (pa_cons pe_int pa_nil))) pe_int (nomark _)) (pss_one (ps_ret (pe_op opu_mul (pe_ix (kIx (K := K) (r := rIx) rfl ix_seq) (pe_lst (pa_cons pe_int (pa_cons (pe_op opu_sub pe_int pe_int) pa_nil))) (pe_calG C__law_pull hr rfl (pa_cons (pv 0) (pa_cons pe_int pa_nil))) (fun _ _ => rfl)) (pe_calG C__law_pull hr rfl (pa_cons (pv 0) (pa_cons (pe_op opu_pow pe_int pe_int) pa_nil)))))) pss_nil)
 (pss_one (ps_ret (pe_op opu_sub (pe_calG C__law_pull hr rfl (pa_cons (pv 0) (pa_cons pe_int pa_nil))) pe_int)))), rd_start (σ0 := [some (.ref b)]) rfl ?_⟩
 walk_at "q"
 refine ⟨b, cs, _, rfl, hB, by decide, by decide, fun d H1 d0 d1 hB1 hF1 => ?_⟩
 walk_at "q"
 refine g_by (fun c => ?_) (fun c => ?_)
 ·walk_at "q"
  refine ⟨le_of (by decide), fun p hp => ?_⟩
  have hF2 : Fr [b] H1 (upd H1 p (.lst [V.int 1, .int (0 - 1)])) := Fr.new hp
  have hB2 := hB1.fr0 (Fr.new (M := []) (o := .lst [V.int 1, .int (0 - 1)]) hp)
  have hpl : (upd H1 p (.lst [V.int 1, .int (0 - 1)])) p = some (.lst [V.int 1, .int (0 - 1)]) := upd_same
  generalize upd H1 p (.lst [V.int 1, .int (0 - 1)]) = H2 at *
  walk_at "q"
  refine ⟨b, cs, _, rfl, hB2, by decide, by decide, fun d2 H3 d20 d21 hB3 hF3 => ?_⟩
  obtain ⟨v, hv, ha⟩ := atI_in (xs := [V.int 1, .int (0 - 1)]) d20 d21
  refine g_ixL (hF3.seq (fun z => (hB1.some hp).1 (List.mem_singleton.mp z)) (SqL.of hpl)) ha ?_
  walk_at "q"
  refine ⟨b, cs, _, rfl, hB3, by decide +kernel, by decide +kernel, fun d4 H5 d40 d41 hB5 hF5 => ?_⟩
  have d41' : d4 < 10 ^ 30 := d41
  have fin : ∀ n : Int, -(10 ^ 30) < n → n < 10 ^ 30 → Q (.int n) H5 := fun n h1 h2 => q n H5 h1 h2 hB5 (((hF1.trans hF2).trans hF3).trans hF5)
  rcases List.mem_cons.mp hv with e | hv
  ·subst e
   walk_at "q"
   exact fin _ (by omega) (by omega)
  ·obtain rfl : v = .int (0 - 1) := List.mem_singleton.mp hv
   walk_at "q"
   exact fin _ (by omega) (by omega)
 ·walk_at "q"
  refine ⟨b, cs, _, rfl, hB1, by decide, by decide, fun d2 H2 d20 d21 hB2 hF2 => ?_⟩
  walk_at "q"
  exact q _ _ (by omega) (by omega) hB2 (hF1.trans hF2)
end
def ValOf (k : Str) (v : V) : Prop := (k = "number" ∧ ∃ n, v = .int n ∧ -(10 ^ 30) < n ∧ n < 10 ^ 30) ∨ (k = "flag" ∧ ∃ c, v = .bl c) ∨ (k = "word" ∧ ∃ x, v = .str x ∧ WordP x)
def spValue : Sp := fun vs H Q _ => ∃ (b cs : Addr) (k : Str), vs = [.ref b, .str k] ∧ (k = "number" ∨ k = "flag" ∨ k = "word") ∧ BagAt H b cs ∧ ∀ v H', ValOf k v → BagAt H' b cs → Fr [b] H H' → Q v H'
abbrev s__law_value : Stmt := topS 20
theorem sc__law_value : FnScope ["_law_bag_here", "_law_kind"] ["_law_bag_here", "_law_kind"] (defScope s__law_value) := ⟨rfl, rfl, rfl, by decide +kernel, rfl, by decide +kernel, by decide +kernel⟩
def wordB (x : Str) : Bool := match x.cps.toList with
 | [] => false
 | c :: r => isLet c && r.all (fun d => isLet d || isFig d) && decide (r.length ≤ 11)
theorem wordB_ok {x : Str} (h : wordB x = true) : WordP x := by
 unfold wordB at h
 cases e : x.cps.toList with
 | nil => rw [e] at h; cases h
 | cons c r =>
  rw [e] at h
  simp only [Bool.and_eq_true, decide_eq_true_eq, List.all_eq_true] at h
  exact ⟨c, r, e, h.1.1, h.1.2, h.2⟩
theorem WordP.b {x : Str} (h : WordP x) : wordB x = true := by
 obtain ⟨c, r, e, h1, h2, h3⟩ := h
 unfold wordB
 rw [e]
 simp only [Bool.and_eq_true, decide_eq_true_eq, List.all_eq_true]
 exact ⟨⟨h1, h2⟩, h3⟩
section
variable {P : Program} {w : World} {K : PySem.W.Frag} {mg : Str → Option Value} {base : Heap}
theorem ok__law_value {f : Addr} {fd : FuncData} (F : FnP K "_law_value" s__law_value f fd) (C__law_pull : CalG P w K mg base 10 "_law_pull" spPull) (C__law_one : CalG P w K mg base 20 "_law_one" (spOne K))
  (C__law_word : CalG P w K mg base 30 "_law_word" spWord) (C__law_number : CalG P w K mg base 30 "_law_number" spNumber) : FnG P w K mg base CX0 40 f fd ["_law_bag_here", "_law_kind"] spValue := by
 refine okG F sc__law_value (fun vs H Q E h => ?_) (fun cdv A outer s H vs Q E hr h => ?_)
 ·obtain ⟨b, cs, k, rfl, _⟩ := h
  rfl
 obtain ⟨b, cs, k, rfl, hk, hB, q⟩ := h
 refine ⟨_, PSs.nox (pss_cons (ps_if (pt_cmpR (kOp (K := K) (r := uEq) rfl (opu_eq hr.units)) (pv 1) pe_str (nomark _)) (pss_one (ps_ret (pe_calG C__law_number hr rfl (pa_cons (pv 0) pa_nil)))) pss_nil)
 (pss_cons (ps_if (pt_cmpR (kOp (K := K) (r := uEq) rfl (opu_eq hr.units)) (pv 1) pe_str (nomark _)) (pss_one (ps_ret (pe_cmpR (kOp (K := K) (r := uEq) rfl (opu_eq hr.units)) (pe_calG C__law_pull hr rfl (pa_cons (pv 0) (pa_cons pe_int pa_nil))) pe_int (nomark _)))) pss_nil)
 (pss_cons (ps_if (pt_cmpR (kOp (K := K) (r := uEq) rfl (opu_eq hr.units)) (pe_calG C__law_pull hr rfl (pa_cons (pv 0) (pa_cons pe_int pa_nil))) pe_int (nomark _)) (pss_one (ps_ret (pe_calG C__law_word hr rfl (pa_cons (pv 0) pa_nil)))) pss_nil)
 (pss_one (ps_ret (pe_calG C__law_one hr rfl (pa_cons (pv 0) (pa_cons (pe_lst (pa_cons pe_str (pa_cons pe_str (pa_cons pe_str (pa_cons pe_str (pa_cons pe_str pa_nil)))))) pa_nil)))))))), rd_start (σ0 := [some (.ref b), some (.str k)]) rfl ?_⟩
 rcases hk with rfl | rfl | rfl
 ·walk_at "q"
  exact ⟨b, cs, rfl, hB, fun n H' h1 h2 hB' hF => q _ _ (.inl ⟨rfl, n, rfl, h1, h2⟩) hB' hF⟩
 ·walk_at "q"
  refine ⟨b, cs, _, rfl, hB, by decide, by decide, fun d H1 d0 d1 hB1 hF1 => ?_⟩
  walk_at "q"
  exact q _ _ (.inr (.inl ⟨rfl, _, rfl⟩)) hB1 hF1
 ·walk_at "q"
  refine ⟨b, cs, _, rfl, hB, by decide, by decide, fun d H1 d0 d1 hB1 hF1 => ?_⟩
  walk_at "q"
  refine g_by (fun c => ?_) (fun c => ?_)
  ·walk_at "q"
   exact ⟨b, cs, rfl, hB1, fun x H' hx hB' hF => q _ _ (.inr (.inr ⟨rfl, x, rfl, hx⟩)) hB' (hF1.trans hF)⟩
  ·walk_at "q"
   refine ⟨le_of (by decide), fun p hp => ?_⟩
   have hF2 : Fr [b] H1 (upd H1 p (.lst [V.str "ann", .str "b", .str "z9", .str "if", .str "me"])) := Fr.new hp
   have hB2 := hB1.fr0 (Fr.new (M := []) (o := .lst [V.str "ann", .str "b", .str "z9", .str "if", .str "me"]) hp)
   have hpl : (upd H1 p (.lst [V.str "ann", .str "b", .str "z9", .str "if", .str "me"])) p = some (.lst [V.str "ann", .str "b", .str "z9", .str "if", .str "me"]) := upd_same
   generalize upd H1 p (.lst [V.str "ann", .str "b", .str "z9", .str "if", .str "me"]) = H2 at *
   walk_at "q"
   refine ⟨b, cs, p, _, rfl, hB2, .inl ⟨SqL.of hpl, (hB1.some hp).1⟩, by decide, by decide, fun v H3 hv hB3 hF3 => ?_⟩
   refine q _ _ (.inr (.inr ⟨rfl, ?_⟩)) hB3 ((hF1.trans hF2).trans hF3)
   simp only [List.mem_cons, List.not_mem_nil, or_false] at hv
   rcases hv with rfl | rfl | rfl | rfl | rfl
   all_goals exact ⟨_, rfl, wordB_ok (by decide +kernel)⟩
end
def kvOf (vd : List (Str × Str)) : List (Key × V) := vd.map fun p => ((Sum.inr p.1 : Key), V.str p.2)
theorem kvOf_val (vd : List (Str × Str)) (x : Str) : valV (kvOf vd) (Sum.inr x : Key) = (vd.lookup x).map V.str := by
 induction vd with
 | nil => rfl
 | cons p r ih =>
  obtain ⟨y, k⟩ := p
  by_cases h : y = x
  ·subst h
   show valV (((Sum.inr y : Key), V.str k) :: kvOf r) (Sum.inr y) = _
   rw [valV_pos rfl, List.lookup_cons_self]
   rfl
  ·show valV (((Sum.inr y : Key), V.str k) :: kvOf r) (Sum.inr x) = _
   have h2 : (x == y) = false := beq_eq_false_iff_ne.mpr (Ne.symm h)
   rw [valV_neg (fun z => h (Sum.inr.inj z)), List.lookup_cons, h2]
   exact ih
theorem kvOf_keys (vd : List (Str × Str)) : ((kvOf vd).map fun kv => kV kv.1) = (vd.map (·.1)).map V.str := by
 unfold kvOf
 rw [List.map_map, List.map_map]
 rfl
theorem lookup_mem {vd : List (Str × Str)} {x : Str} (h : x ∈ vd.map (·.1)) : ∃ k, vd.lookup x = some k := by
 cases e : vd.lookup x with
 | some k => exact ⟨k, rfl⟩
 | none =>
  rw [List.lookup_eq_none_iff] at e
  obtain ⟨p, hp, rfl⟩ := List.mem_map.mp h
  have := e p hp
  simp at this
def strsD (ws : List Str) : PyData := .list (ws.map .str)
theorem dp_strs {K : PySem.W.Frag} {H : Hp} {p : Addr} {ws : List Str} (h : SqL K H p (ws.map V.str)) : Dp K H (.ref p) (strsD ws) := by
 refine .lst h ?_
 induction ws with
 | nil => exact .nil
 | cons x r ih => exact .cons (.str x) (dpa_strs r)
where
 dpa_strs {K : PySem.W.Frag} {H : Hp} : ∀ ws : List Str, DpAll K H (ws.map V.str) (ws.map .str)
 | [] => .nil
 | x :: r => .cons (.str x) (dpa_strs r)
theorem shaped_strs {ws : List Str} (h : ∀ x ∈ ws, PyData.strOk x = true) : SeqAt.shaped (strsD ws) = true := by
 have h1 : ∀ ws : List Str, (∀ x ∈ ws, PyData.strOk x = true) → PyData.canLayAll0 (ws.map .str) = true := by
  intro ws h
  induction ws with
  | nil => simp only [List.map_nil, PyData.canLayAll0]
  | cons x r ih => simp only [List.map_cons, PyData.canLayAll0, PyData.canLay0, h x List.mem_cons_self, ih fun y hy => h y (List.mem_cons_of_mem _ hy), Bool.and_self]
 have h2 : ∀ ws : List Str, PyData.depthAll (ws.map .str) = 0 := by
  intro ws
  induction ws with
  | nil => simp only [List.map_nil, PyData.depthAll]
  | cons x r ih => simp only [List.map_cons, PyData.depthAll, PyData.depth, ih, Nat.max_self]
 unfold SeqAt.shaped strsD
 simp only [PyData.canLay0, h1 ws h, PyData.depth, h2 ws, Bool.true_and]
 decide
theorem shaped_nil : SeqAt.shaped (.list []) = true := by decide +kernel
theorem eqv_strs_nil (ws : List Str) : PyData.eqv (strsD ws) (.list []) = decide (ws = []) := by
 unfold strsD
 cases ws with
 | nil => simp only [List.map_nil, PyData.eqv, PyData.eqvAll, decide_true]
 | cons x r => simp only [List.map_cons, PyData.eqv, PyData.eqvAll, reduceCtorEq, decide_false]
structure BiL (mg : Str → Option Value) : Prop where
 b_list : mg "list" = none
 b_sorted : mg "sorted" = none
def LeafAt (K : PySem.W.Frag) (H : Hp) (vd : List (Str × Str)) (k : Str) (p : Addr) : Prop := (∃ u, SqT K H p [.str "value", u] ∧ ValOf k u) ∨ ∃ x, SqT K H p [.str "var", .str x] ∧ vd.lookup x = some k
structure VarsAt (H : Hp) (d : Addr) (vd : List (Str × Str)) : Prop where
 at_ : H d = some (.dK (kvOf vd))
 len : vd.length < 60
 ok : ∀ p ∈ vd, PyData.strOk p.1 = true
theorem VarsAt.fr {H H' : Hp} {M : List Addr} {d : Addr} {vd : List (Str × Str)} (h : VarsAt H d vd) (e : Fr M H H') (n : d ∉ M) : VarsAt H' d vd := ⟨e.at h.at_ n, h.len, h.ok⟩
theorem VarsAt.ne {H : Hp} {d b cs : Addr} {vd : List (Str × Str)} (h : VarsAt H d vd) (hB : BagAt H b cs) : d ≠ b ∧ d ≠ cs := by
 obtain ⟨cells, i, r, k, h1, h2, h3⟩ := hB.ex
 exact ⟨fun e => (by have z := h.at_; rw [e, h1] at z; cases z), fun e => (by have z := h.at_; rw [e, h2] at z; cases z)⟩
def KindW (k : Str) : Prop := k = "number" ∨ k = "flag" ∨ k = "word"
def spLeaf (K : PySem.W.Frag) : Sp := fun vs H Q _ => ∃ (b cs d : Addr) (k : Str) (vd : List (Str × Str)), vs = [.ref b, .str k, .ref d] ∧ KindW k ∧ BagAt H b cs ∧ VarsAt H d vd ∧
 ∀ p H', LeafAt K H' vd k p → BagAt H' b cs → Fr [b] H H' → Q (.ref p) H'
abbrev s__law_leaf : Stmt := topS 26
theorem sc__law_leaf : FnScope ["_law_bag_here", "_law_kind", "_law_vars_of", "_law_alike", "_law_name"] ["_law_bag_here", "_law_kind", "_law_vars_of"] (defScope s__law_leaf) := ⟨rfl, rfl, rfl, by decide +kernel, rfl, by decide +kernel, by decide +kernel⟩
section
variable {P : Program} {w : World} {K : PySem.W.Frag} {mg : Str → Option Value} {base : Heap}
theorem ok__law_leaf {f : Addr} {fd : FuncData} (F : FnP K "_law_leaf" s__law_leaf f fd) (B : BiL mg) (C__law_pull : CalG P w K mg base 10 "_law_pull" spPull) (C__law_one : CalG P w K mg base 20 "_law_one" (spOne K))
  (C__law_value : CalG P w K mg base 40 "_law_value" spValue) : FnG P w K mg base CX0 50 f fd ["_law_bag_here", "_law_kind", "_law_vars_of"] (spLeaf K) := by
 refine okG F sc__law_leaf (fun vs H Q E h => ?_) (fun cdv A outer s H vs Q E hr h => ?_)
 ·obtain ⟨b, cs, d, k, vd, rfl, _⟩ := h
  rfl
 obtain ⟨b, cs, d, k, vd, rfl, hk, hB, hV, q⟩ := h
 have hu := hu_of hr.rm
 refine ⟨_, PSs.nox (pss_cons (ps_setLc (i := 3) (own := [("_law_name", 4)]) (g := gName 4) rfl sc__law_leaf.nd rfl rfl (sw_true rfl rfl rfl (by decide +kernel)) (pi_listK (K := K) rfl (pe_callB (kCall (K := K) (r := rSortedS) rfl cr_sortedS) (by rfl) B.b_sorted (by decide +kernel) (pa_cons (pe_callTy (kCall (K := K) (r := uList) rfl callu_list) (by rfl) B.b_list (by decide +kernel) (pa_cons (pv 2) pa_nil)) pa_nil))) (blkOk_by (own := [("_law_name", 4)]) (N := ["_law_bag_here", "_law_kind", "_law_vars_of", "_law_alike", "_law_name"]) (sc := defScope s__law_leaf) (by decide +kernel)) (fun _ _ _ _ _ => (by exact (pg_name (i := 4) sc__law_leaf.nd rfl (by first | exact Or.inl rfl | exact Or.inr rfl)))) (fun _ _ _ _ _ => (by exact pts_one (pt_cmpR (kOp (K := K) (r := uEq) rfl (opu_eq hr.units)) (pe_dget hu (pv 2) (pv 4) (fun _ _ => rfl)) (pv 1) (nomark _)))) (fun _ _ _ _ _ => (by exact (pv 4))))
 (pss_cons (ps_if (PW.pt (pw_or (pt_cmpR (kOp (K := K) (r := uEq) rfl (opu_eq hr.units)) (pv 3) (pe_lst pa_nil) (nomark _)) (pw_or1 (pt_cmpR (kOp (K := K) (r := uEq) rfl (opu_eq hr.units)) (pe_calG C__law_pull hr rfl (pa_cons (pv 0) (pa_cons pe_int pa_nil))) pe_int (nomark _))))) (pss_one (ps_ret (pe_tup (pa_cons pe_str (pa_cons (pe_calG C__law_value hr rfl (pa_cons (pv 0) (pa_cons (pv 1) pa_nil))) pa_nil))))) pss_nil)
 (pss_one (ps_ret (pe_tup (pa_cons pe_str (pa_cons (pe_calG C__law_one hr rfl (pa_cons (pv 0) (pa_cons (pv 3) pa_nil))) pa_nil))))))), rd_start (σ0 := [some (.ref b), some (.str k), some (.ref d), none, none]) rfl ?_⟩
 walk_at "q"
 refine g_listD hV.at_ fun l hl => ?_
 rw [kvOf_keys]
 have f1 : Fr [] H (upd H l (.lst ((vd.map (·.1)).map V.str))) := Fr.new hl
 have hl1 : (upd H l (.lst ((vd.map (·.1)).map V.str))) l = some (.lst ((vd.map (·.1)).map V.str)) := upd_same
 generalize upd H l (.lst ((vd.map (·.1)).map V.str)) = H1 at *
 walk_at "q"
 refine ⟨l, vd.map (·.1), rfl, SqL.of hl1, by rw [List.length_map]; have := hV.len; omega, fun ys p2 hperm _ hp2 => ?_⟩
 have f2 : Fr [] H (upd H1 p2 (.lst (ys.map V.str))) := f1.trans (Fr.new hp2)
 have hp21 : (upd H1 p2 (.lst (ys.map V.str))) p2 = some (.lst (ys.map V.str)) := upd_same
 generalize upd H1 p2 (.lst (ys.map V.str)) = H2 at *
 have hyl : ys.length < 60 := by rw [hperm.length_eq, List.length_map]; exact hV.len
 refine ⟨p2, rfl, ⟨_, SqL.of hp21⟩, fun D hD => lc_it (walk_list (xs := ys.map V.str)) (fun i H' => Fr [] H2 H' ∧ ∃ ws : List Str, H' D = some (.lst (ws.map V.str)) ∧ ws.length ≤ i ∧ ∀ x ∈ ws, vd.lookup x = some k)
  ⟨Fr.new hD, [], upd_same, Nat.le_refl _, (fun _ z => nomatch z)⟩ (fun i H' _ h => h.1.seq (fun z => nomatch z) (SqL.of hp21)) (fun i x H' H'' hi h y => ?_) (fun H' h => ?_)⟩
 ·obtain ⟨rfl, hx⟩ := y
  obtain ⟨h1, ws, h2, h3, h4⟩ := h
  obtain ⟨z, hz, rfl⟩ := List.mem_map.mp (List.mem_of_getElem? hx)
  obtain ⟨k2, hk2⟩ := lookup_mem (hperm.mem_iff.mp hz)
  walk_at "q"
  refine ⟨rfl, ?_⟩
  walk_at "q"
  have hV' := (hV.fr f2 (fun z => nomatch z)).fr h1 (fun z => nomatch z)
  refine g_dgetS hV'.at_ (v := V.str k2) (by rw [kvOf_val, hk2]; rfl) ?_
  walk_at "q"
  refine g_by (fun c => ?_) (fun c => ?_)
  ·walk_at "q"
   refine ⟨_, h2, lt_of (by rw [List.length_map]; rw [List.length_map] at hi; omega), h1.over hD, ws ++ [z], ?_, ?_, ?_⟩
   ·rw [upd_same, List.map_append]; rfl
   ·rw [List.length_append]; exact Nat.succ_le_succ h3
   ·intro x hx
    rcases List.mem_append.mp hx with hx | hx
    ·exact h4 x hx
    ·rw [List.mem_singleton.mp hx, hk2, c]
  ·exact ⟨h1, ws, h2, Nat.le_succ_of_le h3, h4⟩
 ·obtain ⟨h1, ws, h2, h3, h4⟩ := h
  have f3 : Fr [] H H' := f2.trans h1
  walk_at "q"
  refine ⟨le_of (by decide), fun p4 hp4 => ?_⟩
  have f4 : Fr [] H' (upd H' p4 (.lst [])) := Fr.new hp4
  have hn4 : (upd H' p4 (.lst [])) p4 = some (.lst []) := upd_same
  have hD4 := f4.at h2 (fun z => nomatch z)
  have hB4 := (hB.fr0 f3).fr0 f4
  have hV4 := (hV.fr f3 (fun z => nomatch z)).fr f4 (fun z => nomatch z)
  have f5 := f3.trans f4
  generalize upd H' p4 (.lst []) = H4 at *
  refine g_eqD (dp_strs (SqL.of hD4)) (.lst (SqL.of hn4) .nil) (shaped_strs fun x hx => ?_) shaped_nil ?_
  ·have hm : x ∈ vd.map (·.1) := by
    have h5 := h4 x hx
    rw [List.lookup_eq_some_iff] at h5
    obtain ⟨l1, l2, e, _⟩ := h5
    rw [e]
    simp
   obtain ⟨pp, hpp, rfl⟩ := List.mem_map.mp hm
   exact hV.ok pp hpp
  rw [eqv_strs_nil]
  walk_at "q"
  have hDb : D ≠ b := fun e => by
   have z := hB4.ne
   obtain ⟨cells, i, r, kk, h6, _⟩ := hB.ex
   have h7 := f2.at h6 (fun z => nomatch z)
   rw [← e, hD] at h7
   cases h7
  have value : ∀ H5, BagAt H5 b cs → Fr [b] H H5 → ∀ (tm : TE), True := fun _ _ _ _ => trivial
  refine g_by (fun c => ?_) (fun c => ?_)
  ·walk_at "q"
   refine ⟨b, cs, k, rfl, hk, hB4, fun u H5 hu5 hB5 hF5 => ?_⟩
   walk_at "q"
   refine ⟨le_of (by simp), fun p6 hp6 => ?_⟩
   exact q p6 _ (.inl ⟨u, SqT.of upd_same, hu5⟩) (hB5.fr0 (Fr.new hp6)) ((f5.nil.trans hF5).trans (Fr.new hp6))
  ·walk_at "q"
   refine ⟨b, cs, _, rfl, hB4, by decide, by decide, fun dd H5 d0 d1 hB5 hF5 => ?_⟩
   walk_at "q"
   refine g_by (fun c2 => ?_) (fun c2 => ?_)
   ·walk_at "q"
    refine ⟨b, cs, k, rfl, hk, hB5, fun u H6 hu6 hB6 hF6 => ?_⟩
    walk_at "q"
    refine ⟨le_of (by simp), fun p6 hp6 => ?_⟩
    exact q p6 _ (.inl ⟨u, SqT.of upd_same, hu6⟩) (hB6.fr0 (Fr.new hp6)) (((f5.nil.trans hF5).trans hF6).trans (Fr.new hp6))
   ·walk_at "q"
    have hw0 : 0 < ws.length := by
     cases ws with
     | nil => exact absurd rfl c
     | cons x r => exact Nat.succ_pos _
    rw [List.length_map] at h3
    refine ⟨b, cs, D, ws.map V.str, rfl, hB5, .inl ⟨hF5.seq (fun z => hDb (List.mem_singleton.mp z)) (SqL.of hD4), hDb⟩, by rw [List.length_map]; exact hw0, by rw [List.length_map]; omega, fun v H6 hv hB6 hF6 => ?_⟩
    obtain ⟨x, hx, rfl⟩ := List.mem_map.mp hv
    walk_at "q"
    refine ⟨le_of (by simp), fun p6 hp6 => ?_⟩
    exact q p6 _ (.inr ⟨x, SqT.of upd_same, h4 x hx⟩) (hB6.fr0 (Fr.new hp6)) (((f5.nil.trans hF5).trans hF6).trans (Fr.new hp6))
end
inductive SumN (vd : List (Str × Str)) : Nat → SumE → Prop
 | num {m : Nat} {k : Str} {u : V} : ValOf k u → k = "number" → SumN vd m (.val u)
 | var {m : Nat} {x : Str} : vd.lookup x = some "number" → SumN vd m (.var x)
 | op {m : Nat} {s : Str} {a b : SumE} : isSg s → SumN vd m a → SumN vd m b → SumN vd (m + 1) (.op s a b)
theorem SumN.deep {vd : List (Str × Str)} {m : Nat} {e : SumE} (h : SumN vd m e) : e.deep ≤ m := by
 induction h with
 | num _ _ => exact Nat.zero_le _
 | var _ => exact Nat.zero_le _
 | op _ _ _ h1 h2 => exact Nat.succ_le_succ (Nat.max_le.mpr ⟨h1, h2⟩)
def spSum (K : PySem.W.Frag) (n : Nat) : Sp := fun vs H Q _ => ∃ (b cs d : Addr) (m : Nat) (vd : List (Str × Str)), vs = [.ref b, .ref d, .int (m : Int)] ∧ m < n ∧ BagAt H b cs ∧ VarsAt H d vd ∧
 ∀ e v H', SumN vd m e → SumAt K H' e v → BagAt H' b cs → Fr [b] H H' → Q v H'
abbrev s__law_sum : Stmt := topS 27
theorem sc__law_sum : FnScope ["_law_bag_here", "_law_vars_of", "_law_deep", "_law_sign"] ["_law_bag_here", "_law_vars_of", "_law_deep"] (defScope s__law_sum) := ⟨rfl, rfl, rfl, by decide +kernel, rfl, by decide +kernel, by decide +kernel⟩
theorem leaf_sum {K : PySem.W.Frag} {H : Hp} {vd : List (Str × Str)} {p : Addr} (m : Nat) (h : LeafAt K H vd "number" p) : ∃ e, SumN vd m e ∧ SumAt K H e (.ref p) := by
 rcases h with ⟨u, h1, h2⟩ | ⟨x, h1, h2⟩
 ·exact ⟨.val u, .num h2 rfl, p, rfl, h1⟩
 ·exact ⟨.var x, .var h2, p, rfl, h1⟩
section
variable {P : Program} {w : World} {K : PySem.W.Frag} {mg : Str → Option Value} {base : Heap}
theorem ok__law_sum {n : Nat} {f : Addr} {fd : FuncData} (F : FnP K "_law_sum" s__law_sum f fd) (C__law_pull : CalG P w K mg base 10 "_law_pull" spPull) (C__law_one : CalG P w K mg base 20 "_law_one" (spOne K))
  (C__law_leaf : CalG P w K mg base 50 "_law_leaf" (spLeaf K)) (C__law_sum : CalG P w K mg base (50 + n) "_law_sum" (spSum K n)) : FnG P w K mg base CX0 (50 + n + 1) f fd ["_law_bag_here", "_law_vars_of", "_law_deep"] (spSum K (n + 1)) := by
 refine okG F sc__law_sum (fun vs H Q E h => ?_) (fun cdv A outer s H vs Q E hr h => ?_)
 ·obtain ⟨b, cs, d, m, vd, rfl, _⟩ := h
  rfl
 obtain ⟨b, cs, d, m, vd, rfl, hm, hB, hV, q⟩ := h
 refine ⟨_, PSs.nox (pss_cons (ps_if (PW.pt (pw_or (pt_cmpR (kOp (K := K) (r := uEq) rfl (opu_eq hr.units)) (pv 2) pe_int (nomark _)) (pw_or1 (pt_cmpR (kOp (K := K) (r := uEq) rfl (opu_eq hr.units)) (pe_calG C__law_pull hr rfl (pa_cons (pv 0) (pa_cons pe_int pa_nil))) pe_int (nomark _))))) (pss_one (ps_ret (pe_calG C__law_leaf hr rfl (pa_cons (pv 0) (pa_cons pe_str (pa_cons (pv 1) pa_nil)))))) pss_nil)
 (pss_cons (ps_set (i := 3) sc__law_sum.nd rfl (.inl rfl) (pe_calG C__law_one hr rfl (pa_cons (pv 0) (pa_cons (pe_lst (pa_cons pe_str (pa_cons pe_str (pa_cons pe_str pa_nil)))) pa_nil))))
 (pss_one (ps_ret (pe_tup (pa_cons (pv 3) (pa_cons (pe_calG C__law_sum hr rfl (pa_cons (pv 0) (pa_cons (pv 1) (pa_cons (pe_op opu_sub (pv 2) pe_int) pa_nil)))) (pa_cons (pe_calG C__law_sum hr rfl (pa_cons (pv 0) (pa_cons (pv 1) (pa_cons (pe_op opu_sub (pv 2) pe_int) pa_nil)))) pa_nil)))))))), rd_start (σ0 := [some (.ref b), some (.ref d), some (.int (m : Int)), none]) rfl ?_⟩
 have hdb := hV.ne hB
 have hn : ∀ {x : Addr}, x ≠ b → x ∉ [b] := fun h z => h (List.mem_singleton.mp z)
 walk_at "q"
 refine g_by (fun c => ?_) (fun c => ?_)
 ·walk_at "q"
  refine ⟨b, cs, d, "number", vd, rfl, .inl rfl, hB, hV, fun p H1 hp hB1 hF1 => ?_⟩
  obtain ⟨e, he, hs⟩ := leaf_sum m hp
  exact q e _ H1 he hs hB1 hF1
 ·walk_at "q"
  refine ⟨b, cs, _, rfl, hB, by decide, by decide, fun dd H1 d0 d1 hB1 hF1 => ?_⟩
  have hV1 := hV.fr hF1 (hn hdb.1)
  walk_at "q"
  refine g_by (fun c2 => ?_) (fun c2 => ?_)
  ·walk_at "q"
   refine ⟨b, cs, d, "number", vd, rfl, .inl rfl, hB1, hV1, fun p H2 hp hB2 hF2 => ?_⟩
   obtain ⟨e, he, hs⟩ := leaf_sum m hp
   exact q e _ H2 he hs hB2 (hF1.trans hF2)
  ·walk_at "q"
   refine ⟨le_of (by simp), fun p hp => ?_⟩
   have hF2 : Fr [b] H1 (upd H1 p (.lst [.str "+", .str "-", .str "*"])) := Fr.new hp
   have hB2 := hB1.fr0 (Fr.new (M := []) (o := .lst [.str "+", .str "-", .str "*"]) hp)
   have hV2 := hV1.fr hF2 (hn hdb.1)
   have hpl : (upd H1 p (.lst [V.str "+", .str "-", .str "*"])) p = some (.lst [V.str "+", .str "-", .str "*"]) := upd_same
   generalize upd H1 p (.lst [V.str "+", .str "-", .str "*"]) = H2 at *
   walk_at "q"
   refine ⟨b, cs, p, _, rfl, hB2, .inl ⟨SqL.of hpl, (hB1.some hp).1⟩, by decide, by decide, fun sv H3 hsv hB3 hF3 => ?_⟩
   have hV3 := hV2.fr hF3 (hn hdb.1)
   obtain ⟨sg, hsg, rfl⟩ : ∃ sg, isSg sg ∧ sv = .str sg := by
    simp only [List.mem_cons, List.not_mem_nil, or_false] at hsv
    rcases hsv with rfl | rfl | rfl
    ·exact ⟨_, .inl rfl, rfl⟩
    ·exact ⟨_, .inr (.inl rfl), rfl⟩
    ·exact ⟨_, .inr (.inr rfl), rfl⟩
   obtain ⟨m', rfl⟩ : ∃ m', m = m' + 1 := ⟨m - 1, by omega⟩
   have em : ((m' + 1 : Nat) : Int) - 1 = (m' : Int) := by omega
   walk_at "q"
   rw [em]
   refine ⟨b, cs, d, m', vd, rfl, by omega, hB3, hV3, fun e1 v1 H4 he1 hs1 hB4 hF4 => ?_⟩
   have hV4 := hV3.fr hF4 (hn hdb.1)
   walk_at "q"
   rw [em]
   refine ⟨b, cs, d, m', vd, rfl, by omega, hB4, hV4, fun e2 v2 H5 he2 hs2 hB5 hF5 => ?_⟩
   walk_at "q"
   refine ⟨le_of (by simp), fun p6 hp6 => ?_⟩
   have f6 : Fr [b] H5 (upd H5 p6 (.tup [.str sg, v1, v2])) := Fr.new hp6
   refine q (.op sg e1 e2) _ _ (.op hsg he1 he2) ⟨p6, v1, v2, rfl, SqT.of upd_same, (hs1.fr hF5).fr f6, hs2.fr f6⟩ (hB5.fr0 (Fr.new hp6)) (((((hF1.trans hF2).trans hF3).trans hF4).trans hF5).trans f6)
end
def barredL : List Str := ["if", "not", "is", "count", "sum", "least", "most", "yes", "no", "me"]
def VarN (x : Str) : Prop := WordP x ∧ x ∉ barredL
def varB (x : Str) : Bool := wordB x && !(barredL.any fun y => decide (x = y))
theorem varB_ok {x : Str} (h : varB x = true) : VarN x := by
 unfold varB at h
 simp only [Bool.and_eq_true, Bool.not_eq_true', List.any_eq_false, decide_eq_true_eq] at h
 exact ⟨wordB_ok h.1, fun z => h.2 x z rfl⟩
theorem WordP.tx {x : Str} (h : WordP x) : Tx 12 x := by
 refine ⟨len_le12 h, fun c hc => ?_⟩
 obtain ⟨d, r, e, h1, h2, _⟩ := h
 have lt : ∀ d, (isLet d || isFig d) = true → d < 0x110000 := by
  intro d hd
  unfold isLet isFig at hd
  simp only [Bool.or_eq_true, decide_eq_true_eq] at hd
  omega
 rw [e] at hc
 rcases List.mem_cons.mp hc with rfl | hc
 ·exact lt _ (by rw [h1]; rfl)
 ·exact lt _ (h2 c hc)
def putS (vd : List (Str × Str)) (x k : Str) : List (Str × Str) := if (vd.any fun p => decide (p.1 = x)) = true then vd.map (fun p => if p.1 = x then (p.1, k) else p) else vd ++ [(x, k)]
structure VdG (vd : List (Str × Str)) : Prop where
 len : vd.length ≤ 12
 ok : ∀ p ∈ vd, VarN p.1 ∧ KindW p.2
theorem putS_mem {vd : List (Str × Str)} {x k : Str} {p : Str × Str} (h : p ∈ putS vd x k) : p ∈ vd ∨ p = (x, k) := by
 unfold putS at h
 split at h
 ·obtain ⟨c, hc, rfl⟩ := List.mem_map.mp h
  split
  ·rename_i e
   exact .inr (by rw [e])
  ·exact .inl hc
 ·rcases List.mem_append.mp h with h | h
  ·exact .inl h
  ·exact .inr (List.mem_singleton.mp h)
theorem putS_len {vd : List (Str × Str)} {x k : Str} : (putS vd x k).length ≤ vd.length + 1 := by
 unfold putS
 split
 ·rw [List.length_map]; omega
 ·rw [List.length_append]; exact Nat.le_refl _
theorem VdG.put {vd : List (Str × Str)} {x k : Str} (h : VdG vd) (hl : vd.length ≤ 11) (hx : VarN x) (hk : KindW k) : VdG (putS vd x k) := by
 refine ⟨Nat.le_trans putS_len (by omega), fun p hp => ?_⟩
 rcases putS_mem hp with hp | rfl
 ·exact h.ok p hp
 ·exact ⟨hx, hk⟩
theorem VdG.lk {vd : List (Str × Str)} {x k : Str} (h : VdG vd) (e : vd.lookup x = some k) : VarN x ∧ KindW k := by
 rw [List.lookup_eq_some_iff] at e
 obtain ⟨l1, l2, e, _⟩ := e
 exact h.ok (x, k) (by rw [e]; simp)
theorem VarN.ok {x : Str} (h : VarN x) : PyData.strOk x = true := by
 unfold PyData.strOk
 rw [← Array.all_toList, List.all_eq_true]
 exact fun c hc => decide_eq_true (h.1.tx.ok c hc)
theorem VarsAt.put {H : Hp} {d : Addr} {vd : List (Str × Str)} {x k : Str} (h : VarsAt H d vd) (hx : VarN x) (hl : vd.length ≤ 50) : VarsAt (upd H d (.dK (kvOf (putS vd x k)))) d (putS vd x k) :=
 ⟨upd_same, Nat.lt_of_le_of_lt putS_len (by omega), fun p hp => by
  rcases putS_mem hp with hp | rfl
  ·exact h.ok p hp
  ·exact hx.ok⟩
def ValW (u : V) : Prop := (∃ i : Int, u = .int i ∧ i.natAbs < 10 ^ 30) ∨ (∃ b, u = .bl b) ∨ ∃ x, u = .str x ∧ WordP x
theorem ValOf.w {k : Str} {u : V} (h : ValOf k u) : ValW u := by
 rcases h with ⟨_, n, rfl, h1, h2⟩ | ⟨_, c, rfl⟩ | ⟨_, x, rfl, hx⟩
 ·exact .inl ⟨n, rfl, by omega⟩
 ·exact .inr (.inl ⟨c, rfl⟩)
 ·exact .inr (.inr ⟨x, rfl, hx⟩)
theorem ValW.g {u : V} (h : ValW u) : ValG u := by
 rcases h with ⟨i, rfl, h⟩ | ⟨b, rfl⟩ | ⟨x, rfl, h⟩
 ·exact .inl ⟨i, rfl, h⟩
 ·exact .inr (.inl ⟨b, rfl⟩)
 ·exact .inr (.inr ⟨x, rfl, h.tx⟩)
theorem ValW.td {K : PySem.W.Frag} {H : Hp} {u : V} (h : ValW u) : Td K H u (scD u) := by
 rcases h with ⟨i, rfl, h⟩ | ⟨b, rfl⟩ | ⟨x, rfl, h⟩
 ·exact .int i
 ·exact .bl b
 ·exact .str x
inductive SumW : Nat → SumE → Prop
 | val {n : Nat} {u : V} : ValW u → SumW n (.val u)
 | var {n : Nat} {x : Str} : VarN x → SumW n (.var x)
 | op {n : Nat} {s : Str} {a b : SumE} : isSg s → SumW n a → SumW n b → SumW (n + 1) (.op s a b)
theorem SumW.up {m n : Nat} {e : SumE} (h : SumW m e) (l : m ≤ n) : SumW n e := by
 induction h generalizing n with
 | val h => exact .val h
 | var h => exact .var h
 | op hs _ _ iha ihb =>
  obtain ⟨k, rfl⟩ : ∃ k, n = k + 1 := ⟨n - 1, by omega⟩
  exact .op hs (iha (by omega)) (ihb (by omega))
theorem SumW.g {n : Nat} {e : SumE} (h : SumW n e) : SumG n e := by
 induction h with
 | val h => exact .val h.g
 | var h => exact .var h.1.tx
 | op hs _ _ h1 h2 => exact .op hs h1 h2
inductive TermW : TermE → Prop
 | any : TermW .any
 | s {e : SumE} : SumW 0 e → TermW (.s e)
theorem TermW.g {t : TermE} (h : TermW t) : TermG t := by
 cases h with
 | any => exact .any
 | s h => exact .s h.g
inductive NameD : Str → Prop
 | one {a : Str} : VarN a → NameD a
 | two {a b : Str} : VarN a → VarN b → NameD (a ++ "." ++ b)
 | three {a b c : Str} : VarN a → VarN b → VarN c → NameD (a ++ "." ++ b ++ "." ++ c)
theorem NameD.tx {x : Str} (h : NameD x) : Tx 38 x := by
 have d : Tx 1 (".": Str) := Tx.lit (by decide +kernel)
 cases h with
 | one h => exact h.1.tx.mono (by decide)
 | two h k => exact ((h.1.tx.app d).app k.1.tx).mono (by decide)
 | three h k l => exact ((((h.1.tx.app d).app k.1.tx).app d).app l.1.tx).mono (by decide)
def testL : List Str := ["=", "!=", "<", "<=", ">", ">="]
inductive PartW : PartE → Prop
 | atom {no : Bool} {x : Str} {ts : List TermE} : Tx 40 x → (∃ y, NameD y ∧ (x = y ∨ x = "q." ++ y)) → 1 ≤ ts.length → ts.length ≤ 4 → (∀ t ∈ ts, TermW t) → PartW (.atom no x ts)
 | lt {x : Str} {e : SumE} : VarN x → SumW 1 e → PartW (.lt x e)
 | test {s : Str} {a b : SumE} : s ∈ testL → SumW 1 a → SumW 1 b → PartW (.test s a b)
theorem testL_tx {s : Str} (h : s ∈ testL) : Tx 2 s := by
 have z : ∀ s ∈ testL, txB 2 s = true := by decide +kernel
 exact Tx.lit (z s h)
theorem PartW.g {p : PartE} (h : PartW p) : PartG p := by
 cases h with
 | atom hx _ _ hl h => exact .atom (hx.mono (by decide)) hl fun t ht => (h t ht).g
 | lt hx h => exact .lt hx.1.tx h.g
 | test hs h k => exact .test (testL_tx hs) h.g k.g
inductive ArgW : ArgE → Prop
 | s {e : SumE} : SumW 0 e → ArgW (.s e)
 | fold0 : ArgW (.fold "count" none)
 | fold {w x : Str} : w ∈ (["sum", "least", "most"] : List Str) → VarN x → ArgW (.fold w (some x))
theorem ArgW.g {a : ArgE} (h : ArgW a) : ArgG a := by
 cases h with
 | s h => exact .s h.g
 | fold0 => exact .fold0 (Tx.lit (by decide +kernel))
 | fold h k =>
  have z : ∀ s ∈ (["sum", "least", "most"] : List Str), txB 5 s = true := by decide +kernel
  exact .fold (Tx.lit (z _ h)) k.1.tx
theorem LeafAt.w {K : PySem.W.Frag} {H : Hp} {vd : List (Str × Str)} {k : Str} {p : Addr} (h : LeafAt K H vd k p) (hv : VdG vd) : ∃ e, SumW 0 e ∧ Td K H (.ref p) e.d := by
 rcases h with ⟨u, h1, h2⟩ | ⟨x, h1, h2⟩
 ·exact ⟨.val u, .val h2.w, .tup h1 (.cons (.str _) (.cons h2.w.td .nil))⟩
 ·exact ⟨.var x, .var (hv.lk h2).1, .tup h1 (.cons (.str _) (.cons (.str _) .nil))⟩
theorem SumN.w {vd : List (Str × Str)} {m : Nat} {e : SumE} (h : SumN vd m e) (hv : VdG vd) : SumW m e := by
 induction h with
 | num h _ => exact .val h.w
 | var h => exact .var (hv.lk h).1
 | op hs _ _ h1 h2 => exact .op hs h1 h2
theorem SumAt.td {K : PySem.W.Frag} {H : Hp} {m : Nat} : ∀ {e : SumE} {v : V}, SumW m e → SumAt K H e v → Td K H v e.d := by
 intro e v hw
 induction hw generalizing v with
 | val h => exact fun ⟨p, e, hp⟩ => by rw [e]; exact .tup hp (.cons (.str _) (.cons h.td .nil))
 | var h => exact fun ⟨p, e, hp⟩ => by rw [e]; exact .tup hp (.cons (.str _) (.cons (.str _) .nil))
 | op hs _ _ h1 h2 => exact fun ⟨p, y, z, e, hp, ha, hb⟩ => by rw [e]; exact .tup hp (.cons (.str _) (.cons (h1 ha) (.cons (h2 hb) .nil)))
def sumV : SumE → List Str
 | .val _ => []
 | .var x => [x]
 | .op _ a b => sumV a ++ sumV b
def termV : TermE → List Str
 | .s (.var x) => [x]
 | _ => []
def partV : PartE → List Str
 | .atom _ _ ts => ts.flatMap termV
 | .lt x e => x :: sumV e
 | .test _ a b => sumV a ++ sumV b
def wantV : PartE → List Str
 | .lt _ e => sumV e
 | p => partV p
def giveV : PartE → List Str
 | .atom false _ ts => ts.flatMap termV
 | .lt x _ => [x]
 | _ => []
inductive PartA : PartE → Prop
 | atom {no : Bool} {x : Str} {ts : List TermE} : ts.length ≤ 8 → (∀ t ∈ ts, TermG t) → PartA (.atom no x ts)
 | lt {x : Str} {e : SumE} : Tx 12 x → SumG 2 e → PartA (.lt x e)
 | test {s : Str} {a b : SumE} : SumG 2 a → SumG 2 b → PartA (.test s a b)
theorem sumV_len {m : Nat} {e : SumE} (h : SumG m e) : (sumV e).length ≤ 2 ^ m := by
 induction h with
 | val => exact Nat.zero_le _
 | @var n x => exact Nat.one_le_two_pow
 | op _ _ _ h1 h2 => rw [Nat.pow_succ]; simp only [sumV, List.length_append]; omega
theorem termV_len (t : TermE) : (termV t).length ≤ 1 := by
 unfold termV
 split
 ·exact Nat.le_refl _
 ·exact Nat.zero_le _
theorem termsV_len (ts : List TermE) : (ts.flatMap termV).length ≤ ts.length := by
 induction ts with
 | nil => exact Nat.le_refl _
 | cons t r ih =>
  have := termV_len t
  simp only [List.flatMap_cons, List.length_append, List.length_cons]
  omega
theorem partV_len {p : PartE} (h : PartA p) : (partV p).length ≤ 8 := by
 cases h with
 | atom hl _ => exact Nat.le_trans (termsV_len _) hl
 | lt _ h => have := sumV_len h; simp only [partV, List.length_cons]; omega
 | test h k => have := sumV_len h; have := sumV_len k; simp only [partV, List.length_append]; omega
def spNames1 {α : Type} (K : PySem.W.Frag) (d : α → PyData) (G : α → Prop) (T : α → List Str) : Sp := fun vs H Q _ => ∃ v a, vs = [v] ∧ Td K H v (d a) ∧ G a ∧ ∀ p H', Fr [] H H' → H p = none → H' p = some (.lst ((T a).map V.str)) → Q (.ref p) H'
def spSumV (K : PySem.W.Frag) (n : Nat) : Sp := fun vs H Q _ => ∃ v e m, vs = [v] ∧ Td K H v (SumE.d e) ∧ SumG m e ∧ m ≤ 4 ∧ e.deep < n ∧ ∀ p H', Fr [] H H' → H p = none → H' p = some (.lst ((sumV e).map V.str)) → Q (.ref p) H'
abbrev s_sum_variables : Stmt := topS 5
theorem sc_sum_variables : FnScope ["thing"] ["thing"] (defScope s_sum_variables) := ⟨rfl, rfl, rfl, by decide +kernel, rfl, by decide +kernel, by decide +kernel⟩
abbrev s_part_variables : Stmt := topS 6
theorem sc_part_variables : FnScope ["part", "term"] ["part"] (defScope s_part_variables) := ⟨rfl, rfl, rfl, by decide +kernel, rfl, by decide +kernel, by decide +kernel⟩
abbrev s_wanted : Stmt := topS 7
theorem sc_wanted : FnScope ["part"] ["part"] (defScope s_wanted) := ⟨rfl, rfl, rfl, by decide +kernel, rfl, by decide +kernel, by decide +kernel⟩
abbrev s_given_by : Stmt := topS 8
theorem sc_given_by : FnScope ["part"] ["part"] (defScope s_given_by) := ⟨rfl, rfl, rfl, by decide +kernel, rfl, by decide +kernel, by decide +kernel⟩
section
variable {P : Program} {w : World} {K : PySem.W.Frag} {mg : Str → Option Value} {base : Heap}
theorem two_in {K : PySem.W.Frag} (H : Hp) (z a b : Str) (A : V → Hp → Prop) (k : ∀ H', Fr [] H H' → A (.bl (decide (z ∈ ([a, b] : List Str)))) H') : ∀ p, H p = none → uIn K (.str z) (.ref p) (upd H p (.tup [.str a, .str b])) A := fun p hp => by
 refine g_inT (xs := ([a, b] : List Str).map V.str) (.inr (SqT.of upd_same)) (flat_strs _) ?_
 rw [inV_str]
 exact k _ (Fr.new hp)
theorem ok_sum_variables {n : Nat} {f : Addr} {fd : FuncData} (F : FnP K "sum_variables" s_sum_variables f fd) (C_sum_variables : CalG P w K mg base n "sum_variables" (spSumV K n)) : FnG P w K mg base CX0 (n + 1) f fd ["thing"] (spSumV K (n + 1)) := by
 refine okG F sc_sum_variables (fun vs H Q E h => ?_) (fun cdv A outer s H vs Q E hr h => ?_)
 ·obtain ⟨v, e, m, rfl, _⟩ := h
  rfl
 obtain ⟨v, e, m, rfl, hv, he, hm, hn, q⟩ := h
 refine ⟨_, PSs.nox (pss_cons (ps_if (pt_cmpR (kOp (K := K) (r := uEq) rfl (opu_eq hr.units)) (pe_ix (kIx (K := K) (r := rIx) rfl ix_seq) (pv 0) pe_int (fun _ _ => rfl)) pe_str (nomark _)) (pss_one (ps_ret (pe_lst (pa_cons (pe_ix (kIx (K := K) (r := rIx) rfl ix_seq) (pv 0) pe_int (fun _ _ => rfl)) pa_nil)))) pss_nil)
 (pss_cons (ps_if (pt_cmpR (kOp (K := K) (r := uEq) rfl (opu_eq hr.units)) (pe_ix (kIx (K := K) (r := rIx) rfl ix_seq) (pv 0) pe_int (fun _ _ => rfl)) pe_str (nomark _)) (pss_one (ps_ret (pe_lst pa_nil))) pss_nil)
 (pss_one (ps_ret (pe_op (kOp (K := K) (r := uAdd) rfl opu_add) (pe_calG C_sum_variables hr rfl (pa_cons (pe_ix (kIx (K := K) (r := rIx) rfl ix_seq) (pv 0) pe_int (fun _ _ => rfl)) pa_nil)) (pe_calG C_sum_variables hr rfl (pa_cons (pe_ix (kIx (K := K) (r := rIx) rfl ix_seq) (pv 0) pe_int (fun _ _ => rfl)) pa_nil))))))), rd_start (σ0 := [some v]) rfl ?_⟩
 cases he with
 | @val m u hu =>
  obtain ⟨p, rfl, hp⟩ := td_val hu hv
  walk_at "q"
  refine ⟨le_of (by simp), fun p2 hp2 => ?_⟩
  exact q _ _ (Fr.new hp2) hp2 upd_same
 | @var m x hx =>
  obtain ⟨p, x', y, rfl, hp, hx', hy⟩ := Td.t2 (show Td K H v (.tuple [.str "var", .str x]) from hv)
  cases hx'.str_inv
  cases hy.str_inv
  walk_at "q"
  refine ⟨le_of (by simp), fun p2 hp2 => ?_⟩
  exact q _ _ (Fr.new hp2) hp2 upd_same
 | @op m s a b hs ha hb =>
  obtain ⟨p, x, y, z, rfl, hp, hx, hy, hz⟩ := Td.t3 (show Td K H v (.tuple [.str s, a.d, b.d]) from hv)
  cases hx.str_inv
  have hdeep : max a.deep b.deep + 1 < n + 1 := hn
  walk_at "q"
  refine g_ff (decide_eq_false (sg_ne hs).2) ?_
  walk_at "q"
  refine g_ff (decide_eq_false (sg_ne hs).1) ?_
  walk_at "q"
  refine ⟨y, a, m, rfl, hy, ha, by omega, by omega, fun p1 H1 e1 _ h1 => ?_⟩
  have hp1 := e1.tup hp
  walk_at "q"
  refine ⟨z, b, m, rfl, hz.fr e1, hb, by omega, by omega, fun p2 H2 e2 _ h2 => ?_⟩
  have l1 := sumV_len (ha.up (show m ≤ 4 by omega))
  have l2 := sumV_len (hb.up (show m ≤ 4 by omega))
  refine g_addL (e2.at h1 (fun z => nomatch z)) h2 (le_of (by rw [List.length_map, List.length_map]; omega)) fun p3 hp3 => ?_
  have hp3H : H p3 = none := (e1.trans e2).back (fun z => nomatch z) hp3
  refine q _ _ ((e1.trans e2).trans (Fr.new hp3)) hp3H ?_
  rw [upd_same, ← List.map_append]
  rfl
end
section
variable {P : Program} {w : World} {K : PySem.W.Frag} {mg : Str → Option Value} {base : Heap}
theorem ok_part_variables {f : Addr} {fd : FuncData} (F : FnP K "part_variables" s_part_variables f fd) (C_sum_variables : CalG P w K mg base 5 "sum_variables" (spSumV K 5)) : FnG P w K mg base CX0 6 f fd ["part"] (spNames1 K PartE.d PartA partV) := by
 refine okG F sc_part_variables (fun vs H Q E h => ?_) (fun cdv A outer s H vs Q E hr h => ?_)
 ·obtain ⟨v, a, rfl, _⟩ := h
  rfl
 obtain ⟨v, p, rfl, hv, hp, q⟩ := h
 refine ⟨_, PSs.nox (pss_cons (ps_if (pt_cmpR (kOp (K := K) (r := uIn) rfl opu_in) (pe_ix (kIx (K := K) (r := rIx) rfl ix_seq) (pv 0) pe_int (fun _ _ => rfl)) (pe_tup (pa_cons pe_str (pa_cons pe_str pa_nil))) (by rfl)) (pss_one (ps_ret (pe_lc (own := [("term", 1)]) (g := gName 1) rfl sc_part_variables.nd (pi_tupK (K := K) rfl (pe_ix (kIx (K := K) (r := rIx) rfl ix_seq) (pv 0) pe_int (fun _ _ => rfl))) (blkOk_by (own := [("term", 1)]) (N := ["part", "term"]) (sc := defScope s_part_variables) (by decide +kernel)) (fun _ _ _ _ _ => (by exact (pg_name (i := 1) sc_part_variables.nd rfl (by first | exact Or.inl rfl | exact Or.inr rfl)))) (fun _ _ _ _ _ => (by exact pts_one (pt_cmpR (kOp (K := K) (r := uEq) rfl (opu_eq hr.units)) (pe_ix (kIx (K := K) (r := rIx) rfl ix_seq) (pv 1) pe_int (fun _ _ => rfl)) pe_str (nomark _)))) (fun _ _ _ _ _ => (by exact (pe_ix (kIx (K := K) (r := rIx) rfl ix_seq) (pv 1) pe_int (fun _ _ => rfl))))))) pss_nil)
 (pss_cons (ps_if (pt_cmpR (kOp (K := K) (r := uEq) rfl (opu_eq hr.units)) (pe_ix (kIx (K := K) (r := rIx) rfl ix_seq) (pv 0) pe_int (fun _ _ => rfl)) pe_str (nomark _)) (pss_one (ps_ret (pe_op (kOp (K := K) (r := uAdd) rfl opu_add) (pe_lst (pa_cons (pe_ix (kIx (K := K) (r := rIx) rfl ix_seq) (pv 0) pe_int (fun _ _ => rfl)) pa_nil)) (pe_calG C_sum_variables hr rfl (pa_cons (pe_ix (kIx (K := K) (r := rIx) rfl ix_seq) (pv 0) pe_int (fun _ _ => rfl)) pa_nil))))) pss_nil)
 (pss_one (ps_ret (pe_op (kOp (K := K) (r := uAdd) rfl opu_add) (pe_calG C_sum_variables hr rfl (pa_cons (pe_ix (kIx (K := K) (r := rIx) rfl ix_seq) (pv 0) pe_int (fun _ _ => rfl)) pa_nil)) (pe_calG C_sum_variables hr rfl (pa_cons (pe_ix (kIx (K := K) (r := rIx) rfl ix_seq) (pv 0) pe_int (fun _ _ => rfl)) pa_nil))))))), rd_start (σ0 := [some v, none]) rfl ?_⟩
 cases hp with
 | @atom no x ts hl hts =>
  obtain ⟨a, y1, y2, y3, rfl, ha, h1, h2, h3⟩ := Td.t3 (show Td K H v (.tuple [.str (if no then "not" else "atom"), .str x, .tuple (ts.map TermE.d)]) from hv)
  cases h1.str_inv
  cases h2.str_inv
  obtain ⟨r, us, rfl, hr3, ht⟩ := h3.tuple_inv
  walk_at "q"
  refine ⟨le_of (by simp), two_in _ _ _ _ _ fun H1 e1 => ?_⟩
  have ha1 := e1.tup ha
  have hr1 := e1.tup hr3
  obtain ⟨k1, k2⟩ := tda_get (ht.fr e1)
  rw [decide_eq_true (show (if no = true then ("not" : Str) else "atom") ∈ (["atom", "not"] : List Str) by cases no <;> decide +kernel)]
  walk_at "q"
  refine ⟨r, rfl, ⟨_, hr1⟩, fun D hD => lc_it (walk_tup (xs := us)) (fun i H' => Fr [] H1 H' ∧ H' D = some (.lst (((ts.take i).flatMap termV).map V.str))) ⟨Fr.new hD, upd_same⟩ (fun i H' _ h => h.1.tup hr1) (fun i y H' H'' hi h yy => ?_) (fun H' h => ?_)⟩
  ·obtain ⟨rfl, hxx⟩ := yy
   obtain ⟨f1, f2⟩ := h
   obtain ⟨t, ht0, htd⟩ := k2 i y hxx
   have htd := htd.fr f1
   have hlen : ((ts.take i).flatMap termV).length ≤ 8 := Nat.le_trans (termsV_len _) (by rw [List.length_take]; omega)
   have step : ((ts.take (i + 1)).flatMap termV) = (ts.take i).flatMap termV ++ termV t := by rw [List.take_succ, ht0, List.flatMap_append]; simp
   walk_at "q"
   refine ⟨rfl, ?_⟩
   cases hts t (List.mem_of_getElem? ht0) with
   | any =>
    obtain ⟨p, z, rfl, hp, hz⟩ := Td.t1 (show Td K H'' y (.tuple [.str "any"]) from htd)
    cases hz.str_inv
    walk_at "q"
    exact ⟨f1, by rw [step, f2]; simp [termV]⟩
   | @s e he =>
    cases he with
    | @val _ u hu =>
     obtain ⟨p, rfl, hp⟩ := td_val hu (show Td K H'' y (.tuple [.str "value", scD u]) from htd)
     walk_at "q"
     exact ⟨f1, by rw [step, f2]; simp [termV]⟩
    | @var _ x hx =>
     obtain ⟨p, x', z, rfl, hp, hx', hz⟩ := Td.t2 (show Td K H'' y (.tuple [.str "var", .str x]) from htd)
     cases hx'.str_inv
     cases hz.str_inv
     walk_at "q"
     refine ⟨_, f2, lt_of (by rw [List.length_map]; omega), f1.over hD, ?_⟩
     rw [upd_same, step, List.map_append]
     rfl
  ·refine q _ _ (e1.trans h.1) (e1.back (fun z => nomatch z) hD) ?_
   rw [h.2, k1, List.take_length]
   rfl
 | @lt x e hx0 he =>
  obtain ⟨a, y1, y2, y3, rfl, ha, h1, h2, h3⟩ := Td.t3 (show Td K H v (.tuple [.str "let", .str x, e.d]) from hv)
  cases h1.str_inv
  cases h2.str_inv
  walk_at "q"
  refine ⟨le_of (by simp), two_in _ _ _ _ _ fun H1 e1 => ?_⟩
  have ha1 := e1.tup ha
  walk_at "q"
  refine ⟨le_of (by simp), fun p2 hp2 => ?_⟩
  have e2 : Fr [] H1 (upd H1 p2 (.lst [.str x])) := Fr.new hp2
  have h2l : (upd H1 p2 (.lst [V.str x])) p2 = some (.lst [.str x]) := upd_same
  have ha2 := e2.tup ha1
  generalize upd H1 p2 (.lst [V.str x]) = H2 at *
  walk_at "q"
  refine ⟨_, e, 2, rfl, (h3.fr e1).fr e2, he, by decide, by have := sum_deep he; omega, fun p3 H3 e3 _ h3l => ?_⟩
  have l1 := sumV_len he
  refine g_addL (e3.at h2l (fun z => nomatch z)) h3l (le_of (by rw [List.length_map]; simp only [List.length_singleton]; omega)) fun p4 hp4 => ?_
  have ee := (e1.trans e2).trans e3
  refine q _ _ (ee.trans (Fr.new hp4)) (ee.back (fun z => nomatch z) hp4) ?_
  rw [upd_same]
  rfl
 | @test sg a b ha hb =>
  obtain ⟨p, y1, y2, y3, y4, rfl, hp, h1, h2, h3, h4⟩ := Td.t4 (show Td K H v (.tuple [.str "test", .str sg, a.d, b.d]) from hv)
  cases h1.str_inv
  cases h2.str_inv
  walk_at "q"
  refine ⟨le_of (by simp), two_in _ _ _ _ _ fun H1 e1 => ?_⟩
  have hp1 := e1.tup hp
  walk_at "q"
  refine ⟨_, a, 2, rfl, h3.fr e1, ha, by decide, by have := sum_deep ha; omega, fun p2 H2 e2 _ h2l => ?_⟩
  have hp2 := e2.tup hp1
  walk_at "q"
  refine ⟨_, b, 2, rfl, (h4.fr e1).fr e2, hb, by decide, by have := sum_deep hb; omega, fun p3 H3 e3 _ h3l => ?_⟩
  have l1 := sumV_len ha
  have l2 := sumV_len hb
  refine g_addL (e3.at h2l (fun z => nomatch z)) h3l (le_of (by rw [List.length_map, List.length_map]; omega)) fun p4 hp4 => ?_
  have ee := (e1.trans e2).trans e3
  refine q _ _ (ee.trans (Fr.new hp4)) (ee.back (fun z => nomatch z) hp4) ?_
  rw [upd_same, ← List.map_append]
  rfl
def headP : PartE → Str
 | .atom no _ _ => if no then "not" else "atom"
 | .lt _ _ => "let"
 | .test _ _ _ => "test"
theorem part_head {K : PySem.W.Frag} {H : Hp} {p : PartE} {v : V} (h : Td K H v p.d) : ∃ a xs hd, v = .ref a ∧ SqT K H a (.str hd :: xs) ∧ hd = headP p := by
 cases p with
 | atom no x ts =>
  obtain ⟨a, y1, y2, y3, rfl, ha, h1, h2, h3⟩ := Td.t3 (show Td K H v (.tuple [.str (if no then "not" else "atom"), .str x, .tuple (ts.map TermE.d)]) from h)
  cases h1.str_inv
  exact ⟨a, _, _, rfl, ha, rfl⟩
 | lt x e =>
  obtain ⟨a, y1, y2, y3, rfl, ha, h1, h2, h3⟩ := Td.t3 (show Td K H v (.tuple [.str "let", .str x, e.d]) from h)
  cases h1.str_inv
  exact ⟨a, _, _, rfl, ha, rfl⟩
 | test sg a b =>
  obtain ⟨p, y1, y2, y3, y4, rfl, hp, h1, h2, h3, h4⟩ := Td.t4 (show Td K H v (.tuple [.str "test", .str sg, a.d, b.d]) from h)
  cases h1.str_inv
  exact ⟨p, _, _, rfl, hp, rfl⟩
theorem ok_wanted {f : Addr} {fd : FuncData} (F : FnP K "wanted" s_wanted f fd) (C_part_variables : CalG P w K mg base 6 "part_variables" (spNames1 K PartE.d PartA partV)) : FnG P w K mg base CX0 7 f fd ["part"] (spNames1 K PartE.d PartA wantV) := by
 refine okG F sc_wanted (fun vs H Q E h => ?_) (fun cdv A outer s H vs Q E hr h => ?_)
 ·obtain ⟨v, a, rfl, _⟩ := h
  rfl
 obtain ⟨v, p, rfl, hv, hp, q⟩ := h
 refine ⟨_, PSs.nox (pss_one (ps_ret (pe_ifExp (pt_cmpR (kOp (K := K) (r := uEq) rfl (opu_eq hr.units)) (pe_ix (kIx (K := K) (r := rIx) rfl ix_seq) (pv 0) pe_int (fun _ _ => rfl)) pe_str (nomark _)) (pe_slice (kSl (K := K) (r := rSlL) rfl sl_list) (pe_calG C_part_variables hr rfl (pa_cons (pv 0) pa_nil)) (po_some pe_int) po_none) (pe_calG C_part_variables hr rfl (pa_cons (pv 0) pa_nil))))), rd_start (σ0 := [some v]) rfl ?_⟩
 obtain ⟨a, xs, hd, rfl, ha, hh⟩ := part_head hv
 walk_at "q"
 refine g_ixT ha (atI_nat (j := 0) rfl) ?_
 walk_at "q"
 have hlet : (∃ x e, p = .lt x e ∧ hd = "let") ∨ (hd ≠ "let" ∧ wantV p = partV p) := by
  cases p with
  | lt x e => exact .inl ⟨x, e, rfl, hh⟩
  | atom no x ts => exact .inr ⟨by rw [hh]; cases no; exact (show ¬ (("atom" : Str) = "let") by decide +kernel); exact (show ¬ (("not" : Str) = "let") by decide +kernel), rfl⟩
  | test s a b => exact .inr ⟨by rw [hh]; exact (show ¬ (("test" : Str) = "let") by decide +kernel), rfl⟩
 rcases hlet with ⟨x, e, rfl, rfl⟩ | ⟨hn, hw⟩
 ·refine g_tt (by decide +kernel) ?_
  walk_at "q"
  refine ⟨_, _, rfl, hv, hp, fun p1 H1 e1 _ h1 => ?_⟩
  walk_at "q"
  refine g_slL (SqL.of h1) fun p2 hp2 => ?_
  refine q _ _ (e1.trans (Fr.new hp2)) (e1.back (fun z => nomatch z) hp2) ?_
  rw [upd_same]
  rw [show cutV ((partV (.lt x e)).map V.str) (some 1) none = ((partV (.lt x e)).map V.str).drop 1 from cutA _ 1]
  rfl
 ·refine g_ff (decide_eq_false hn) ?_
  walk_at "q"
  refine ⟨_, _, rfl, hv, hp, fun p1 H1 e1 hn1 h1 => ?_⟩
  exact q _ _ e1 hn1 (by rw [hw]; exact h1)
theorem ok_given_by {f : Addr} {fd : FuncData} (F : FnP K "given_by" s_given_by f fd) (C_part_variables : CalG P w K mg base 6 "part_variables" (spNames1 K PartE.d PartA partV)) : FnG P w K mg base CX0 7 f fd ["part"] (spNames1 K PartE.d PartA giveV) := by
 refine okG F sc_given_by (fun vs H Q E h => ?_) (fun cdv A outer s H vs Q E hr h => ?_)
 ·obtain ⟨v, a, rfl, _⟩ := h
  rfl
 obtain ⟨v, p, rfl, hv, hp, q⟩ := h
 refine ⟨_, PSs.nox (pss_cons (ps_if (pt_cmpR (kOp (K := K) (r := uEq) rfl (opu_eq hr.units)) (pe_ix (kIx (K := K) (r := rIx) rfl ix_seq) (pv 0) pe_int (fun _ _ => rfl)) pe_str (nomark _)) (pss_one (ps_ret (pe_calG C_part_variables hr rfl (pa_cons (pv 0) pa_nil)))) pss_nil)
 (pss_one (ps_ret (pe_ifExp (pt_cmpR (kOp (K := K) (r := uEq) rfl (opu_eq hr.units)) (pe_ix (kIx (K := K) (r := rIx) rfl ix_seq) (pv 0) pe_int (fun _ _ => rfl)) pe_str (nomark _)) (pe_lst (pa_cons (pe_ix (kIx (K := K) (r := rIx) rfl ix_seq) (pv 0) pe_int (fun _ _ => rfl)) pa_nil)) (pe_lst pa_nil))))), rd_start (σ0 := [some v]) rfl ?_⟩
 cases p with
 | atom no x ts =>
  obtain ⟨a, y1, y2, y3, rfl, ha, h1, h2, h3⟩ := Td.t3 (show Td K H v (.tuple [.str (if no then "not" else "atom"), .str x, .tuple (ts.map TermE.d)]) from hv)
  cases h1.str_inv
  cases no with
  | false =>
   walk_at "q"
   exact ⟨_, _, rfl, hv, hp, q⟩
  | true =>
   walk_at "q"
   refine ⟨le_of (by simp), fun p2 hp2 => ?_⟩
   exact q _ _ (Fr.new hp2) hp2 upd_same
 | lt x e =>
  obtain ⟨a, y1, y2, y3, rfl, ha, h1, h2, h3⟩ := Td.t3 (show Td K H v (.tuple [.str "let", .str x, e.d]) from hv)
  cases h1.str_inv
  cases h2.str_inv
  walk_at "q"
  refine ⟨le_of (by simp), fun p2 hp2 => ?_⟩
  exact q _ _ (Fr.new hp2) hp2 upd_same
 | test sg a b =>
  obtain ⟨p, y1, y2, y3, y4, rfl, hp, h1, h2, h3, h4⟩ := Td.t4 (show Td K H v (.tuple [.str "test", .str sg, a.d, b.d]) from hv)
  cases h1.str_inv
  walk_at "q"
  refine ⟨le_of (by simp), fun p2 hp2 => ?_⟩
  exact q _ _ (Fr.new hp2) hp2 upd_same
end
def partsA (ps : List PartE) : Prop := ps.length ≤ 10 ∧ ∀ p ∈ ps, PartA p
def partsDd (ps : List PartE) : PyData := .tuple (ps.map PartE.d)
section
variable {P : Program} {w : World} {K : PySem.W.Frag} {mg : Str → Option Value} {base : Heap}
theorem onceA_len (ws : List Str) : ∀ acc : List Str, (onceA acc ws).length ≤ acc.length + ws.length := by
 induction ws with
 | nil => exact fun acc => Nat.le_refl _
 | cons x r ih =>
  intro acc
  have h := ih (addL acc x)
  have h2 := addL_len acc x
  show (onceA (addL acc x) r).length ≤ acc.length + (r.length + 1)
  omega
theorem onceA_snoc (ws : List Str) (x : Str) (acc : List Str) : onceA acc (ws ++ [x]) = addL (onceA acc ws) x := by
 unfold onceA
 rw [List.foldl_append]
 rfl
end
def readyB (ps : List PartE) (xs : List Str) (k : Nat) : Bool := match ps[k]? with
 | some p => !decide (headP p = "atom") && (wantV p).all fun x => decide (x ∈ xs)
 | none => false
def atomB (ps : List PartE) (k : Nat) : Bool := match ps[k]? with
 | some p => decide (headP p = "atom")
 | none => false
def nextP (ps : List PartE) (ns : List Nat) (xs : List Str) : Option Nat := match ns.find? (readyB ps xs) with
 | some k => some k
 | none => (ns.filter (atomB ps)).head?
def nextV : Option Nat → V
 | some k => .int (k : Int)
 | none => .non
def natsV (ns : List Nat) : List V := ns.map fun k : Nat => V.int (k : Int)
def spNext (K : PySem.W.Frag) : Sp := fun vs H Q _ => ∃ (v : V) (l bd : Addr) (ps : List PartE) (ns : List Nat) (xs : List Str), vs = [v, .ref l, .ref bd] ∧ Td K H v (partsDd ps) ∧ partsA ps ∧ SqL K H l (natsV ns) ∧ ns.length ≤ 10 ∧ (∀ k ∈ ns, k < ps.length) ∧ H bd = some (.dK (kvT xs)) ∧
 ∀ H', Fr [] H H' → Q (nextV (nextP ps ns xs)) H'
abbrev s_next_place : Stmt := topS 9
theorem sc_next_place : FnScope ["parts", "left", "bound", "place", "atoms", "name"] ["parts", "left", "bound"] (defScope s_next_place) := ⟨rfl, rfl, rfl, by decide +kernel, rfl, by decide +kernel, by decide +kernel⟩
section
variable {P : Program} {w : World} {K : PySem.W.Frag} {mg : Str → Option Value} {base : Heap}
structure BiN (mg : Str → Option Value) : Prop where
 b_all : mg "all" = none
 b_list : mg "list" = none
 b_range : mg "range" = none
 b_len : mg "len" = none
theorem atI_natsV {ns : List Nat} {i : Nat} {x : V} (h : (natsV ns)[i]? = some x) : ∃ k, ns[i]? = some k ∧ x = .int (k : Int) := by
 unfold natsV at h
 rw [List.getElem?_map] at h
 cases e : ns[i]? with
 | none => rw [e] at h; cases h
 | some k => rw [e] at h; cases h; exact ⟨k, rfl, rfl⟩
theorem ok_next_place {f : Addr} {fd : FuncData} (F : FnP K "next_place" s_next_place f fd) (B : BiN mg) (C_wanted : CalG P w K mg base 7 "wanted" (spNames1 K PartE.d PartA wantV)) : FnG P w K mg base CX0 8 f fd ["parts", "left", "bound"] (spNext K) := by
 refine okG F sc_next_place (fun vs H Q E h => ?_) (fun cdv A outer s H vs Q E hr h => ?_)
 ·obtain ⟨v, l, bd, ps, ns, xs, rfl, _⟩ := h
  rfl
 obtain ⟨v, l, bd, ps, ns, xs, rfl, hv, hp, hl, hnl, hnp, hbd, q⟩ := h
 have hu := hu_of hr.rm
 obtain ⟨r, us, rfl, hr3, ht⟩ := Td.tuple_inv (show Td K H v (.tuple (ps.map PartE.d)) from hv)
 obtain ⟨k1, k2⟩ := tda_get ht
 have part : ∀ (H' : Hp) (k : Nat), Fr [] H H' → k < ps.length → ∃ p y, ps[k]? = some p ∧ atI us (k : Int) = some y ∧ Td K H' y p.d ∧ PartA p := fun H' k e hk => by
  have hku : k < us.length := by omega
  obtain ⟨p, hpp, htd⟩ := k2 k us[k] (List.getElem?_eq_getElem hku)
  exact ⟨p, us[k], hpp, atI_nat (List.getElem?_eq_getElem hku), htd.fr e, hp.2 p (List.mem_of_getElem? hpp)⟩
 refine ⟨_, PSs.nox (pss_cons (ps_for PassesOwn.never rfl (pi_listK (K := K) rfl (pv 1)) (pg_name (i := 3) sc_next_place.nd rfl (by first | exact Or.inl rfl | exact Or.inr rfl)) (pss_one (ps_if (PW.pt (pw_and (pt_cmpR (kOp (K := K) (r := uNe) rfl (opu_ne hr.units)) (pe_ix (kIx (K := K) (r := rIx) rfl ix_seq) (pe_ix (kIx (K := K) (r := rIx) rfl ix_seq) (pv 0) (pv 3) (fun _ _ => rfl)) pe_int (fun _ _ => rfl)) pe_str (nomark _)) (pw_and1 (pt_val (pe_callB (kCall (K := K) (r := rAll) rfl (cr_all rfl)) (by rfl) B.b_all (by decide +kernel) (pa_cons (pe_lc (own := [("name", 5)]) (g := gName 5) (tt := tYes) rfl sc_next_place.nd (pi_listK (K := K) rfl (pe_calG C_wanted hr rfl (pa_cons (pe_ix (kIx (K := K) (r := rIx) rfl ix_seq) (pv 0) (pv 3) (fun _ _ => rfl)) pa_nil))) (blkOk_by (own := [("name", 5)]) (N := ["parts", "left", "bound", "place", "atoms", "name"]) (sc := defScope s_next_place) (by decide +kernel)) (fun _ _ _ _ _ => (by exact (pg_name (i := 5) sc_next_place.nd rfl (by first | exact Or.inl rfl | exact Or.inr rfl)))) (fun _ _ _ _ _ => pts_nil) (fun _ _ _ _ _ => (by exact (pe_cmp (pc_din hu (pv 5) (pv 2)))))) pa_nil)))))) (pss_one (ps_ret (pv 3))) pss_nil)))
 (pss_cons (ps_setLc (i := 4) (own := [("place", 3)]) (g := gName 3) rfl sc_next_place.nd rfl rfl (sw_true rfl rfl rfl (by decide +kernel)) (pi_listK (K := K) rfl (pv 1)) (blkOk_by (own := [("place", 3)]) (N := ["parts", "left", "bound", "place", "atoms", "name"]) (sc := defScope s_next_place) (by decide +kernel)) (fun _ _ _ _ _ => (by exact (pg_name (i := 3) sc_next_place.nd rfl (by first | exact Or.inl rfl | exact Or.inr rfl)))) (fun _ _ _ _ _ => (by exact pts_one (pt_cmpR (kOp (K := K) (r := uEq) rfl (opu_eq hr.units)) (pe_ix (kIx (K := K) (r := rIx) rfl ix_seq) (pe_ix (kIx (K := K) (r := rIx) rfl ix_seq) (pv 0) (pv 3) (fun _ _ => rfl)) pe_int (fun _ _ => rfl)) pe_str (nomark _)))) (fun _ _ _ _ _ => (by exact (pv 3))))
 (pss_one (ps_ret (pe_ifExp (pt_cmpR (kOp (K := K) (r := uNe) rfl (opu_ne hr.units)) (pv 4) (pe_lst pa_nil) (nomark _)) (pe_ix (kIx (K := K) (r := rIx) rfl ix_seq) (pv 4) pe_int (fun _ _ => rfl)) pe_non))))), rd_start (σ0 := [some (.ref r), some (.ref l), some (.ref bd), none, none, none]) rfl ?_⟩
 walk_at "q"
 refine ⟨l, rfl, ⟨_, hl⟩, for_list (xs := natsV ns) (fun i σ H' => (∃ z1 z2 z3, σ = [some (.ref r), some (.ref l), some (.ref bd), z1, z2, z3]) ∧ Fr [] H H' ∧ (ns.take i).find? (readyB ps xs) = none) ⟨⟨_, _, _, rfl⟩, .refl, rfl⟩ (fun i σ H' _ h => h.2.1.seq (fun z => nomatch z) hl) (fun i x σ H1 hx h => ?_) (fun σ H1 h => ?_)⟩
 ·obtain ⟨⟨z1, z2, z3, rfl⟩, e1, hnone⟩ := h
  obtain ⟨k, hk, rfl⟩ := atI_natsV hx
  obtain ⟨p, y, hpp, hy, htd, hpA⟩ := part H1 k e1 (hnp k (List.mem_of_getElem? hk))
  obtain ⟨a, ys, hd, rfl, ha, hh⟩ := part_head htd
  have hrdy : readyB ps xs k = (!decide (hd = "atom") && (wantV p).all fun x => decide (x ∈ xs)) := by unfold readyB; rw [hpp, hh]
  have next1 : ∀ b, readyB ps xs k = b → b = false → (ns.take (i + 1)).find? (readyB ps xs) = none := fun b hb e => by
   rw [List.take_succ, hk, List.find?_append, hnone]
   show ([k] : List Nat).find? _ = none
   rw [List.find?_cons_of_neg (by rw [hb, e]; exact Bool.false_ne_true)]
   rfl
  walk_at "q"
  refine g_ixT (e1.tup hr3) hy ?_
  walk_at "q"
  refine g_ixT ha (atI_nat (j := 0) rfl) ?_
  have hr1 := e1.tup hr3
  walk_at "q"
  refine g_byN (fun c => ?_) (fun c => ?_)
  ·walk_at "q"
   refine g_ixT hr1 hy ?_
   walk_at "q"
   refine ⟨_, p, rfl, htd, hpA, fun l1 H2 e2 hn2 h2 => ?_⟩
   have hbd2 := (e1.trans e2).at hbd (fun z => nomatch z)
   have hwl : (wantV p).length ≤ 8 := by
    have h8 := partV_len hpA
    cases p with
    | lt x e => exact Nat.le_trans (Nat.le_succ _) h8
    | atom => exact h8
    | test => exact h8
   refine ⟨l1, rfl, ⟨_, SqL.of h2⟩, fun D hD => lc_map (walk_list (xs := (wantV p).map V.str)) (ys := (wantV p).map fun x => V.bl (decide (x ∈ xs))) (fun H' e => SqL.of (e.at h2 (fun z => nomatch z))) rfl (by rw [List.length_map, List.length_map]) (by rw [List.length_map]; omega) hD (fun i x y H' A hx hy e k => ?_) (fun H3 e3 h3 => ?_)⟩
   ·rw [List.getElem?_map] at hx hy
    cases hw : (wantV p)[i]? with
    | none => rw [hw] at hx; cases hx
    | some z =>
     rw [hw] at hx hy
     cases hx
     cases hy
     walk_at "q"
     refine ⟨rfl, ?_⟩
     walk_at "q"
     refine g_dinS (z := z) (A := fun b => A (.bl b) H') (e.at hbd2 (fun z => nomatch z)) ?_
     rw [kvT_val]
     exact k _ Fr.refl
   ·walk_at "q"
    refine ⟨D, (wantV p).map fun x => decide (x ∈ xs), rfl, SqL.of (by rw [h3, List.map_map]; rfl), ?_⟩
    have e13 := (e1.trans e2).trans e3
    have hall : ((wantV p).map fun x => decide (x ∈ xs)).all id = readyB ps xs k := by
     rw [hrdy, decide_eq_false c, List.all_map]
     rfl
    rw [hall]
    walk_at "q"
    refine g_byB (fun c2 => ?_) (fun c2 => ?_)
    ·walk_at "q"
     have hf : nextP ps ns xs = some k := by
      unfold nextP
      have : ns.find? (readyB ps xs) = some k := by
       rw [← List.take_append_drop i ns, List.find?_append, hnone]
       have hd : ns.drop i = k :: ns.drop (i + 1) := by
        have hi : i < ns.length := (List.getElem?_eq_some_iff.mp hk).1
        rw [List.drop_eq_getElem_cons hi]
        rw [(List.getElem?_eq_some_iff.mp hk).2]
       show (ns.drop i).find? _ = _
       rw [hd, List.find?_cons_of_pos (by exact c2)]
      rw [this]
     have z := q _ e13
     rw [hf] at z
     exact z
    ·walk_at "q"
     exact ⟨⟨_, _, _, rfl⟩, e13, next1 _ rfl c2⟩
  ·walk_at "q"
   exact ⟨⟨_, _, _, rfl⟩, e1, next1 _ rfl (by rw [hrdy, decide_eq_true c]; rfl)⟩
 ·obtain ⟨⟨z1, z2, z3, rfl⟩, e1, hnone⟩ := h
  have hl1 := e1.seq (fun z => nomatch z) hl
  have hr1 := e1.tup hr3
  have hnn : ns.find? (readyB ps xs) = none := by
   unfold natsV at hnone
   rw [List.length_map, List.take_length] at hnone
   exact hnone
  have hf : nextP ps ns xs = (ns.filter (atomB ps)).head? := by unfold nextP; rw [hnn]
  walk_at "q"
  refine ⟨l, rfl, ⟨_, hl1⟩, fun D hD => lc_it (walk_list (xs := natsV ns)) (fun i H' => Fr [] H1 H' ∧ H' D = some (.lst (natsV ((ns.take i).filter (atomB ps))))) ⟨Fr.new hD, upd_same⟩ (fun i H' _ h => h.1.seq (fun z => nomatch z) hl1) (fun i x H' H'' hi h y => ?_) (fun H2 h => ?_)⟩
  ·obtain ⟨rfl, hx⟩ := y
   obtain ⟨e2, h2⟩ := h
   obtain ⟨k, hk, rfl⟩ := atI_natsV hx
   obtain ⟨p, y, hpp, hy, htd, hpA⟩ := part H'' k (e1.trans e2) (hnp k (List.mem_of_getElem? hk))
   obtain ⟨a, ys, hd, rfl, ha, hh⟩ := part_head htd
   have hat : atomB ps k = decide (hd = "atom") := by unfold atomB; rw [hpp, hh]
   have len : ((ns.take i).filter (atomB ps)).length ≤ 10 := Nat.le_trans (List.length_filter_le _ _) (by rw [List.length_take]; omega)
   walk_at "q"
   refine ⟨rfl, ?_⟩
   walk_at "q"
   refine g_ixT (e2.tup hr1) hy ?_
   walk_at "q"
   refine g_ixT ha (atI_nat (j := 0) rfl) ?_
   walk_at "q"
   refine g_by (fun c => ?_) (fun c => ?_)
   ·walk_at "q"
    refine ⟨_, h2, lt_of (by unfold natsV; rw [List.length_map]; omega), e2.over hD, ?_⟩
    rw [upd_same, List.take_succ, hk, List.filter_append]
    show _ = some (HO.lst (natsV (_ ++ ([k] : List Nat).filter (atomB ps))))
    rw [List.filter_cons_of_pos (by rw [hat]; exact decide_eq_true c)]
    unfold natsV
    rw [List.map_append]
    rfl
   ·refine ⟨e2, ?_⟩
    rw [h2, List.take_succ, hk, List.filter_append]
    show _ = some (HO.lst (natsV (_ ++ ([k] : List Nat).filter (atomB ps))))
    rw [List.filter_cons_of_neg (by rw [hat, decide_eq_false c]; exact Bool.false_ne_true)]
    simp
  ·obtain ⟨e2, h2⟩ := h
   rw [show (natsV ns).length = ns.length from List.length_map .., List.take_length] at h2
   walk_at "q"
   refine ⟨le_of (by decide), fun p4 hp4 => ?_⟩
   have e4 : Fr [] H2 (upd H2 p4 (.lst [])) := Fr.new hp4
   have hn4 : (upd H2 p4 (.lst [])) p4 = some (.lst []) := upd_same
   have h4 := e4.at h2 (fun z => nomatch z)
   have e14 := (e1.trans e2).trans e4
   generalize upd H2 p4 (.lst []) = H4 at *
   refine g_neEL (SqL.of h4) (SqL.of hn4) ?_
   have z := q _ e14
   rw [hf] at z
   cases hfl : ns.filter (atomB ps) with
   | nil =>
    rw [hfl] at z
    walk_at "q"
    exact z
   | cons k r =>
    rw [hfl] at z h4
    walk_at "q"
    refine g_tt (by rfl) ?_
    walk_at "q"
    refine g_ixL (SqL.of h4) (atI_nat (j := 0) rfl) ?_
    exact z
end
def addAll (xs ys : List Str) : List Str := ys.foldl addL xs
theorem addAll_mem {ys : List Str} : ∀ {xs : List Str} {x : Str}, x ∈ addAll xs ys ↔ x ∈ xs ∨ x ∈ ys := by
 induction ys with
 | nil => intro xs x; simp [addAll]
 | cons y r ih =>
  intro xs x
  show x ∈ addAll (addL xs y) r ↔ _
  rw [ih, addL_mem, List.mem_cons]
  exact or_assoc
theorem addAll_len (ys : List Str) (xs : List Str) : (addAll xs ys).length ≤ xs.length + ys.length := onceA_len ys xs
def orderP (ps : List PartE) : Nat → List Nat → List Str → List Nat
 | 0, _, _ => []
 | f + 1, ns, xs => match nextP ps ns xs with
  | none => []
  | some k => k :: orderP ps f (ns.erase k) (addAll xs (match ps[k]? with
   | some p => giveV p
   | none => []))
theorem nextP_mem {ps : List PartE} {ns : List Nat} {xs : List Str} {k : Nat} (h : nextP ps ns xs = some k) : k ∈ ns := by
 unfold nextP at h
 split at h
 ·rename_i j e
  cases h
  exact List.mem_of_find?_eq_some e
 ·have := List.mem_of_mem_head? h
  exact (List.mem_filter.mp this).1
def giveK (ps : List PartE) (k : Nat) : List Str := match ps[k]? with
 | some p => giveV p
 | none => []
theorem order_none {ps : List PartE} {f : Nat} {ns : List Nat} {xs : List Str} (h : nextP ps ns xs = none) : orderP ps f ns xs = [] := by
 cases f with
 | zero => rfl
 | succ f => unfold orderP; rw [h]
theorem order_some {ps : List PartE} {f : Nat} {ns : List Nat} {xs : List Str} {k : Nat} (h : nextP ps ns xs = some k) (hf : ns.length ≤ f) : orderP ps f ns xs = k :: orderP ps (f - 1) (ns.erase k) (addAll xs (giveK ps k)) := by
  cases f with
  | zero =>
    have := nextP_mem h
    have hn : ns = [] := List.length_eq_zero_iff.mp (by omega)
    rw [hn] at this
    cases this
  | succ f => rw [show f + 1 - 1 = f from rfl]; conv => lhs; unfold orderP; rw [h]
              rfl
def spOrder (K : PySem.W.Frag) : Sp := fun vs H Q _ => ∃ (v : V) (ps : List PartE), vs = [v] ∧ Td K H v (partsDd ps) ∧ partsA ps ∧ ∀ r H', Fr [] H H' → H r = none → H' r = some (.lst (natsV (orderP ps ps.length (List.range ps.length) []))) → Q (.ref r) H'
abbrev s_ordered : Stmt := topS 10
theorem sc_ordered : FnScope ["parts", "left", "found", "bound", "place", "name"] ["parts"] (defScope s_ordered) := ⟨rfl, rfl, rfl, by decide +kernel, rfl, by decide +kernel, by decide +kernel⟩
section
variable {P : Program} {w : World} {K : PySem.W.Frag} {mg : Str → Option Value} {base : Heap}
theorem natsV_erase (ns : List Nat) (k : Nat) (h : k ∈ ns) : ∃ j, ns[j]? = some k ∧ (∀ m : Nat, m < j → ns[m]? ≠ some k) ∧ ns.eraseIdx j = ns.erase k := by
 induction ns with
 | nil => cases h
 | cons a r ih =>
  by_cases e : a = k
  ·subst e
   exact ⟨0, rfl, fun m hm => absurd hm (Nat.not_lt_zero m), by simp⟩
  ·obtain ⟨j, h1, h2, h3⟩ := ih ((List.mem_cons.mp h).resolve_left (Ne.symm e))
   refine ⟨j + 1, by simpa using h1, fun m hm => ?_, ?_⟩
   ·cases m with
    | zero => intro h0; simp at h0; exact e h0
    | succ m => simpa using h2 m (by omega)
   ·rw [List.eraseIdx_cons_succ, h3, List.erase_cons_tail (by simpa using e)]
theorem eraseIdx_map' {α β : Type} (f : α → β) : ∀ (xs : List α) (j : Nat), (xs.map f).eraseIdx j = (xs.eraseIdx j).map f
 | [], _ => rfl
 | _ :: _, 0 => rfl
 | x :: r, j + 1 => by rw [List.map_cons, List.eraseIdx_cons_succ, List.eraseIdx_cons_succ, eraseIdx_map' f r j]; rfl
theorem g_remN {H : Hp} {Q : VK} {l : Addr} {ns : List Nat} {k : Nat} (h : H l = some (.lst (natsV ns))) (hk : k ∈ ns) (q : Q .non (upd H l (.lst (natsV (ns.erase k))))) : rRemI (.ref l) [.int (k : Int)] H Q := by
 obtain ⟨j, h1, h2, h3⟩ := natsV_erase ns k hk
 refine ⟨l, ns.map fun k : Nat => (k : Int), (k : Int), j, rfl, rfl, by rw [h, List.map_map]; rfl, by rw [List.getElem?_map, h1]; rfl, fun m hm e => ?_, ?_⟩
 ·rw [List.getElem?_map] at e
  cases hm2 : ns[m]? with
  | none => rw [hm2] at e; cases e
  | some a =>
   rw [hm2] at e
   have : (a : Int) = (k : Int) := Option.some.inj e
   exact h2 m hm (by rw [hm2]; congr 1; omega)
 ·rw [eraseIdx_map', h3, List.map_map]
  exact q
theorem ok_ordered {f : Addr} {fd : FuncData} (F : FnP K "ordered" s_ordered f fd) (B : BiN mg) (C_next_place : CalG P w K mg base 8 "next_place" (spNext K)) (C_given_by : CalG P w K mg base 7 "given_by" (spNames1 K PartE.d PartA giveV)) : FnG P w K mg base CX0 9 f fd ["parts"] (spOrder K) := by
 refine okG F sc_ordered (fun vs H Q E h => ?_) (fun cdv A outer s H vs Q E hr h => ?_)
 ·obtain ⟨v, ps, rfl, _⟩ := h
  rfl
 obtain ⟨v, ps, rfl, hv, hp, q⟩ := h
 have hu := hu_of hr.rm
 obtain ⟨r, us, rfl, hr3, ht⟩ := Td.tuple_inv (show Td K H v (.tuple (ps.map PartE.d)) from hv)
 obtain ⟨k1, k2⟩ := tda_get ht
 refine ⟨_, PSs.nox (pss_cons (ps_set (i := 1) sc_ordered.nd rfl (.inl rfl) (pe_listRg rfl (by rfl) B.b_list (prg_1 (by rfl) B.b_range (pe_callB (kCall (K := K) (r := uLen) rfl callu_len) (by rfl) B.b_len (by decide +kernel) (pa_cons (pv 0) pa_nil)))))
 (pss_cons (ps_set (i := 2) sc_ordered.nd rfl (.inl rfl) (pe_lst pa_nil))
 (pss_cons (ps_set (i := 3) sc_ordered.nd rfl (.inl rfl) pe_dnewK)
 (pss_cons (ps_set (i := 4) sc_ordered.nd rfl (.inl rfl) (pe_calG C_next_place hr rfl (pa_cons (pv 0) (pa_cons (pv 1) (pa_cons (pv 3) pa_nil)))))
 (pss_cons (ps_while PassesOwn.never (pt_cmpR opu_isNot (pv 4) pe_non (nomark _)) (pss_cons (ps_expr (kBM (K := K) rfl (pe_bm PySem.F.plainAttrs_list PySem.F.slot_list_append PySem.F.type_list_append mt_append (pv 2) (pa_cons (pv 4) pa_nil))))
 (pss_cons (ps_expr (kBM (K := K) rfl (pe_bm PySem.F.plainAttrs_list PySem.F.slot_list_remove PySem.F.type_list_remove mt_remove (pv 1) (pa_cons (pv 4) pa_nil))))
 (pss_cons (ps_for PassesOwn.never rfl (pi_listK (K := K) rfl (pe_calG C_given_by hr rfl (pa_cons (pe_ix (kIx (K := K) (r := rIx) rfl ix_seq) (pv 0) (pv 4) (fun _ _ => rfl)) pa_nil))) (pg_name (i := 5) sc_ordered.nd rfl (by first | exact Or.inl rfl | exact Or.inr rfl)) (pss_one (ps_dput hu (pv 3) (pv 5) pe_bl rfl)))
 (pss_one (ps_set (i := 4) sc_ordered.nd rfl (.inl rfl) (pe_calG C_next_place hr rfl (pa_cons (pv 0) (pa_cons (pv 1) (pa_cons (pv 3) pa_nil))))))))))
 (pss_one (ps_ret (pv 2)))))))), rd_start (σ0 := [some (.ref r), none, none, none, none, none]) rfl ?_⟩
 walk_at "q"
 have hpl := hp.1
 refine ⟨.of_le (by decide) (by omega) (by decide) (by omega), fun L hL => ?_⟩
 rw [k1, rgV_nat]
 have e1 : Fr [] H (upd H L (.lst (natsV (List.range ps.length)))) := Fr.new hL
 have hL1 : (upd H L (.lst (natsV (List.range ps.length)))) L = some (.lst (natsV (List.range ps.length))) := upd_same
 show gName 1 (V.ref L) _ (upd H L (.lst (natsV (List.range ps.length)))) _
 generalize upd H L (.lst (natsV (List.range ps.length))) = H1 at *
 walk_at "q"
 refine ⟨le_of (by simp), fun T hT => ?_⟩
 have e2 : Fr [] H1 (upd H1 T (.lst [])) := Fr.new hT
 have hT2 : (upd H1 T (.lst [])) T = some (.lst (natsV [])) := upd_same
 have hL2 := e2.at hL1 (fun z => nomatch z)
 have hTH := e1.back (fun z => nomatch z) hT
 have hLT : L ≠ T := fun e => by rw [← e, hL1] at hT; cases hT
 generalize upd H1 T (.lst []) = H2 at *
 walk_at "q"
 refine g_dnewK fun d hd => ?_
 have e3 : Fr [] H2 (upd H2 d (.dK [])) := Fr.new hd
 have hd3 : (upd H2 d (.dK [])) d = some (.dK (kvT [])) := upd_same
 have hL3 := e3.at hL2 (fun z => nomatch z)
 have hT3 := e3.at hT2 (fun z => nomatch z)
 have hdH := (e1.trans e2).back (fun z => nomatch z) hd
 have hLd : L ≠ d := fun e => by rw [← e, hL2] at hd; cases hd
 have hTd : T ≠ d := fun e => by rw [← e, hT2] at hd; cases hd
 have E3 := (e1.trans e2).trans e3
 generalize upd H2 d (.dK []) = H3 at *
 walk_at "q"
 refine ⟨_, L, d, ps, List.range ps.length, [], rfl, hv.fr E3, hp, SqL.of hL3, by rw [List.length_range]; omega, fun k hk => List.mem_range.mp hk, hd3, fun H4 e4 => ?_⟩
 have hL4 := e4.at hL3 (fun z => nomatch z)
 have hT4 := e4.at hT3 (fun z => nomatch z)
 have hd4 := e4.at hd3 (fun z => nomatch z)
 have E4 := E3.trans e4
 walk_at "q"
 refine g_while (fun σ H' => ∃ z5 ns xs fs, σ = [some (.ref r), some (.ref L), some (.ref T), some (.ref d), some (nextV (nextP ps ns xs)), z5] ∧ H' L = some (.lst (natsV ns)) ∧ H' T = some (.lst (natsV fs)) ∧ H' d = some (.dK (kvT xs)) ∧ Fr [] H H' ∧ ns.length ≤ 10 ∧ (∀ k ∈ ns, k < ps.length) ∧
   fs ++ orderP ps ns.length ns xs = orderP ps ps.length (List.range ps.length) [] ∧ xs.length + ns.length * 8 ≤ 80 ∧ fs.length + ns.length ≤ 10) (fun σ H' => match H' L with | some (.lst xs) => xs.length | _ => 0)
  ⟨_, List.range ps.length, [], [], rfl, hL4, hT4, hd4, E4, by rw [List.length_range]; omega, fun k hk => List.mem_range.mp hk, by rw [List.length_range]; rfl, by rw [List.length_range, List.length_nil]; omega, by rw [List.length_range, List.length_nil]; omega⟩
  (fun σ H5 h N k => ?_) (fun σ H5 _ A B hAB h => ?_)
 ·obtain ⟨z5, ns, xs, fs, rfl, hL5, hT5, hd5, E5, hn5, hnp5, hord, hx5, hf5⟩ := h
  walk_at "q"
  cases hnx : nextP ps ns xs with
  | none =>
   refine g_ff (by rfl) ?_
   walk_at "q"
   refine q T H5 E5 hTH ?_
   rw [hT5, ← hord, order_none hnx, List.append_nil]
  | some k0 =>
   have hmem := nextP_mem hnx
   have hk0 := hnp5 k0 hmem
   rw [show nextV (some k0) = V.int (k0 : Int) from rfl]
   refine g_tt (by rfl) ?_
   walk_at "q"
   refine g_app hT5 (by unfold natsV; rw [List.length_map]; omega) ?_
   have eT : Fr [T] H5 (upd H5 T (.lst (natsV fs ++ [V.int (k0 : Int)]))) := Fr.mut (List.mem_singleton.mpr rfl) hT5 nofix_lst
   have hT6 : (upd H5 T (.lst (natsV fs ++ [V.int (k0 : Int)]))) T = some (.lst (natsV (fs ++ [k0]))) := by rw [upd_same]; unfold natsV; rw [List.map_append]; rfl
   have hL6 := eT.at hL5 (fun z => hLT (List.mem_singleton.mp z))
   have hd6 := eT.at hd5 (fun z => hTd (List.mem_singleton.mp z).symm)
   have E6 : Fr [] H (upd H5 T (.lst (natsV fs ++ [V.int (k0 : Int)]))) := E5.over hTH
   generalize upd H5 T (.lst (natsV fs ++ [V.int (k0 : Int)])) = H6 at *
   walk_at "q"
   refine g_remN hL6 hmem ?_
   have eL : Fr [L] H6 (upd H6 L (.lst (natsV (ns.erase k0)))) := Fr.mut (List.mem_singleton.mpr rfl) hL6 nofix_lst
   have hL7 : (upd H6 L (.lst (natsV (ns.erase k0)))) L = some (.lst (natsV (ns.erase k0))) := upd_same
   have hT7 := eL.at hT6 (fun z => hLT (List.mem_singleton.mp z).symm)
   have hd7 := eL.at hd6 (fun z => hLd (List.mem_singleton.mp z).symm)
   have E7 : Fr [] H (upd H6 L (.lst (natsV (ns.erase k0)))) := E6.over hL
   generalize upd H6 L (.lst (natsV (ns.erase k0))) = H7 at *
   have hku : k0 < us.length := by omega
   obtain ⟨p, hpp, htd⟩ := k2 k0 us[k0] (List.getElem?_eq_getElem hku)
   have hpA := hp.2 p (List.mem_of_getElem? hpp)
   have hlen := partV_len hpA
   have hgl : (giveV p).length ≤ 8 := by
    cases p with
    | lt x e => exact (show 1 ≤ 8 by decide)
    | atom no x ts => cases no with
     | false => exact hlen
     | true => exact Nat.zero_le _
    | test => exact Nat.zero_le _
   have hgk : giveK ps k0 = giveV p := by unfold giveK; rw [hpp]
   have hel : (ns.erase k0).length = ns.length - 1 := List.length_erase_of_mem hmem
   have hnpos : 0 < ns.length := List.length_pos_of_mem hmem
   repeat walk_at "if"
   refine g_ixT (E7.tup hr3) (atI_nat (List.getElem?_eq_getElem hku)) ?_
   walk_at "q"
   refine ⟨_, p, rfl, htd.fr E7, hpA, fun g H8 e8 hg8 h8 => ?_⟩
   have hL8 := e8.at hL7 (fun z => nomatch z)
   have hT8 := e8.at hT7 (fun z => nomatch z)
   have hd8 := e8.at hd7 (fun z => nomatch z)
   have E8 := E7.trans e8
   have hgd : g ≠ d := fun e => by rw [e, hd7] at hg8; cases hg8
   refine ⟨g, rfl, ⟨_, SqL.of h8⟩, for_list (xs := (giveV p).map V.str) (fun i σ H' => (∃ z5, σ = [some (.ref r), some (.ref L), some (.ref T), some (.ref d), some (.int (k0 : Int)), z5]) ∧ H' g = some (.lst ((giveV p).map V.str)) ∧ H' L = some (.lst (natsV (ns.erase k0))) ∧ H' T = some (.lst (natsV (fs ++ [k0]))) ∧ H' d = some (.dK (kvT (addAll xs ((giveV p).take i)))) ∧ Fr [] H H')
    ⟨⟨_, rfl⟩, h8, hL8, hT8, hd8, E8⟩ (fun i σ H' _ h => SqL.of h.2.1) (fun i x σ H9 hx h => ?_) (fun σ H9 h => ?_)⟩
   ·obtain ⟨⟨z5, rfl⟩, h9, hL9, hT9, hd9, E9⟩ := h
    rw [List.getElem?_map] at hx
    cases hw : (giveV p)[i]? with
    | none => rw [hw] at hx; cases hx
    | some z =>
     rw [hw] at hx
     cases hx
     have hal := addAll_len ((giveV p).take i) xs
     rw [List.length_take] at hal
     walk_at "q"
     refine g_dputS hd9 (by unfold kvT; rw [List.length_map]; omega) ?_
     rw [putK_T]
     have ed : Fr [d] H9 (upd H9 d (.dK (kvT (addL (addAll xs ((giveV p).take i)) z)))) := Fr.mut (List.mem_singleton.mpr rfl) hd9 nofix_dK
     refine ⟨⟨_, rfl⟩, ed.at h9 (fun z => hgd (List.mem_singleton.mp z)), ed.at hL9 (fun z => hLd (List.mem_singleton.mp z)), ed.at hT9 (fun z => hTd (List.mem_singleton.mp z)), ?_, E9.over hdH⟩
     rw [upd_same, List.take_succ, hw]
     show _ = some (HO.dK (kvT (addAll xs (_ ++ [z]))))
     unfold addAll
     rw [List.foldl_append]
     rfl
   ·obtain ⟨⟨z5, rfl⟩, h9, hL9, hT9, hd9, E9⟩ := h
    rw [List.length_map, List.take_length] at hd9
    have hal := addAll_len (giveV p) xs
    walk_at "q"
    refine ⟨_, L, d, ps, ns.erase k0, addAll xs (giveV p), rfl, hv.fr E9, hp, SqL.of hL9, by omega, fun k hk => hnp5 k (List.mem_of_mem_erase hk), hd9, fun H10 e10 => ?_⟩
    walk_at "q"
    have hL10 := e10.at hL9 (fun z => nomatch z)
    refine k _ _ ⟨_, ns.erase k0, addAll xs (giveV p), fs ++ [k0], rfl, hL10, e10.at hT9 (fun z => nomatch z), e10.at hd9 (fun z => nomatch z), E9.trans e10, by omega, fun k hk => hnp5 k (List.mem_of_mem_erase hk), ?_, by omega, by rw [List.length_append, List.length_singleton]; omega⟩ ?_
    ·rw [← hord, order_some hnx (Nat.le_refl _), hgk, hel, List.append_assoc]
     rfl
    ·rw [hL10, hL5]
     show (natsV (ns.erase k0)).length < (natsV ns).length
     unfold natsV
     rw [List.length_map, List.length_map]
     omega
 ·obtain ⟨v, h1, h2, k, hk, r⟩ := h
  exact ⟨v, h1, h2, k, hk, hAB _ _ r⟩
end
abbrev s__law_sum_vars : Stmt := topS 21
theorem sc__law_sum_vars : FnScope ["_law_thing"] ["_law_thing"] (defScope s__law_sum_vars) := ⟨rfl, rfl, rfl, by decide +kernel, rfl, by decide +kernel, by decide +kernel⟩
abbrev s__law_part_vars : Stmt := topS 22
theorem sc__law_part_vars : FnScope ["_law_part", "_law_term"] ["_law_part"] (defScope s__law_part_vars) := ⟨rfl, rfl, rfl, by decide +kernel, rfl, by decide +kernel, by decide +kernel⟩
abbrev s__law_gives : Stmt := topS 23
theorem sc__law_gives : FnScope ["_law_part"] ["_law_part"] (defScope s__law_gives) := ⟨rfl, rfl, rfl, by decide +kernel, rfl, by decide +kernel, by decide +kernel⟩
abbrev s__law_wants : Stmt := topS 24
theorem sc__law_wants : FnScope ["_law_part"] ["_law_part"] (defScope s__law_wants) := ⟨rfl, rfl, rfl, by decide +kernel, rfl, by decide +kernel, by decide +kernel⟩
section
variable {P : Program} {w : World} {K : PySem.W.Frag} {mg : Str → Option Value} {base : Heap}
theorem ok__law_sum_vars {n : Nat} {f : Addr} {fd : FuncData} (F : FnP K "_law_sum_vars" s__law_sum_vars f fd) (C__law_sum_vars : CalG P w K mg base n "_law_sum_vars" (spSumV K n)) : FnG P w K mg base CX0 (n + 1) f fd ["_law_thing"] (spSumV K (n + 1)) := by
 refine okG F sc__law_sum_vars (fun vs H Q E h => ?_) (fun cdv A outer s H vs Q E hr h => ?_)
 ·obtain ⟨v, e, m, rfl, _⟩ := h
  rfl
 obtain ⟨v, e, m, rfl, hv, he, hm, hn, q⟩ := h
 refine ⟨_, PSs.nox (pss_cons (ps_if (pt_cmpR (kOp (K := K) (r := uIn) rfl opu_in) (pe_ix (kIx (K := K) (r := rIx) rfl ix_seq) (pv 0) pe_int (fun _ _ => rfl)) (pe_tup (pa_cons pe_str (pa_cons pe_str pa_nil))) (by rfl)) (pss_one (ps_ret (pe_lst pa_nil))) pss_nil)
 (pss_cons (ps_if (pt_cmpR (kOp (K := K) (r := uEq) rfl (opu_eq hr.units)) (pe_ix (kIx (K := K) (r := rIx) rfl ix_seq) (pv 0) pe_int (fun _ _ => rfl)) pe_str (nomark _)) (pss_one (ps_ret (pe_lst (pa_cons (pe_ix (kIx (K := K) (r := rIx) rfl ix_seq) (pv 0) pe_int (fun _ _ => rfl)) pa_nil)))) pss_nil)
 (pss_one (ps_ret (pe_op (kOp (K := K) (r := uAdd) rfl opu_add) (pe_calG C__law_sum_vars hr rfl (pa_cons (pe_ix (kIx (K := K) (r := rIx) rfl ix_seq) (pv 0) pe_int (fun _ _ => rfl)) pa_nil)) (pe_calG C__law_sum_vars hr rfl (pa_cons (pe_ix (kIx (K := K) (r := rIx) rfl ix_seq) (pv 0) pe_int (fun _ _ => rfl)) pa_nil))))))), rd_start (σ0 := [some v]) rfl ?_⟩
 cases he with
 | @val m u hu =>
  obtain ⟨p, rfl, hp⟩ := td_val hu hv
  walk_at "q"
  refine ⟨le_of (by simp), two_in _ _ _ _ _ fun H0 e0 => ?_⟩
  walk_at "q"
  refine ⟨le_of (by simp), fun p2 hp2 => ?_⟩
  exact q _ _ (e0.trans (Fr.new hp2)) (e0.back (fun z => nomatch z) hp2) upd_same
 | @var m x hx =>
  obtain ⟨p, x', y, rfl, hp, hx', hy⟩ := Td.t2 (show Td K H v (.tuple [.str "var", .str x]) from hv)
  cases hx'.str_inv
  cases hy.str_inv
  walk_at "q"
  refine ⟨le_of (by simp), two_in _ _ _ _ _ fun H0 e0 => ?_⟩
  have hp := e0.tup hp
  walk_at "q"
  refine ⟨le_of (by simp), fun p2 hp2 => ?_⟩
  exact q _ _ (e0.trans (Fr.new hp2)) (e0.back (fun z => nomatch z) hp2) upd_same
 | @op m s a b hs ha hb =>
  obtain ⟨p, x, y, z, rfl, hp, hx, hy, hz⟩ := Td.t3 (show Td K H v (.tuple [.str s, a.d, b.d]) from hv)
  cases hx.str_inv
  have hdeep : max a.deep b.deep + 1 < n + 1 := hn
  walk_at "q"
  refine ⟨le_of (by simp), two_in _ _ _ _ _ fun H0 e0 => ?_⟩
  have hp := e0.tup hp
  rw [decide_eq_false (show s ∉ (["value", "any"] : List Str) by rcases hs with rfl | rfl | rfl <;> decide +kernel)]
  walk_at "q"
  refine g_ff (decide_eq_false (sg_ne hs).2) ?_
  walk_at "q"
  refine ⟨y, a, m, rfl, hy.fr e0, ha, by omega, by omega, fun p1 H1 e1 _ h1 => ?_⟩
  have hp1 := e1.tup hp
  walk_at "q"
  refine ⟨z, b, m, rfl, (hz.fr e0).fr e1, hb, by omega, by omega, fun p2 H2 e2 _ h2 => ?_⟩
  have l1 := sumV_len (ha.up (show m ≤ 4 by omega))
  have l2 := sumV_len (hb.up (show m ≤ 4 by omega))
  refine g_addL (e2.at h1 (fun z => nomatch z)) h2 (le_of (by rw [List.length_map, List.length_map]; omega)) fun p3 hp3 => ?_
  have ee := (e0.trans e1).trans e2
  have hp3H : H p3 = none := ee.back (fun z => nomatch z) hp3
  refine q _ _ (ee.trans (Fr.new hp3)) hp3H ?_
  rw [upd_same, ← List.map_append]
  rfl
theorem ok__law_part_vars {f : Addr} {fd : FuncData} (F : FnP K "_law_part_vars" s__law_part_vars f fd) (C__law_sum_vars : CalG P w K mg base 5 "_law_sum_vars" (spSumV K 5)) : FnG P w K mg base CX0 6 f fd ["_law_part"] (spNames1 K PartE.d PartA partV) := by
 refine okG F sc__law_part_vars (fun vs H Q E h => ?_) (fun cdv A outer s H vs Q E hr h => ?_)
 ·obtain ⟨v, a, rfl, _⟩ := h
  rfl
 obtain ⟨v, p, rfl, hv, hp, q⟩ := h
 refine ⟨_, PSs.nox (pss_cons (ps_if (pt_cmpR (kOp (K := K) (r := uIn) rfl opu_in) (pe_ix (kIx (K := K) (r := rIx) rfl ix_seq) (pv 0) pe_int (fun _ _ => rfl)) (pe_tup (pa_cons pe_str (pa_cons pe_str pa_nil))) (by rfl)) (pss_one (ps_ret (pe_lc (own := [("_law_term", 1)]) (g := gName 1) rfl sc__law_part_vars.nd (pi_tupK (K := K) rfl (pe_ix (kIx (K := K) (r := rIx) rfl ix_seq) (pv 0) pe_int (fun _ _ => rfl))) (blkOk_by (own := [("_law_term", 1)]) (N := ["_law_part", "_law_term"]) (sc := defScope s__law_part_vars) (by decide +kernel)) (fun _ _ _ _ _ => (by exact (pg_name (i := 1) sc__law_part_vars.nd rfl (by first | exact Or.inl rfl | exact Or.inr rfl)))) (fun _ _ _ _ _ => (by exact pts_one (pt_cmpR (kOp (K := K) (r := uEq) rfl (opu_eq hr.units)) (pe_ix (kIx (K := K) (r := rIx) rfl ix_seq) (pv 1) pe_int (fun _ _ => rfl)) pe_str (nomark _)))) (fun _ _ _ _ _ => (by exact (pe_ix (kIx (K := K) (r := rIx) rfl ix_seq) (pv 1) pe_int (fun _ _ => rfl))))))) pss_nil)
 (pss_cons (ps_if (pt_cmpR (kOp (K := K) (r := uEq) rfl (opu_eq hr.units)) (pe_ix (kIx (K := K) (r := rIx) rfl ix_seq) (pv 0) pe_int (fun _ _ => rfl)) pe_str (nomark _)) (pss_one (ps_ret (pe_op (kOp (K := K) (r := uAdd) rfl opu_add) (pe_lst (pa_cons (pe_ix (kIx (K := K) (r := rIx) rfl ix_seq) (pv 0) pe_int (fun _ _ => rfl)) pa_nil)) (pe_calG C__law_sum_vars hr rfl (pa_cons (pe_ix (kIx (K := K) (r := rIx) rfl ix_seq) (pv 0) pe_int (fun _ _ => rfl)) pa_nil))))) pss_nil)
 (pss_one (ps_ret (pe_op (kOp (K := K) (r := uAdd) rfl opu_add) (pe_calG C__law_sum_vars hr rfl (pa_cons (pe_ix (kIx (K := K) (r := rIx) rfl ix_seq) (pv 0) pe_int (fun _ _ => rfl)) pa_nil)) (pe_calG C__law_sum_vars hr rfl (pa_cons (pe_ix (kIx (K := K) (r := rIx) rfl ix_seq) (pv 0) pe_int (fun _ _ => rfl)) pa_nil))))))), rd_start (σ0 := [some v, none]) rfl ?_⟩
 cases hp with
 | @atom no x ts hl hts =>
  obtain ⟨a, y1, y2, y3, rfl, ha, h1, h2, h3⟩ := Td.t3 (show Td K H v (.tuple [.str (if no then "not" else "atom"), .str x, .tuple (ts.map TermE.d)]) from hv)
  cases h1.str_inv
  cases h2.str_inv
  obtain ⟨r, us, rfl, hr3, ht⟩ := h3.tuple_inv
  walk_at "q"
  refine ⟨le_of (by simp), two_in _ _ _ _ _ fun H1 e1 => ?_⟩
  have ha1 := e1.tup ha
  have hr1 := e1.tup hr3
  obtain ⟨k1, k2⟩ := tda_get (ht.fr e1)
  rw [decide_eq_true (show (if no = true then ("not" : Str) else "atom") ∈ (["atom", "not"] : List Str) by cases no <;> decide +kernel)]
  walk_at "q"
  refine ⟨r, rfl, ⟨_, hr1⟩, fun D hD => lc_it (walk_tup (xs := us)) (fun i H' => Fr [] H1 H' ∧ H' D = some (.lst (((ts.take i).flatMap termV).map V.str))) ⟨Fr.new hD, upd_same⟩ (fun i H' _ h => h.1.tup hr1) (fun i y H' H'' hi h yy => ?_) (fun H' h => ?_)⟩
  ·obtain ⟨rfl, hxx⟩ := yy
   obtain ⟨f1, f2⟩ := h
   obtain ⟨t, ht0, htd⟩ := k2 i y hxx
   have htd := htd.fr f1
   have hlen : ((ts.take i).flatMap termV).length ≤ 8 := Nat.le_trans (termsV_len _) (by rw [List.length_take]; omega)
   have step : ((ts.take (i + 1)).flatMap termV) = (ts.take i).flatMap termV ++ termV t := by rw [List.take_succ, ht0, List.flatMap_append]; simp
   walk_at "q"
   refine ⟨rfl, ?_⟩
   cases hts t (List.mem_of_getElem? ht0) with
   | any =>
    obtain ⟨p, z, rfl, hp, hz⟩ := Td.t1 (show Td K H'' y (.tuple [.str "any"]) from htd)
    cases hz.str_inv
    walk_at "q"
    exact ⟨f1, by rw [step, f2]; simp [termV]⟩
   | @s e he =>
    cases he with
    | @val _ u hu =>
     obtain ⟨p, rfl, hp⟩ := td_val hu (show Td K H'' y (.tuple [.str "value", scD u]) from htd)
     walk_at "q"
     exact ⟨f1, by rw [step, f2]; simp [termV]⟩
    | @var _ x hx =>
     obtain ⟨p, x', z, rfl, hp, hx', hz⟩ := Td.t2 (show Td K H'' y (.tuple [.str "var", .str x]) from htd)
     cases hx'.str_inv
     cases hz.str_inv
     walk_at "q"
     refine ⟨_, f2, lt_of (by rw [List.length_map]; omega), f1.over hD, ?_⟩
     rw [upd_same, step, List.map_append]
     rfl
  ·refine q _ _ (e1.trans h.1) (e1.back (fun z => nomatch z) hD) ?_
   rw [h.2, k1, List.take_length]
   rfl
 | @lt x e hx0 he =>
  obtain ⟨a, y1, y2, y3, rfl, ha, h1, h2, h3⟩ := Td.t3 (show Td K H v (.tuple [.str "let", .str x, e.d]) from hv)
  cases h1.str_inv
  cases h2.str_inv
  walk_at "q"
  refine ⟨le_of (by simp), two_in _ _ _ _ _ fun H1 e1 => ?_⟩
  have ha1 := e1.tup ha
  walk_at "q"
  refine ⟨le_of (by simp), fun p2 hp2 => ?_⟩
  have e2 : Fr [] H1 (upd H1 p2 (.lst [.str x])) := Fr.new hp2
  have h2l : (upd H1 p2 (.lst [V.str x])) p2 = some (.lst [.str x]) := upd_same
  have ha2 := e2.tup ha1
  generalize upd H1 p2 (.lst [V.str x]) = H2 at *
  walk_at "q"
  refine ⟨_, e, 2, rfl, (h3.fr e1).fr e2, he, by decide, by have := sum_deep he; omega, fun p3 H3 e3 _ h3l => ?_⟩
  have l1 := sumV_len he
  refine g_addL (e3.at h2l (fun z => nomatch z)) h3l (le_of (by rw [List.length_map]; simp only [List.length_singleton]; omega)) fun p4 hp4 => ?_
  have ee := (e1.trans e2).trans e3
  refine q _ _ (ee.trans (Fr.new hp4)) (ee.back (fun z => nomatch z) hp4) ?_
  rw [upd_same]
  rfl
 | @test sg a b ha hb =>
  obtain ⟨p, y1, y2, y3, y4, rfl, hp, h1, h2, h3, h4⟩ := Td.t4 (show Td K H v (.tuple [.str "test", .str sg, a.d, b.d]) from hv)
  cases h1.str_inv
  cases h2.str_inv
  walk_at "q"
  refine ⟨le_of (by simp), two_in _ _ _ _ _ fun H1 e1 => ?_⟩
  have hp1 := e1.tup hp
  walk_at "q"
  refine ⟨_, a, 2, rfl, h3.fr e1, ha, by decide, by have := sum_deep ha; omega, fun p2 H2 e2 _ h2l => ?_⟩
  have hp2 := e2.tup hp1
  walk_at "q"
  refine ⟨_, b, 2, rfl, (h4.fr e1).fr e2, hb, by decide, by have := sum_deep hb; omega, fun p3 H3 e3 _ h3l => ?_⟩
  have l1 := sumV_len ha
  have l2 := sumV_len hb
  refine g_addL (e3.at h2l (fun z => nomatch z)) h3l (le_of (by rw [List.length_map, List.length_map]; omega)) fun p4 hp4 => ?_
  have ee := (e1.trans e2).trans e3
  refine q _ _ (ee.trans (Fr.new hp4)) (ee.back (fun z => nomatch z) hp4) ?_
  rw [upd_same, ← List.map_append]
  rfl
theorem ok__law_gives {f : Addr} {fd : FuncData} (F : FnP K "_law_gives" s__law_gives f fd) (C__law_part_vars : CalG P w K mg base 6 "_law_part_vars" (spNames1 K PartE.d PartA partV)) : FnG P w K mg base CX0 7 f fd ["_law_part"] (spNames1 K PartE.d PartA giveV) := by
 refine okG F sc__law_gives (fun vs H Q E h => ?_) (fun cdv A outer s H vs Q E hr h => ?_)
 ·obtain ⟨v, a, rfl, _⟩ := h
  rfl
 obtain ⟨v, p, rfl, hv, hp, q⟩ := h
 refine ⟨_, PSs.nox (pss_cons (ps_if (pt_cmpR (kOp (K := K) (r := uEq) rfl (opu_eq hr.units)) (pe_ix (kIx (K := K) (r := rIx) rfl ix_seq) (pv 0) pe_int (fun _ _ => rfl)) pe_str (nomark _)) (pss_one (ps_ret (pe_calG C__law_part_vars hr rfl (pa_cons (pv 0) pa_nil)))) pss_nil)
 (pss_one (ps_ret (pe_ifExp (pt_cmpR (kOp (K := K) (r := uEq) rfl (opu_eq hr.units)) (pe_ix (kIx (K := K) (r := rIx) rfl ix_seq) (pv 0) pe_int (fun _ _ => rfl)) pe_str (nomark _)) (pe_lst (pa_cons (pe_ix (kIx (K := K) (r := rIx) rfl ix_seq) (pv 0) pe_int (fun _ _ => rfl)) pa_nil)) (pe_lst pa_nil))))), rd_start (σ0 := [some v]) rfl ?_⟩
 cases p with
 | atom no x ts =>
  obtain ⟨a, y1, y2, y3, rfl, ha, h1, h2, h3⟩ := Td.t3 (show Td K H v (.tuple [.str (if no then "not" else "atom"), .str x, .tuple (ts.map TermE.d)]) from hv)
  cases h1.str_inv
  cases no with
  | false =>
   walk_at "q"
   exact ⟨_, _, rfl, hv, hp, q⟩
  | true =>
   walk_at "q"
   refine ⟨le_of (by simp), fun p2 hp2 => ?_⟩
   exact q _ _ (Fr.new hp2) hp2 upd_same
 | lt x e =>
  obtain ⟨a, y1, y2, y3, rfl, ha, h1, h2, h3⟩ := Td.t3 (show Td K H v (.tuple [.str "let", .str x, e.d]) from hv)
  cases h1.str_inv
  cases h2.str_inv
  walk_at "q"
  refine ⟨le_of (by simp), fun p2 hp2 => ?_⟩
  exact q _ _ (Fr.new hp2) hp2 upd_same
 | test sg a b =>
  obtain ⟨p, y1, y2, y3, y4, rfl, hp, h1, h2, h3, h4⟩ := Td.t4 (show Td K H v (.tuple [.str "test", .str sg, a.d, b.d]) from hv)
  cases h1.str_inv
  walk_at "q"
  refine ⟨le_of (by simp), fun p2 hp2 => ?_⟩
  exact q _ _ (Fr.new hp2) hp2 upd_same
theorem ok__law_wants {f : Addr} {fd : FuncData} (F : FnP K "_law_wants" s__law_wants f fd) (B : BiT mg) (C__law_part_vars : CalG P w K mg base 6 "_law_part_vars" (spNames1 K PartE.d PartA partV)) : FnG P w K mg base CX0 7 f fd ["_law_part"] (spNames1 K PartE.d PartA wantV) := by
 refine okG F sc__law_wants (fun vs H Q E h => ?_) (fun cdv A outer s H vs Q E hr h => ?_)
 ·obtain ⟨v, a, rfl, _⟩ := h
  rfl
 obtain ⟨v, p, rfl, hv, hp, q⟩ := h
 refine ⟨_, PSs.nox (pss_one (ps_ret (pe_slice (kSl (K := K) (r := rSlL) rfl sl_list) (pe_calG C__law_part_vars hr rfl (pa_cons (pv 0) pa_nil)) (po_some (pe_callTy callu_int (by rfl) B.b_int (by decide +kernel) (pa_cons (pe_cmpR (kOp (K := K) (r := uEq) rfl (opu_eq hr.units)) (pe_ix (kIx (K := K) (r := rIx) rfl ix_seq) (pv 0) pe_int (fun _ _ => rfl)) pe_str (nomark _)) pa_nil))) po_none))), rd_start (σ0 := [some v]) rfl ?_⟩
 obtain ⟨a, xs, hd, rfl, ha, hh⟩ := part_head hv
 walk_at "q"
 refine ⟨_, _, rfl, hv, hp, fun p1 H1 e1 hn1 h1 => ?_⟩
 have ha1 := e1.tup ha
 walk_at "q"
 refine g_ixT ha1 (atI_nat (j := 0) rfl) ?_
 walk_at "q"
 refine g_intB ?_
 walk_at "q"
 have hlet : (∃ x e, p = .lt x e ∧ hd = "let") ∨ (hd ≠ "let" ∧ wantV p = partV p) := by
  cases p with
  | lt x e => exact .inl ⟨x, e, rfl, hh⟩
  | atom no x ts => exact .inr ⟨by rw [hh]; cases no; exact (show ¬ (("atom" : Str) = "let") by decide +kernel); exact (show ¬ (("not" : Str) = "let") by decide +kernel), rfl⟩
  | test s a b => exact .inr ⟨by rw [hh]; exact (show ¬ (("test" : Str) = "let") by decide +kernel), rfl⟩
 refine g_slL (SqL.of h1) fun p2 hp2 => ?_
 refine q _ _ (e1.trans (Fr.new hp2)) (e1.back (fun z => nomatch z) hp2) ?_
 rw [upd_same]
 rcases hlet with ⟨x, e, rfl, rfl⟩ | ⟨hn, hw⟩
 ·rw [decide_eq_true (show ("let" : Str) = "let" from rfl)]
  show some (HO.lst (cutV ((partV (.lt x e)).map V.str) (some ((1 : Nat) : Int)) none)) = _
  rw [cutA]
  rfl
 ·rw [decide_eq_false hn]
  show some (HO.lst (cutV ((partV p).map V.str) (some ((0 : Nat) : Int)) none)) = _
  rw [cutA, hw]
  rfl
end
def spOrderL (K : PySem.W.Frag) : Sp := fun vs H Q _ => ∃ (r : Addr) (us : List V) (ps : List PartE), vs = [.ref r] ∧ H r = some (.lst us) ∧ TdAll K H us (ps.map PartE.d) ∧ partsA ps ∧ ∀ o H', Fr [] H H' → H o = none → H' o = some (.lst (natsV (orderP ps ps.length (List.range ps.length) []))) → Q (.ref o) H'
abbrev s__law_order : Stmt := topS 25
theorem sc__law_order : FnScope ["_law_parts", "_law_left", "_law_found", "_law_bound", "_law_going", "_law_ready", "_law_k", "_law_n"] ["_law_parts"] (defScope s__law_order) := ⟨rfl, rfl, rfl, by decide +kernel, rfl, by decide +kernel, by decide +kernel⟩
section
theorem ready_congr {ps : List PartE} {xs ys : List Str} (h : ∀ x, x ∈ xs ↔ x ∈ ys) : readyB ps xs = readyB ps ys := by
 funext k
 unfold readyB
 cases ps[k]? with
 | none => rfl
 | some p =>
  dsimp only
  congr 2
  funext x
  exact decide_eq_decide.mpr (h x)
theorem next_head {ps : List PartE} {ns : List Nat} {xs : List Str} : nextP ps ns xs = (ns.filter (readyB ps xs) ++ ns.filter (atomB ps)).head? := by
 unfold nextP
 rw [← List.head?_filter]
 cases ns.filter (readyB ps xs) with
 | nil => rfl
 | cons a r => rfl
theorem filter_nil_all {ws ys : List Str} : decide ((ws.filter fun x => !decide (x ∈ ys)) = []) = ws.all fun x => decide (x ∈ ys) := by
 induction ws with
 | nil => rfl
 | cons a r ih =>
  by_cases h : a ∈ ys
  ·rw [List.filter_cons_of_neg (by simp [h]), ih, List.all_cons, decide_eq_true h]
   rfl
  ·rw [List.filter_cons_of_pos (by simp [h]), List.all_cons, decide_eq_false h]
   rfl
variable {P : Program} {w : World} {K : PySem.W.Frag} {mg : Str → Option Value} {base : Heap}
theorem ok__law_order {f : Addr} {fd : FuncData} (F : FnP K "_law_order" s__law_order f fd) (B : BiN mg) (C__law_wants : CalG P w K mg base 7 "_law_wants" (spNames1 K PartE.d PartA wantV)) (C__law_gives : CalG P w K mg base 7 "_law_gives" (spNames1 K PartE.d PartA giveV)) : FnG P w K mg base CX0 9 f fd ["_law_parts"] (spOrderL K) := by
 refine okG F sc__law_order (fun vs H Q E h => ?_) (fun cdv A outer s H vs Q E hr h => ?_)
 ·obtain ⟨r, us, ps, rfl, _⟩ := h
  rfl
 obtain ⟨r, us, ps, rfl, hr3, ht, hp, q⟩ := h
 have hu := hu_of hr.rm
 obtain ⟨k1, k2⟩ := tda_get ht
 refine ⟨_, PSs.nox (pss_cons (ps_set (i := 1) sc__law_order.nd rfl (.inl rfl) (pe_listRg rfl (by rfl) B.b_list (prg_1 (by rfl) B.b_range (pe_callB (kCall (K := K) (r := uLen) rfl callu_len) (by rfl) B.b_len (by decide +kernel) (pa_cons (pv 0) pa_nil)))))
 (pss_cons (ps_set (i := 2) sc__law_order.nd rfl (.inl rfl) (pe_lst pa_nil))
 (pss_cons (ps_set (i := 3) sc__law_order.nd rfl (.inr rfl) (pe_lst pa_nil))
 (pss_cons (ps_set (i := 4) sc__law_order.nd rfl (.inl rfl) pe_bl)
 (pss_cons (ps_while PassesOwn.never (pt_val (pv 4)) (pss_cons (ps_setLc (i := 5) (own := [("_law_k", 6)]) (g := gName 6) rfl sc__law_order.nd rfl rfl (sw_true rfl rfl rfl (by decide +kernel)) (pi_listK (K := K) rfl (pv 1)) (blkOk_by (own := [("_law_k", 6)]) (N := ["_law_parts", "_law_left", "_law_found", "_law_bound", "_law_going", "_law_ready", "_law_k", "_law_n"]) (sc := defScope s__law_order) (by decide +kernel)) (fun _ _ _ _ _ => (by exact (pg_name (i := 6) sc__law_order.nd rfl (by first | exact Or.inl rfl | exact Or.inr rfl)))) (fun _ _ _ _ _ => (by exact pts_one (PW.pt (pw_and (pt_cmpR (kOp (K := K) (r := uNe) rfl (opu_ne hr.units)) (pe_ix (kIx (K := K) (r := rIx) rfl ix_seq) (pe_ix (kIx (K := K) (r := rIx) rfl ix_seq) (pv 0) (pv 6) (fun _ _ => rfl)) pe_int (fun _ _ => rfl)) pe_str (nomark _)) (pw_and1 (pt_cmpR (kOp (K := K) (r := uEq) rfl (opu_eq hr.units)) (pe_lc (own := [("_law_n", 7)]) (g := gName 7) rfl sc__law_order.nd (pi_listK (K := K) rfl (pe_calG C__law_wants hr rfl (pa_cons (pe_ix (kIx (K := K) (r := rIx) rfl ix_seq) (pv 0) (pv 6) (fun _ _ => rfl)) pa_nil))) (blkOk_by (own := [("_law_n", 7)]) (N := ["_law_parts", "_law_left", "_law_found", "_law_bound", "_law_going", "_law_ready", "_law_k", "_law_n"]) (by kernel_rfl)) (fun _ _ _ _ _ => (by exact (pg_name (i := 7) sc__law_order.nd rfl (by first | exact Or.inl rfl | exact Or.inr rfl)))) (fun _ _ _ _ _ => (by exact pts_one (pt_cmpR (kOp (K := K) (r := uNotIn) rfl opu_notIn) (pv 7) (pv 3) (by rfl)))) (fun _ _ _ _ _ => (by exact (pv 7)))) (pe_lst pa_nil) (nomark _))))))) (fun _ _ _ _ _ => (by exact (pv 6))))
 (pss_cons (ps_set (i := 5) sc__law_order.nd rfl (.inl rfl) (pe_op (kOp (K := K) (r := uAdd) rfl opu_add) (pv 5) (pe_lc (own := [("_law_k", 6)]) (g := gName 6) rfl sc__law_order.nd (pi_listK (K := K) rfl (pv 1)) (blkOk_by (own := [("_law_k", 6)]) (N := ["_law_parts", "_law_left", "_law_found", "_law_bound", "_law_going", "_law_ready", "_law_k", "_law_n"]) (sc := defScope s__law_order) (by decide +kernel)) (fun _ _ _ _ _ => (by exact (pg_name (i := 6) sc__law_order.nd rfl (by first | exact Or.inl rfl | exact Or.inr rfl)))) (fun _ _ _ _ _ => (by exact pts_one (pt_cmpR (kOp (K := K) (r := uEq) rfl (opu_eq hr.units)) (pe_ix (kIx (K := K) (r := rIx) rfl ix_seq) (pe_ix (kIx (K := K) (r := rIx) rfl ix_seq) (pv 0) (pv 6) (fun _ _ => rfl)) pe_int (fun _ _ => rfl)) pe_str (nomark _)))) (fun _ _ _ _ _ => (by exact (pv 6))))))
 (pss_cons (ps_set (i := 4) sc__law_order.nd rfl (.inl rfl) (pe_cmpR (kOp (K := K) (r := uNe) rfl (opu_ne hr.units)) (pv 5) (pe_lst pa_nil) (nomark _)))
 (pss_one (ps_for PassesOwn.never rfl (pi_listK (K := K) rfl (pe_slice (kSl (K := K) (r := rSlL) rfl sl_list) (pv 5) po_none (po_some pe_int))) (pg_name (i := 6) sc__law_order.nd rfl (by first | exact Or.inl rfl | exact Or.inr rfl)) (pss_cons (ps_expr (kBM (K := K) rfl (pe_bm PySem.F.plainAttrs_list PySem.F.slot_list_append PySem.F.type_list_append mt_append (pv 2) (pa_cons (pv 6) pa_nil))))
 (pss_cons (ps_expr (kBM (K := K) rfl (pe_bm PySem.F.plainAttrs_list PySem.F.slot_list_remove PySem.F.type_list_remove mt_remove (pv 1) (pa_cons (pv 6) pa_nil))))
 (pss_one (ps_set (i := 3) sc__law_order.nd rfl (.inr rfl) (pe_op (kOp (K := K) (r := uAdd) rfl opu_add) (pv 3) (pe_calG C__law_gives hr rfl (pa_cons (pe_ix (kIx (K := K) (r := rIx) rfl ix_seq) (pv 0) (pv 6) (fun _ _ => rfl)) pa_nil)))))))))))))
 (pss_one (ps_ret (pv 2)))))))), rd_start (σ0 := [some (.ref r), none, none, none, none, none, none, none]) rfl ?_⟩
 walk_at "q"
 have hpl := hp.1
 refine ⟨.of_le (by decide) (by omega) (by decide) (by omega), fun L hL => ?_⟩
 rw [k1, rgV_nat]
 have e1 : Fr [] H (upd H L (.lst (natsV (List.range ps.length)))) := Fr.new hL
 have hL1 : (upd H L (.lst (natsV (List.range ps.length)))) L = some (.lst (natsV (List.range ps.length))) := upd_same
 show gName 1 (V.ref L) _ (upd H L (.lst (natsV (List.range ps.length)))) _
 generalize upd H L (.lst (natsV (List.range ps.length))) = H1 at *
 walk_at "q"
 refine ⟨le_of (by simp), fun T hT => ?_⟩
 have e2 : Fr [] H1 (upd H1 T (.lst [])) := Fr.new hT
 have hT2 : (upd H1 T (.lst [])) T = some (.lst (natsV [])) := upd_same
 have hL2 := e2.at hL1 (fun z => nomatch z)
 have hTH := e1.back (fun z => nomatch z) hT
 have hLT : L ≠ T := fun e => by rw [← e, hL1] at hT; cases hT
 generalize upd H1 T (.lst []) = H2 at *
 walk_at "q"
 refine ⟨le_of (by simp), fun d hd => ?_⟩
 have e3 : Fr [] H2 (upd H2 d (.lst [])) := Fr.new hd
 have hd3 : (upd H2 d (.lst [])) d = some (.lst (([] : List Str).map V.str)) := upd_same
 have hL3 := e3.at hL2 (fun z => nomatch z)
 have hT3 := e3.at hT2 (fun z => nomatch z)
 have hdH := (e1.trans e2).back (fun z => nomatch z) hd
 have E3 := (e1.trans e2).trans e3
 have hdT : d ≠ T := fun e => by rw [e, hT2] at hd; cases hd
 have hdL : d ≠ L := fun e => by rw [e, hL2] at hd; cases hd
 generalize upd H2 d (.lst []) = H3 at *
 walk_at "q"
 have lnats : ∀ ns : List Nat, (natsV ns).length = ns.length := fun ns => List.length_map ..
 have part : ∀ (H' : Hp) (k : Nat), Fr [] H H' → k < ps.length → ∃ p y, ps[k]? = some p ∧ atI us (k : Int) = some y ∧ Td K H' y p.d ∧ PartA p := fun H' k e hk => by
  have hku : k < us.length := by omega
  obtain ⟨p, hpp, htd⟩ := k2 k us[k] (List.getElem?_eq_getElem hku)
  exact ⟨p, us[k], hpp, atI_nat (List.getElem?_eq_getElem hku), htd.fr e, hp.2 p (List.mem_of_getElem? hpp)⟩
 refine g_while (fun σ H' => ∃ bd going z5 z6 z7 ns xs ys fs, σ = [some (.ref r), some (.ref L), some (.ref T), some (.ref bd), some (.bl going), z5, z6, z7] ∧ H' L = some (.lst (natsV ns)) ∧ H' T = some (.lst (natsV fs)) ∧ H' bd = some (.lst (ys.map V.str)) ∧ Fr [] H H' ∧ ns.length ≤ 10 ∧ (∀ k ∈ ns, k < ps.length) ∧
   fs ++ orderP ps ns.length ns xs = orderP ps ps.length (List.range ps.length) [] ∧ ys.length + ns.length * 8 ≤ 80 ∧ fs.length + ns.length ≤ 10 ∧ (∀ x, x ∈ xs ↔ x ∈ ys) ∧ (going = true ∨ nextP ps ns xs = none) ∧ bd ≠ T ∧ bd ≠ L)
   (fun σ H' => 2 * (match H' L with | some (.lst xs) => xs.length | _ => 0) + (match σ[4]? with | some (some (.bl true)) => 1 | _ => 0))
  ⟨d, true, _, _, _, List.range ps.length, [], [], [], rfl, hL3, hT3, hd3, E3, by rw [List.length_range]; omega, fun k hk => List.mem_range.mp hk, by rw [List.length_range]; rfl, by rw [List.length_range, List.length_nil]; omega, by rw [List.length_range, List.length_nil]; omega, fun _ => Iff.rfl, .inl rfl, hdT, hdL⟩
  (fun σ H5 h N k => ?_) (fun σ H5 _ A B hAB h => ?_)
 ·obtain ⟨bd, going, z5, z6, z7, ns, xs, ys, fs, rfl, hL5, hT5, hd5, E5, hn5, hnp5, hord, hx5, hf5, hmem, hgo, hbT, hbL⟩ := h
  walk_at "q"
  cases going with
  | false =>
   refine g_ff (by rfl) ?_
   walk_at "q"
   refine q T H5 E5 hTH ?_
   rw [hT5, ← hord, order_none (hgo.resolve_left (by decide)), List.append_nil]
  | true =>
   refine g_tt (by rfl) ?_
   walk_at "q"
   have hr5 := E5.at hr3 (fun z => nomatch z)
   refine ⟨L, rfl, ⟨_, SqL.of hL5⟩, fun D hD => lc_it (walk_list (xs := natsV ns)) (fun i H' => Fr [] H5 H' ∧ H' D = some (.lst (natsV ((ns.take i).filter (readyB ps ys))))) ⟨Fr.new hD, upd_same⟩ (fun i H' _ h => SqL.of (h.1.at hL5 (fun z => nomatch z))) (fun i x H' H'' hi h y => ?_) (fun H6 h => ?_)⟩
   ·obtain ⟨rfl, hx⟩ := y
    obtain ⟨e2, h2⟩ := h
    obtain ⟨k, hk, rfl⟩ := atI_natsV hx
    obtain ⟨p, y, hpp, hy, htd, hpA⟩ := part H'' k (E5.trans e2) (hnp5 k (List.mem_of_getElem? hk))
    obtain ⟨a, zs, hd, rfl, ha, hh⟩ := part_head htd
    have hrdy : readyB ps ys k = (!decide (hd = "atom") && (wantV p).all fun x => decide (x ∈ ys)) := by unfold readyB; rw [hpp, hh]
    have len : ((ns.take i).filter (readyB ps ys)).length ≤ 10 := Nat.le_trans (List.length_filter_le _ _) (by rw [List.length_take]; omega)
    have yes : ∀ H8 : Hp, Fr [] H'' H8 → readyB ps ys k = true → ∃ acc, H8 D = some (.lst acc) ∧ acc.length < sizeLine ∧ Fr [] H5 (upd H8 D (.lst (acc ++ [.int (k : Int)]))) ∧ (upd H8 D (.lst (acc ++ [.int (k : Int)]))) D = some (.lst (natsV ((ns.take (i + 1)).filter (readyB ps ys)))) := by
     intro H8 e8 hb
     refine ⟨_, e8.at h2 (fun z => nomatch z), lt_of (by rw [lnats]; omega), (e2.trans e8).over hD, ?_⟩
     rw [upd_same, List.take_succ, hk, List.filter_append]
     show _ = some (HO.lst (natsV (_ ++ ([k] : List Nat).filter (readyB ps ys))))
     rw [List.filter_cons_of_pos hb]
     unfold natsV
     rw [List.map_append]
     rfl
    have no : ∀ H8 : Hp, Fr [] H'' H8 → readyB ps ys k = false → Fr [] H5 H8 ∧ H8 D = some (.lst (natsV ((ns.take (i + 1)).filter (readyB ps ys)))) := by
     intro H8 e8 hb
     refine ⟨e2.trans e8, ?_⟩
     rw [e8.at h2 (fun z => nomatch z), List.take_succ, hk, List.filter_append]
     show _ = some (HO.lst (natsV (_ ++ ([k] : List Nat).filter (readyB ps ys))))
     rw [List.filter_cons_of_neg (by rw [hb]; exact Bool.false_ne_true)]
     simp
    walk_at "q"
    refine ⟨rfl, ?_⟩
    walk_at "q"
    refine g_ixL (SqL.of (e2.at hr5 (fun z => nomatch z))) hy ?_
    walk_at "q"
    refine g_ixT ha (atI_nat (j := 0) rfl) ?_
    walk_at "q"
    refine g_byN (fun c => ?_) (fun c => ?_)
    ·walk_at "q"
     refine g_ixL (SqL.of (e2.at hr5 (fun z => nomatch z))) hy ?_
     walk_at "q"
     refine ⟨_, p, rfl, htd, hpA, fun l1 H7 e7 hn7 h7 => ?_⟩
     have hd7 := (e2.trans e7).at hd5 (fun z => nomatch z)
     have hwl : (wantV p).length ≤ 8 := by
      have h8 := partV_len hpA
      cases p with
      | lt x e => exact Nat.le_trans (Nat.le_succ _) h8
      | atom => exact h8
      | test => exact h8
     refine ⟨l1, rfl, ⟨_, SqL.of h7⟩, fun D2 hD2 => lc_it (walk_list (xs := (wantV p).map V.str)) (fun i H' => Fr [] H7 H' ∧ H' D2 = some (.lst ((((wantV p).take i).filter fun x => !decide (x ∈ ys)).map V.str))) ⟨Fr.new hD2, upd_same⟩ (fun i H' _ h => SqL.of (h.1.at h7 (fun z => nomatch z))) (fun j x H' H8 hj h y => ?_) (fun H8 h => ?_)⟩
     ·obtain ⟨rfl, hx⟩ := y
      obtain ⟨e8, h8⟩ := h
      rw [List.getElem?_map] at hx
      cases hw : (wantV p)[j]? with
      | none => rw [hw] at hx; cases hx
      | some z =>
       rw [hw] at hx
       cases hx
       have len2 : (((wantV p).take j).filter fun x => !decide (x ∈ ys)).length ≤ 8 := Nat.le_trans (List.length_filter_le _ _) (by rw [List.length_take]; omega)
       walk_at "q"
       refine ⟨rfl, ?_⟩
       walk_at "q"
       refine g_notInT (.inl (SqL.of (e8.at hd7 (fun z => nomatch z)))) (flat_strs _) ?_
       rw [inV_str]
       walk_at "q"
       refine g_byN (fun c3 => ?_) (fun c3 => ?_)
       ·walk_at "q"
        refine ⟨_, h8, lt_of (by rw [List.length_map]; omega), e8.over hD2, ?_⟩
        rw [upd_same, List.take_succ, hw, List.filter_append]
        show _ = some (HO.lst ((_ ++ ([z] : List Str).filter fun x => !decide (x ∈ ys)).map V.str))
        rw [List.filter_cons_of_pos (by simp [c3]), List.map_append]
        rfl
       ·refine ⟨e8, ?_⟩
        rw [h8, List.take_succ, hw, List.filter_append]
        show _ = some (HO.lst ((_ ++ ([z] : List Str).filter fun x => !decide (x ∈ ys)).map V.str))
        rw [List.filter_cons_of_neg (by simp [c3])]
        simp
     ·obtain ⟨e8, h8⟩ := h
      rw [List.length_map, List.take_length] at h8
      walk_at "q"
      refine ⟨le_of (by decide), fun p4 hp4 => ?_⟩
      have e4 : Fr [] H8 (upd H8 p4 (.lst [])) := Fr.new hp4
      have hn4 : (upd H8 p4 (.lst [])) p4 = some (.lst []) := upd_same
      have h84 := e4.at h8 (fun z => nomatch z)
      have ee := (e7.trans e8).trans e4
      generalize upd H8 p4 (.lst []) = H9 at *
      refine g_eqEL (SqL.of h84) (SqL.of hn4) ?_
      have hb : decide ((((wantV p).filter fun x => !decide (x ∈ ys)).map V.str) = []) = readyB ps ys k := by
       rw [hrdy, decide_eq_false c, ← filter_nil_all]
       cases (wantV p).filter fun x => !decide (x ∈ ys) <;> rfl
      rw [hb]
      walk_at "q"
      refine g_byB (fun c4 => ?_) (fun c4 => ?_)
      ·walk_at "q"
       exact yes _ ee c4
      ·exact no _ ee c4
    ·exact no _ Fr.refl (by rw [hrdy, decide_eq_true c]; rfl)
   ·obtain ⟨e6, h6⟩ := h
    rw [lnats, List.take_length] at h6
    walk_at "q"
    have hL6 := e6.at hL5 (fun z => nomatch z)
    have hr6 := e6.at hr5 (fun z => nomatch z)
    have E6 := E5.trans e6
    refine ⟨L, rfl, ⟨_, SqL.of hL6⟩, fun D2 hD2 => lc_it (walk_list (xs := natsV ns)) (fun i H' => Fr [] H6 H' ∧ H' D2 = some (.lst (natsV ((ns.take i).filter (atomB ps))))) ⟨Fr.new hD2, upd_same⟩ (fun i H' _ h => SqL.of (h.1.at hL6 (fun z => nomatch z))) (fun i x H' H'' hi h y => ?_) (fun H7 h => ?_)⟩
    ·obtain ⟨rfl, hx⟩ := y
     obtain ⟨e2, h2⟩ := h
     obtain ⟨k, hk, rfl⟩ := atI_natsV hx
     obtain ⟨p, y, hpp, hy, htd, hpA⟩ := part H'' k (E6.trans e2) (hnp5 k (List.mem_of_getElem? hk))
     obtain ⟨a, zs, hd, rfl, ha, hh⟩ := part_head htd
     have hat : atomB ps k = decide (hd = "atom") := by unfold atomB; rw [hpp, hh]
     have len : ((ns.take i).filter (atomB ps)).length ≤ 10 := Nat.le_trans (List.length_filter_le _ _) (by rw [List.length_take]; omega)
     walk_at "q"
     refine ⟨rfl, ?_⟩
     walk_at "q"
     refine g_ixL (SqL.of (e2.at hr6 (fun z => nomatch z))) hy ?_
     walk_at "q"
     refine g_ixT ha (atI_nat (j := 0) rfl) ?_
     walk_at "q"
     refine g_by (fun c => ?_) (fun c => ?_)
     ·walk_at "q"
      refine ⟨_, h2, lt_of (by rw [lnats]; omega), e2.over hD2, ?_⟩
      rw [upd_same, List.take_succ, hk, List.filter_append]
      show _ = some (HO.lst (natsV (_ ++ ([k] : List Nat).filter (atomB ps))))
      rw [List.filter_cons_of_pos (by rw [hat]; exact decide_eq_true c)]
      unfold natsV
      rw [List.map_append]
      rfl
     ·refine ⟨e2, ?_⟩
      rw [h2, List.take_succ, hk, List.filter_append]
      show _ = some (HO.lst (natsV (_ ++ ([k] : List Nat).filter (atomB ps))))
      rw [List.filter_cons_of_neg (by rw [hat, decide_eq_false c]; exact Bool.false_ne_true)]
      simp
    ·obtain ⟨e7, h7⟩ := h
     rw [lnats, List.take_length] at h7
     have l1 : (ns.filter (readyB ps ys)).length ≤ 10 := Nat.le_trans (List.length_filter_le _ _) hn5
     have l2 : (ns.filter (atomB ps)).length ≤ 10 := Nat.le_trans (List.length_filter_le _ _) hn5
     refine g_addL (e7.at h6 (fun z => nomatch z)) h7 (le_of (by rw [lnats, lnats]; omega)) fun p8 hp8 => ?_
     have e8 : Fr [] H7 (upd H7 p8 (.lst (natsV (ns.filter (readyB ps ys)) ++ natsV (ns.filter (atomB ps))))) := Fr.new hp8
     obtain ⟨rd, hrd⟩ : ∃ rd, rd = ns.filter (readyB ps ys) ++ ns.filter (atomB ps) := ⟨_, rfl⟩
     have h8 : (upd H7 p8 (.lst (natsV (ns.filter (readyB ps ys)) ++ natsV (ns.filter (atomB ps))))) p8 = some (.lst (natsV rd)) := by rw [upd_same, hrd]; unfold natsV; rw [List.map_append]
     have E8 := (E6.trans e7).trans e8
     have hnx : nextP ps ns xs = rd.head? := by
      rw [next_head, ready_congr hmem, hrd]
     have hL8 := (e7.trans e8).at hL6 (fun z => nomatch z)
     have hT8 := ((e6.trans e7).trans e8).at hT5 (fun z => nomatch z)
     have hd8 := ((e6.trans e7).trans e8).at hd5 (fun z => nomatch z)
     generalize upd H7 p8 (.lst (natsV (ns.filter (readyB ps ys)) ++ natsV (ns.filter (atomB ps)))) = H8 at *
     walk_at "q"
     refine ⟨le_of (by decide), fun p9 hp9 => ?_⟩
     have e9 : Fr [] H8 (upd H8 p9 (.lst [])) := Fr.new hp9
     have hn9 : (upd H8 p9 (.lst [])) p9 = some (.lst []) := upd_same
     have h9 := e9.at h8 (fun z => nomatch z)
     have E9 := E8.trans e9
     have hL9 := e9.at hL8 (fun z => nomatch z)
     have hT9 := e9.at hT8 (fun z => nomatch z)
     have hd9 := e9.at hd8 (fun z => nomatch z)
     generalize upd H8 p9 (.lst []) = H9 at *
     refine g_neEL (SqL.of h9) (SqL.of hn9) ?_
     walk_at "q"
     refine g_slL (SqL.of h9) fun p10 hp10 => ?_
     rw [show cutV (natsV rd) none (some 1) = (natsV rd).take 1 from cut0 _ 1]
     have e10 : Fr [] H9 (upd H9 p10 (.lst ((natsV rd).take 1))) := Fr.new hp10
     have h10 : (upd H9 p10 (.lst ((natsV rd).take 1))) p10 = some (.lst ((natsV rd).take 1)) := upd_same
     have E10 := E9.trans e10
     have hL10 := e10.at hL9 (fun z => nomatch z)
     have hT10 := e10.at hT9 (fun z => nomatch z)
     have hd10 := e10.at hd9 (fun z => nomatch z)
     generalize upd H9 p10 (.lst ((natsV rd).take 1)) = H10 at *
     cases hrc : rd with
     | nil =>
      rw [hrc] at h10 hnx
      refine ⟨p10, rfl, ⟨_, SqL.of h10⟩, for_list (xs := []) (fun i σ H' => H' = H10 ∧ σ = [some (.ref r), some (.ref L), some (.ref T), some (.ref bd), some (.bl false), some (.ref p8), z6, z7]) ⟨rfl, rfl⟩ (fun i σ H' _ h => by rw [h.1]; exact SqL.of h10) (fun i x σ H' hx h => by simp at hx) (fun σ H' h => ?_)⟩
      obtain ⟨rfl, rfl⟩ := h
      refine k _ _ ⟨bd, false, _, _, _, ns, xs, ys, fs, rfl, hL10, hT10, hd10, E10, hn5, hnp5, hord, hx5, hf5, hmem, .inr hnx, hbT, hbL⟩ ?_
      rw [hL10, hL5]
      exact Nat.lt_succ_self _
     | cons k0 rest =>
      rw [hrc] at h10 hnx
      have hmk := nextP_mem hnx
      have hk0 := hnp5 k0 hmk
      obtain ⟨p, y, hpp, hy, htd, hpA⟩ := part H10 k0 E10 hk0
      have hlen := partV_len hpA
      have hgl : (giveV p).length ≤ 8 := by
       cases p with
       | lt x e => exact (show 1 ≤ 8 by decide)
       | atom no x ts => cases no with
        | false => exact hlen
        | true => exact Nat.zero_le _
       | test => exact Nat.zero_le _
      have hgk : giveK ps k0 = giveV p := by unfold giveK; rw [hpp]
      have hel : (ns.erase k0).length = ns.length - 1 := List.length_erase_of_mem hmk
      have hnpos : 0 < ns.length := List.length_pos_of_mem hmk
      have hTL : T ≠ L := hLT.symm
      have hpT : p10 ≠ T := fun e => by rw [e, hT9] at hp10; cases hp10
      have hpL : p10 ≠ L := fun e => by rw [e, hL9] at hp10; cases hp10
      refine ⟨p10, rfl, ⟨_, SqL.of h10⟩, for_list (xs := [V.int (k0 : Int)]) (fun i σ H' => Fr [] H H' ∧ H' p10 = some (.lst [V.int (k0 : Int)]) ∧ ((i = 0 ∧ H' = H10 ∧ σ = [some (.ref r), some (.ref L), some (.ref T), some (.ref bd), some (.bl true), some (.ref p8), z6, z7]) ∨
       (i = 1 ∧ ∃ bd' z6 z7, σ = [some (.ref r), some (.ref L), some (.ref T), some (.ref bd'), some (.bl true), some (.ref p8), z6, z7] ∧ H' L = some (.lst (natsV (ns.erase k0))) ∧ H' T = some (.lst (natsV (fs ++ [k0]))) ∧ H' bd' = some (.lst ((ys ++ giveV p).map V.str)) ∧ bd' ≠ T ∧ bd' ≠ L)))
       ⟨E10, h10, .inl ⟨rfl, rfl, rfl⟩⟩ (fun i σ H' _ h => SqL.of h.2.1) (fun i x σ H' hx h => ?_) (fun σ H' h => ?_)⟩
      ·obtain ⟨hE, hpp10, h | h⟩ := h
       ·obtain ⟨rfl, rfl, rfl⟩ := h
        cases hx
        walk_at "q"
        refine g_app hT10 (by rw [lnats]; omega) ?_
        have eT : Fr [T] H' (upd H' T (.lst (natsV fs ++ [V.int (k0 : Int)]))) := Fr.mut (List.mem_singleton.mpr rfl) hT10 nofix_lst
        have hT6 : (upd H' T (.lst (natsV fs ++ [V.int (k0 : Int)]))) T = some (.lst (natsV (fs ++ [k0]))) := by rw [upd_same]; unfold natsV; rw [List.map_append]; rfl
        have hL6 := eT.at hL10 (fun z => hLT (List.mem_singleton.mp z))
        have hd6 := eT.at hd10 (fun z => hbT (List.mem_singleton.mp z))
        have hp6 := eT.at h10 (fun z => hpT (List.mem_singleton.mp z))
        have E6' : Fr [] H (upd H' T (.lst (natsV fs ++ [V.int (k0 : Int)]))) := E10.over hTH
        generalize upd H' T (.lst (natsV fs ++ [V.int (k0 : Int)])) = H11 at *
        walk_at "q"
        refine g_remN hL6 hmk ?_
        have eL : Fr [L] H11 (upd H11 L (.lst (natsV (ns.erase k0)))) := Fr.mut (List.mem_singleton.mpr rfl) hL6 nofix_lst
        have hL7 : (upd H11 L (.lst (natsV (ns.erase k0)))) L = some (.lst (natsV (ns.erase k0))) := upd_same
        have hT7 := eL.at hT6 (fun z => hTL (List.mem_singleton.mp z))
        have hd7 := eL.at hd6 (fun z => hbL (List.mem_singleton.mp z))
        have hp7 := eL.at hp6 (fun z => hpL (List.mem_singleton.mp z))
        have E7' : Fr [] H (upd H11 L (.lst (natsV (ns.erase k0)))) := E6'.over hL
        generalize upd H11 L (.lst (natsV (ns.erase k0))) = H12 at *
        obtain ⟨p', y', hpp', hy', htd', hpA'⟩ := part H12 k0 E7' hk0
        rw [hpp] at hpp'
        cases hpp'
        walk_at "q"
        refine g_ixL (SqL.of (E7'.at hr3 (fun z => nomatch z))) hy' ?_
        walk_at "q"
        refine ⟨_, p, rfl, htd', hpA', fun g H13 e13 hg13 h13 => ?_⟩
        refine g_addL (e13.at hd7 (fun z => nomatch z)) h13 (le_of (by rw [List.length_map, List.length_map]; omega)) fun p14 hp14 => ?_
        have e14 : Fr [] H13 (upd H13 p14 (.lst (ys.map V.str ++ (giveV p).map V.str))) := Fr.new hp14
        have hT13 := e13.at hT7 (fun z => nomatch z)
        have hL13 := e13.at hL7 (fun z => nomatch z)
        refine ⟨(E7'.trans e13).trans e14, e14.at (e13.at hp7 (fun z => nomatch z)) (fun z => nomatch z), .inr ⟨rfl, p14, _, _, rfl, e14.at hL13 (fun z => nomatch z), e14.at hT13 (fun z => nomatch z), by rw [upd_same, List.map_append], fun e => ?_, fun e => ?_⟩⟩
        ·rw [e, hT13] at hp14; cases hp14
        ·rw [e, hL13] at hp14; cases hp14
       ·obtain ⟨rfl, _⟩ := h
        simp at hx
      ·obtain ⟨hE, hpp10, h | h⟩ := h
       ·exact absurd h.1 (show ¬ (1 = 0) by decide)
       ·obtain ⟨_, bd', z6, z7, rfl, a1, a2, a3, a4, a5⟩ := h
        refine k _ _ ⟨bd', true, _, _, _, ns.erase k0, addAll xs (giveV p), ys ++ giveV p, fs ++ [k0], rfl, a1, a2, a3, hE, by omega, fun k hk => hnp5 k (List.mem_of_mem_erase hk), ?_, by rw [List.length_append]; omega, by rw [List.length_append, List.length_singleton]; omega, (fun x => by rw [addAll_mem, hmem, List.mem_append]), .inl rfl, a4, a5⟩ ?_
        ·rw [← hord, order_some hnx (Nat.le_refl _), hgk, hel, List.append_assoc]
         rfl
        ·rw [a1, hL5]
         show 2 * (natsV (ns.erase k0)).length + 1 < 2 * (natsV ns).length + 1
         rw [lnats, lnats]
         omega
 ·obtain ⟨v, h1, k, hk, r⟩ := h
  exact ⟨v, h1, k, hk, hAB _ _ r⟩
end
def vdL : List (Str × Str) := [("x", "number"), ("y", "number"), ("u", "number"), ("v", "number")]
theorem vdL_g : VdG vdL := ⟨by decide, fun p hp => by
 simp only [vdL, List.mem_cons, List.not_mem_nil, or_false] at hp
 rcases hp with rfl | rfl | rfl | rfl
 ·exact ⟨varB_ok (by decide +kernel), .inl rfl⟩
 ·exact ⟨varB_ok (by decide +kernel), .inl rfl⟩
 ·exact ⟨varB_ok (by decide +kernel), .inl rfl⟩
 ·exact ⟨varB_ok (by decide +kernel), .inl rfl⟩⟩
theorem vdL_merge : mergeK [] (kvOf vdL) = kvOf vdL := mergeK_nd (acc := []) (by
 show ([(Sum.inr "x" : Key), Sum.inr "y", Sum.inr "u", Sum.inr "v"]).Nodup
 decide +kernel)
theorem VdG.at2 {vd : List (Str × Str)} (h : VdG vd) {H : Hp} {d : Addr} (e : H d = some (.dK (kvOf vd))) : VarsAt H d vd := ⟨e, by have := h.len; omega, fun p hp => (h.ok p hp).1.ok⟩
theorem tda_snoc2 {K : PySem.W.Frag} {H : Hp} : ∀ {vs : List V} {ds : List PyData} {v : V} {d : PyData}, TdAll K H vs ds → Td K H v d → TdAll K H (vs ++ [v]) (ds ++ [d])
 | _, _, _, _, .nil, h => .cons h .nil
 | _, _, _, _, .cons a b, h => .cons a (tda_snoc2 b h)
theorem order_mem {ps : List PartE} : ∀ {f : Nat} {ns : List Nat} {xs : List Str} {k : Nat}, k ∈ orderP ps f ns xs → k ∈ ns
 | 0, _, _, _, h => nomatch h
 | f + 1, ns, xs, k, h => by
  unfold orderP at h
  split at h
  ·cases h
  ·rename_i j hj
   rcases List.mem_cons.mp h with rfl | h
   ·exact nextP_mem hj
   ·exact List.mem_of_mem_erase (order_mem h)
theorem order_len {ps : List PartE} : ∀ {f : Nat} {ns : List Nat} {xs : List Str}, (orderP ps f ns xs).length ≤ f
 | 0, _, _ => Nat.le_refl _
 | f + 1, ns, xs => by
  unfold orderP
  split
  ·exact Nat.zero_le _
  ·exact Nat.succ_le_succ order_len
structure BiX (mg : Str → Option Value) : Prop where
 b_ValueError : mg "ValueError" = none
abbrev s_LoreError_ini : Stmt := methS 1 0
theorem sc_LoreError_ini : FnScope ["self", "word"] ["self", "word"] (defScope s_LoreError_ini) := ⟨rfl, rfl, rfl, by decide +kernel, rfl, by decide +kernel, by decide +kernel⟩
theorem ok_LoreError_ini {P : Program} {w : World} {K : PySem.W.Frag} {mg : Str → Option Value} {base : Heap} {f : Addr} {fd : FuncData} (F : FnM K "LoreError.__init__" s_LoreError_ini f fd) (B : BiX mg) : FnG P w K mg base CX0 1 f fd ["self", "word"] (spL K) := by
 refine okG F sc_LoreError_ini (fun vs H Q E h => ?_) (fun cdv A outer s H vs Q E hr h => ?_)
 ·obtain ⟨a, C, y, rfl, _⟩ := h
  rfl
 obtain ⟨a, C, y, rfl, ⟨oe, hn, ha⟩, q⟩ := h
 refine ⟨_, PSs.nox (pss_cons (ps_expr (kVeI (K := K) rfl (pe_veinit (by rfl) B.b_ValueError (find_VE _) (pa_cons (pv 0) (pa_cons (pv 1) pa_nil)))))
 (pss_one (kOst (K := K) rfl (ps_ost (pv 0) (pv 1))))), rd_start (σ0 := [some (.ref a), some y]) rfl ?_⟩
 walk_at "q"
 refine ⟨a, C, [y], rfl, Nat.le_of_ble_eq_true rfl, oe, ha, ?_⟩
 walk_at "q"
 refine ⟨a, C, rfl, oe, hn, .inl ⟨ha, fun d hd hne => ?_⟩⟩
 exact q d _ hd hne (Fr.exd hd ha) upd_same (by rw [upd_ne hne]; exact upd_same)
abbrev s_Loose_ini : Stmt := methS 3 0
theorem sc_Loose_ini : FnScope ["self", "name"] ["self", "name"] (defScope s_Loose_ini) := ⟨rfl, rfl, rfl, by decide +kernel, rfl, by decide +kernel, by decide +kernel⟩
theorem ok_Loose_ini {P : Program} {w : World} {K : PySem.W.Frag} {mg : Str → Option Value} {base : Heap} {f a_CheckError : Addr} {fd : FuncData} (F : FnM K "Loose.__init__" s_Loose_ini f fd) (G_CheckError : ClG P w K mg base 1 "CheckError" a_CheckError (spL K)) : FnG P w K mg base CX0 2 f fd ["self", "name"] (spI1 K "loose" "name") := by
 refine okG F sc_Loose_ini (fun vs H Q E h => ?_) (fun cdv A outer s H vs Q E hr h => ?_)
 ·obtain ⟨a, C, y, rfl, _⟩ := h
  rfl
 obtain ⟨a, C, y, rfl, ⟨oe, hn, ha⟩, hf, q⟩ := h
 refine ⟨_, PSs.nox (pss_cons (ps_expr (pe_fini G_CheckError hr rfl (pa_cons (pv 0) (pa_cons pe_str pa_nil))))
 (pss_one (kOst (K := K) rfl (ps_ost (pv 0) (pv 1))))), rd_start (σ0 := [some (.ref a), some y]) rfl ?_⟩
 walk_at "q"
 refine ⟨a, C, _, rfl, ⟨oe, hn, ha⟩, fun d H1 hd hne fr e1 e2 => ?_⟩
 walk_at "q"
 refine ⟨a, C, rfl, oe, hf, .inr ⟨d, _, e1, e2, by decide, ?_⟩⟩
 exact q d _ hd hne (fr.over hd) (by rw [upd_ne (Ne.symm hne)]; exact e1) upd_same
def ArgK (a : ArgE) : Prop := (∃ u, ValG u ∧ a = .s (.val u)) ∨ (∃ x, Tx 12 x ∧ a = .s (.var x)) ∨ (∃ w, a = .fold w none) ∨ ∃ w x, Tx 12 x ∧ a = .fold w (some x)
def varA : ArgE → Option Str
 | .s (.var x) => some x
 | _ => none
def foldA : ArgE → Option Str
 | .fold _ (some x) => some x
 | _ => none
def lastA : ArgE → Option Str
 | .s (.var x) => some x
 | .fold _ (some x) => some x
 | _ => none
def argV (as : List ArgE) : List Str := as.filterMap varA ++ as.filterMap foldA
theorem last_perm (as : List ArgE) : (as.filterMap lastA).Perm (argV as) := by
 unfold argV
 induction as with
 | nil => exact List.Perm.refl _
 | cons a r ih =>
  cases a with
  | s e =>
   cases e with
   | var x => exact List.Perm.cons x ih
   | val u => exact ih
   | op s b c => exact ih
  | fold w o =>
   cases o with
   | none => exact ih
   | some x => exact (List.Perm.cons x ih).trans (List.perm_middle.symm)
theorem arg_cases {K : PySem.W.Frag} {H : Hp} {v : V} {a : ArgE} (hk : ArgK a) (h : Td K H v a.d) : (∃ p u, v = .ref p ∧ SqT K H p [.str "value", u] ∧ ValG u ∧ a = .s (.val u)) ∨ (∃ p x, v = .ref p ∧ SqT K H p [.str "var", .str x] ∧ Tx 12 x ∧ a = .s (.var x)) ∨
  (∃ p w, v = .ref p ∧ SqT K H p [.str "fold", .str w, .non] ∧ a = .fold w none) ∨ ∃ p w x, v = .ref p ∧ SqT K H p [.str "fold", .str w, .str x] ∧ Tx 12 x ∧ a = .fold w (some x) := by
 rcases hk with ⟨u, hu, rfl⟩ | ⟨x, hx, rfl⟩ | ⟨w, rfl⟩ | ⟨w, x, hx, rfl⟩
 ·obtain ⟨p, rfl, hp⟩ := td_val hu h
  exact .inl ⟨p, u, rfl, hp, hu, rfl⟩
 ·obtain ⟨p, y, z, rfl, hp, hy, hz⟩ := Td.t2 (show Td K H v (.tuple [.str "var", .str x]) from h)
  cases hy.str_inv
  cases hz.str_inv
  exact .inr (.inl ⟨p, x, rfl, hp, hx, rfl⟩)
 ·obtain ⟨p, y, z, u, rfl, hp, hy, hz, hu⟩ := Td.t3 (show Td K H v (.tuple [.str "fold", .str w, .none]) from h)
  cases hy.str_inv
  cases hz.str_inv
  cases hu.non_inv
  exact .inr (.inr (.inl ⟨p, w, rfl, hp, rfl⟩))
 ·obtain ⟨p, y, z, u, rfl, hp, hy, hz, hu⟩ := Td.t3 (show Td K H v (.tuple [.str "fold", .str w, .str x]) from h)
  cases hy.str_inv
  cases hz.str_inv
  cases hu.str_inv
  exact .inr (.inr (.inr ⟨p, w, x, rfl, hp, hx, rfl⟩))
def argsA (as : List ArgE) : Prop := as.length ≤ 8 ∧ ∀ a ∈ as, ArgK a
theorem lc_fm {α : Type} {f : α → PyData} {T : α → Option Str} {as : List α} {K : PySem.W.Frag} {J : It} {n : Nat} {G : Hp → Prop} {xs : List V} (w : Walk J n G (YAt xs)) {g : TG} {tt : TT} {te : TE} {vs : List Nat} {σ : L2.St} {H1 : Hp} {D : Addr} {Qd : Hp → Prop} (hG : ∀ H', Fr [] H1 H' → G H') (hn : xs.length = n)
  (hx : TdAll K H1 xs (as.map f)) (hz : as.length ≤ 10000) (hD : H1 D = none)
  (body : ∀ (x : V) (c : α) (H' : Hp) (A : V → Hp → Prop) (B : Hp → Prop), c ∈ as → Td K H' x (f c) → Fr [] H1 H' → (∀ s, T c = some s → A (.str s) H') → (T c = none → B H') → g x (wipe σ vs) H' fun σ2 H2 => wipe σ2 vs = wipe σ vs ∧ tt σ2 H2 fun b H3 => if b = true then te σ2 H3 A else B H3)
  (fin : ∀ H', Fr [] H1 H' → H' D = some (.lst ((as.filterMap T).map V.str)) → Qd H') :
  ∃ W : Nat → Nat → Hp → Prop, (∃ m, W 0 m (upd H1 D (.lst []))) ∧ ∀ i m H, W i m H →
   (J.stop i H ∧ Qd H) ∨ (J.go i H ∧ ∃ Nx : Hp → Prop, (∀ H', Nx H' → ∃ m', m' < m ∧ W (i + 1) m' H') ∧ ∀ x H', J.yld i H x H' → g x (wipe σ vs) H' fun σ2 H2 => wipe σ2 vs = wipe σ vs ∧ tt σ2 H2 fun b H3 =>
    if b = true then te σ2 H3 fun y H4 => ∃ acc, H4 D = some (.lst acc) ∧ acc.length < sizeLine ∧ Nx (upd H4 D (.lst (acc ++ [y]))) else Nx H3) := by
 obtain ⟨k1, k2⟩ := tda_get hx
 refine lc_it w (fun i H' => Fr [] H1 H' ∧ H' D = some (.lst (((as.take i).filterMap T).map V.str))) ⟨Fr.new hD, upd_same⟩ (fun i H' _ h => hG H' h.1) (fun i x H' H'' hi h y => ?_) (fun H' h => ?_)
 ·obtain ⟨rfl, ex⟩ := y
  obtain ⟨e1, h1⟩ := h
  obtain ⟨c, hc, hd⟩ := k2 i x ex
  have hic : i < as.length := (List.getElem?_eq_some_iff.mp hc).1
  have ln : ((as.take i).filterMap T).length ≤ i := Nat.le_trans (List.length_filterMap_le _ _) (by rw [List.length_take]; omega)
  refine body x c H'' _ _ (List.mem_of_getElem? hc) (hd.fr e1) e1 (fun s hs => ?_) (fun hs => ?_)
  ·refine ⟨_, h1, lt_of (by rw [List.length_map]; omega), e1.over hD, ?_⟩
   rw [upd_same, List.take_succ, hc, List.filterMap_append]
   simp [hs]
  ·refine ⟨e1, ?_⟩
   rw [List.take_succ, hc, List.filterMap_append]
   simp [hs, h1]
 ·exact fin H' h.1 (by have e := h.2; rw [← hn, k1, List.take_length] at e; exact e)
abbrev s_arg_variables : Stmt := topS 11
theorem sc_arg_variables : FnScope ["args", "found", "arg"] ["args"] (defScope s_arg_variables) := ⟨rfl, rfl, rfl, by decide +kernel, rfl, by decide +kernel, by decide +kernel⟩
structure BiE (mg : Str → Option Value) : Prop where
 b_enumerate : mg "enumerate" = none
 b_sorted : mg "sorted" = none
 b_min : mg "min" = none
 b_range : mg "range" = none
 b_len : mg "len" = none
 b_int : mg "int" = none
 b_tuple : mg "tuple" = none
 b_isinstance : mg "isinstance" = none
section
variable {P : Program} {w : World} {K : PySem.W.Frag} {mg : Str → Option Value} {base : Heap}
theorem ok_arg_variables {f : Addr} {fd : FuncData} (F : FnP K "arg_variables" s_arg_variables f fd) : FnG P w K mg base CX0 7 f fd ["args"] (spNames1 K argsD argsA argV) := by
 refine okG F sc_arg_variables (fun vs H Q E h => ?_) (fun cdv A outer s H vs Q E hr h => ?_)
 ·obtain ⟨v, as, rfl, _⟩ := h
  rfl
 obtain ⟨v, as, rfl, hv, ha, q⟩ := h
 obtain ⟨r, us, rfl, hr3, ht⟩ := Td.tuple_inv (show Td K H v (.tuple (as.map ArgE.d)) from hv)
 have hl := (tda_get ht).1
 refine ⟨_, PSs.nox (pss_cons (ps_setLc (i := 1) (own := [("arg", 2)]) (g := gName 2) rfl sc_arg_variables.nd rfl rfl (sw_true rfl rfl rfl (by decide +kernel)) (pi_tupK (K := K) rfl (pv 0)) (blkOk_by (own := [("arg", 2)]) (N := ["args", "found", "arg"]) (sc := defScope s_arg_variables) (by decide +kernel)) (fun _ _ _ _ _ => (by exact (pg_name (i := 2) sc_arg_variables.nd rfl (by first | exact Or.inl rfl | exact Or.inr rfl)))) (fun _ _ _ _ _ => (by exact pts_one (pt_cmpR (kOp (K := K) (r := uEq) rfl (opu_eq hr.units)) (pe_ix (kIx (K := K) (r := rIx) rfl ix_seq) (pv 2) pe_int (fun _ _ => rfl)) pe_str (nomark _)))) (fun _ _ _ _ _ => (by exact (pe_ix (kIx (K := K) (r := rIx) rfl ix_seq) (pv 2) pe_int (fun _ _ => rfl)))))
 (pss_one (ps_ret (pe_op (kOp (K := K) (r := uAdd) rfl opu_add) (pv 1) (pe_lc (own := [("arg", 2)]) (g := gName 2) rfl sc_arg_variables.nd (pi_tupK (K := K) rfl (pv 0)) (blkOk_by (own := [("arg", 2)]) (N := ["args", "found", "arg"]) (sc := defScope s_arg_variables) (by decide +kernel)) (fun _ _ _ _ _ => (by exact (pg_name (i := 2) sc_arg_variables.nd rfl (by first | exact Or.inl rfl | exact Or.inr rfl)))) (fun _ _ _ _ _ => (by exact pts_one (PW.pt (pw_and (pt_cmpR (kOp (K := K) (r := uEq) rfl (opu_eq hr.units)) (pe_ix (kIx (K := K) (r := rIx) rfl ix_seq) (pv 2) pe_int (fun _ _ => rfl)) pe_str (nomark _)) (pw_and1 (pt_cmpR opu_isNot (pe_ix (kIx (K := K) (r := rIx) rfl ix_seq) (pv 2) pe_int (fun _ _ => rfl)) pe_non (nomark _))))))) (fun _ _ _ _ _ => (by exact (pe_ix (kIx (K := K) (r := rIx) rfl ix_seq) (pv 2) pe_int (fun _ _ => rfl))))))))), rd_start (σ0 := [some (.ref r), none, none]) rfl ?_⟩
 walk_at "q"
 refine ⟨r, rfl, ⟨_, hr3⟩, fun D hD => lc_fm (T := varA) (walk_tup (xs := us)) (fun H' e => e.tup hr3) rfl ht (by have := ha.1; omega) hD (fun x c H' A B hc htd e kA kB => ?_) (fun H1 e1 h1 => ?_)⟩
 ·walk_at "q"
  refine ⟨rfl, ?_⟩
  rcases arg_cases (ha.2 c hc) htd with ⟨p, u, rfl, hp, hu, rfl⟩ | ⟨p, x, rfl, hp, hx, rfl⟩ | ⟨p, w, rfl, hp, rfl⟩ | ⟨p, w, x, rfl, hp, hx, rfl⟩
  ·walk_at "q"
   exact kB rfl
  ·walk_at "q"
   exact kA _ rfl
  ·walk_at "q"
   exact kB rfl
  ·walk_at "q"
   exact kB rfl
 ·have ht1 := ht.fr e1
  have hr1 := e1.tup hr3
  walk_at "q"
  refine ⟨r, rfl, ⟨_, hr1⟩, fun D2 hD2 => lc_fm (T := foldA) (walk_tup (xs := us)) (fun H' e => e.tup hr1) rfl ht1 (by have := ha.1; omega) hD2 (fun x c H' A B hc htd e kA kB => ?_) (fun H2 e2 h2 => ?_)⟩
  ·walk_at "q"
   refine ⟨rfl, ?_⟩
   rcases arg_cases (ha.2 c hc) htd with ⟨p, u, rfl, hp, hu, rfl⟩ | ⟨p, x, rfl, hp, hx, rfl⟩ | ⟨p, w, rfl, hp, rfl⟩ | ⟨p, w, x, rfl, hp, hx, rfl⟩
   ·walk_at "q"
    exact kB rfl
   ·walk_at "q"
    exact kB rfl
   ·walk_at "q"
    exact kB rfl
   ·walk_at "q"
    refine g_tt (by rw [decide_eq_false (fun z => nomatch z)]; rfl) ?_
    walk_at "q"
    exact kA _ rfl
  ·have l1 := List.length_filterMap_le varA as
   have l2 := List.length_filterMap_le foldA as
   have := ha.1
   refine g_addL (e2.at h1 (fun z => nomatch z)) h2 (le_of (by rw [List.length_map, List.length_map]; omega)) fun p3 hp3 => ?_
   refine q _ _ ((e1.trans e2).trans (Fr.new hp3)) ((e1.trans e2).back (fun z => nomatch z) hp3) ?_
   rw [upd_same, ← List.map_append]
   rfl
end
theorem fr_off {H H1 H2 : Hp} {D : Addr} (a : Fr [] H H1) (b : Fr [D] H1 H2) (h : H D = none) : Fr [] H H2 := fun x o e _ => b x o (a x o e (.inl fun z => nomatch z)) (.inl fun z => by
 rw [List.mem_singleton.mp z, h] at e
 cases e)
theorem lc2_add {K : PySem.W.Frag} {l D : Addr} {zs pre : List Str} {k : Nat} {σ2 : L2.St} {H4 : Hp} {Nx : Hp → Prop} (hl : H4 l = some (.lst (zs.map V.str))) (hD : H4 D = some (.lst (pre.map V.str))) (hne : l ≠ D) (hz : pre.length + zs.length ≤ 9000)
  (hw : ∀ x, wipe ((wipe σ2 [k]).set k (some x)) [k] = wipe σ2 [k]) (hv : ∀ x, ((wipe σ2 [k]).set k (some x))[k]? = some (some x)) (fin : ∀ H', Fr [D] H4 H' → H' D = some (.lst ((pre ++ zs).map V.str)) → Nx H') :
  ∃ W1 : Nat → Nat → Hp → Prop, (∃ m, W1 0 m H4) ∧ ∀ j k' H, W1 j k' H →
   ((Itl K l).stop j H ∧ Nx H) ∨ ((Itl K l).go j H ∧ ∃ Nx1 : Hp → Prop, (∀ H', Nx1 H' → ∃ k'', k'' < k' ∧ W1 (j + 1) k'' H') ∧ ∀ x H', (Itl K l).yld j H x H' → gName k x (wipe σ2 [k]) H' fun σ3 H5 => wipe σ3 [k] = wipe σ2 [k] ∧ tYes σ3 H5 fun b H6 =>
    if b = true then tVar k σ3 H6 fun y H7 => ∃ acc, H7 D = some (.lst acc) ∧ acc.length < sizeLine ∧ Nx1 (upd H7 D (.lst (acc ++ [y]))) else Nx1 H6) := by
 refine lc2_in (walk_list (xs := zs.map V.str)) (fun j H' => Fr [D] H4 H' ∧ H' D = some (.lst ((pre ++ zs.take j).map V.str))) ⟨Fr.refl, by rw [List.take_zero, List.append_nil]; exact hD⟩ (fun i H' _ h => SqL.of (h.1.at hl (fun z => hne (List.mem_singleton.mp z)))) (fun j y H3 H5 hj h yy => ?_) (fun H3 h => ?_)
 ·obtain ⟨rfl, hy⟩ := yy
  obtain ⟨e3, h4⟩ := h
  rw [List.getElem?_map] at hy
  cases hq : zs[j]? with
  | none => rw [hq] at hy; cases hy
  | some z =>
   rw [hq] at hy
   cases hy
   refine g_name ⟨hw _, g_yes (g_tt rfl (g_var (hv _) ⟨_, h4, lt_of ?_, ?_, ?_⟩))⟩
   ·rw [List.length_map, List.length_append, List.length_take]
    omega
   ·exact e3.trans (Fr.mut (List.mem_singleton.mpr rfl) h4 nofix_lst)
   ·rw [upd_same, List.take_succ, hq, ← List.append_assoc]
    simp only [Option.toList, List.map_append, List.map_cons, List.map_nil]
 ·obtain ⟨e3, h4⟩ := h
  rw [List.length_map, List.take_length] at h4
  exact fin H3 e3 h4
def partK (ps : List PartE) (k : Nat) : List Str := match ps[k]? with
 | some p => partV p
 | none => []
def othersP (ps : List PartE) (i n : Nat) : List Str := (List.range n).flatMap fun k => if k = i then [] else giveK ps k
def twK (ps : List PartE) (i : Nat) : List Str := match ps[i]? with
 | some (.lt x _) => if x ∈ othersP ps i ps.length then [x] else []
 | _ => []
def twB (ps : List PartE) (n : Nat) : List Str := (List.range n).flatMap (twK ps)
theorem flat_range {f : Nat → List Str} (n : Nat) : (List.range (n + 1)).flatMap f = (List.range n).flatMap f ++ f n := by
 rw [List.range_succ, List.flatMap_append]
 simp
theorem flat_range_len {f : Nat → List Str} {m : Nat} (h : ∀ k, (f k).length ≤ m) : ∀ n, ((List.range n).flatMap f).length ≤ n * m
 | 0 => Nat.zero_le _
 | n + 1 => by
  have := flat_range_len h n
  have := h n
  rw [flat_range, List.length_append, Nat.succ_mul]
  omega
theorem giveV_len {p : PartE} (h : PartA p) : (giveV p).length ≤ 8 := by
 have := partV_len h
 cases p with
 | atom no x ts =>
  cases no with
  | false => exact this
  | true => exact Nat.zero_le _
 | lt x e => exact Nat.le_of_ble_eq_true rfl
 | test s a b => exact Nat.zero_le _
theorem giveK_len {ps : List PartE} (h : partsA ps) (k : Nat) : (giveK ps k).length ≤ 8 := by
 unfold giveK
 cases e : ps[k]? with
 | none => exact Nat.zero_le _
 | some p => exact giveV_len (h.2 p (List.mem_of_getElem? e))
theorem partK_len {ps : List PartE} (h : partsA ps) (k : Nat) : (partK ps k).length ≤ 8 := by
 unfold partK
 cases e : ps[k]? with
 | none => exact Nat.zero_le _
 | some p => exact partV_len (h.2 p (List.mem_of_getElem? e))
theorem twK_len (ps : List PartE) (k : Nat) : (twK ps k).length ≤ 1 := by
 unfold twK
 split
 ·split
  ·exact Nat.le_refl _
  ·exact Nat.zero_le _
 ·exact Nat.zero_le _
theorem others_len {ps : List PartE} (h : partsA ps) (i n : Nat) : (othersP ps i n).length ≤ n * 8 := flat_range_len (fun k => by
 split
 ·exact Nat.zero_le _
 ·exact giveK_len h k) n
abbrev s_twice_bound : Stmt := topS 12
theorem sc_twice_bound : FnScope ["parts", "found", "place", "part", "others", "k", "name", "one"] ["parts"] (defScope s_twice_bound) := ⟨rfl, rfl, rfl, by decide +kernel, rfl, by decide +kernel, by decide +kernel⟩
section
variable {P : Program} {w : World} {K : PySem.W.Frag} {mg : Str → Option Value} {base : Heap}
theorem ok_twice_bound {f : Addr} {fd : FuncData} (F : FnP K "twice_bound" s_twice_bound f fd) (B : BiE mg) (C_given_by : CalG P w K mg base 7 "given_by" (spNames1 K PartE.d PartA giveV)) : FnG P w K mg base CX0 9 f fd ["parts"] (spNames1 K partsDd partsA fun ps => twB ps ps.length) := by
 refine okG F sc_twice_bound (fun vs H Q E h => ?_) (fun cdv A outer s H vs Q E hr h => ?_)
 ·obtain ⟨v, ps, rfl, _⟩ := h
  rfl
 obtain ⟨v, ps, rfl, hv, hp, q⟩ := h
 obtain ⟨r, us, rfl, hr3, ht⟩ := Td.tuple_inv (show Td K H v (.tuple (ps.map PartE.d)) from hv)
 obtain ⟨k1, k2⟩ := tda_get ht
 have hpl := hp.1
 refine ⟨_, PSs.nox (pss_cons (ps_set (i := 1) sc_twice_bound.nd rfl (.inl rfl) (pe_lst pa_nil))
 (pss_cons (ps_for PassesOwn.never rfl (pi_enumT (K := K) rfl (by rfl) B.b_enumerate (pa_cons (pv 0) pa_nil)) (pg_tupK (K := K) rfl rfl (pgs_cons (pg_name (i := 2) sc_twice_bound.nd rfl (by first | exact Or.inl rfl | exact Or.inr rfl)) (pgs_cons (pg_name (i := 3) sc_twice_bound.nd rfl (by first | exact Or.inl rfl | exact Or.inr rfl)) pgs_nil))) (pss_one (ps_if (pt_cmpR (kOp (K := K) (r := uEq) rfl (opu_eq hr.units)) (pe_ix (kIx (K := K) (r := rIx) rfl ix_seq) (pv 3) pe_int (fun _ _ => rfl)) pe_str (nomark _)) (pss_cons (ps_setLc2 (i := 4) (own := [("k", 5), ("one", 7), ("name", 6)]) (vs1 := [6]) (g := gTup K 2 (gCons (gName 5) (gCons (gName 7) gNil))) (g1 := gName 6) (tt1 := tYes) rfl sc_twice_bound.nd rfl rfl (sw_true rfl rfl rfl (by decide +kernel)) (pi_enumT (K := K) rfl (by rfl) B.b_enumerate (pa_cons (pv 0) pa_nil)) (blkOk_by (own := [("k", 5), ("one", 7), ("name", 6)]) (N := ["parts", "found", "place", "part", "others", "k", "name", "one"]) (sc := defScope s_twice_bound) (by decide +kernel)) (by decide) (fun _ _ _ _ _ => by exact (pg_tupK (K := K) rfl rfl (pgs_cons (pg_name (i := 5) sc_twice_bound.nd rfl (by first | exact Or.inl rfl | exact Or.inr rfl)) (pgs_cons (pg_name (i := 7) sc_twice_bound.nd rfl (by first | exact Or.inl rfl | exact Or.inr rfl)) pgs_nil)))) (fun _ _ _ _ _ => (by exact pts_one (pt_cmpR (kOp (K := K) (r := uNe) rfl (opu_ne hr.units)) (pv 5) (pv 2) (nomark _)))) (fun _ _ _ _ _ => by exact (pi_listK (K := K) rfl (pe_calG C_given_by hr rfl (pa_cons (pv 7) pa_nil)))) (fun _ _ _ _ _ => by exact (pg_name (i := 6) sc_twice_bound.nd rfl (by first | exact Or.inl rfl | exact Or.inr rfl))) (fun _ _ _ _ _ => pts_nil) (fun _ _ _ _ _ => by exact (pv 6)))
 (pss_one (ps_if (pt_cmpR (kOp (K := K) (r := uIn) rfl opu_in) (pe_ix (kIx (K := K) (r := rIx) rfl ix_seq) (pv 3) pe_int (fun _ _ => rfl)) (pv 4) (by rfl)) (pss_one (ps_expr (kBM (K := K) rfl (pe_bm PySem.F.plainAttrs_list PySem.F.slot_list_append PySem.F.type_list_append mt_append (pv 1) (pa_cons (pe_ix (kIx (K := K) (r := rIx) rfl ix_seq) (pv 3) pe_int (fun _ _ => rfl)) pa_nil))))) pss_nil))) pss_nil)))
 (pss_one (ps_ret (pv 1))))), rd_start (σ0 := [some (.ref r), none, none, none, none, none, none, none]) rfl ?_⟩
 walk_at "q"
 refine ⟨le_of (by simp), fun T hT => ?_⟩
 have e0 : Fr [] H (upd H T (.lst [])) := Fr.new hT
 have hT0 : (upd H T (.lst [])) T = some (.lst ((twB ps 0).map V.str)) := upd_same
 generalize upd H T (.lst []) = H0 at *
 walk_at "q"
 refine ⟨r, us, rfl, e0.tup hr3, for_it (walk_enumT (xs := us)) (fun i σ H' => (∃ z2 z3 z4, σ = [some (.ref r), some (.ref T), z2, z3, z4, none, none, none]) ∧ Fr [] H H' ∧ H' T = some (.lst ((twB ps i).map V.str))) ⟨⟨_, _, _, rfl⟩, e0, hT0⟩ (fun i σ H' _ h => h.2.1.tup hr3) (fun i x σ H1 H2 hi h y => ?_) (fun σ H1 h => ?_)⟩
 ·obtain ⟨⟨z2, z3, z4, rfl⟩, e1, h1⟩ := h
  obtain ⟨Tt, xi, y, rfl, hTt, rfl, hxi, hy⟩ := y
  cases hxi
  obtain ⟨p, hpp, htd⟩ := k2 i y hy
  have hpA := hp.2 p (List.mem_of_getElem? hpp)
  have e2 : Fr [] H1 (upd H1 Tt (.tup [V.int (i : Nat), y])) := Fr.new hTt
  have ht2 : SqT K (upd H1 Tt (.tup [V.int (i : Nat), y])) Tt [.int (i : Nat), y] := SqT.of upd_same
  generalize upd H1 Tt (.tup [V.int (i : Nat), y]) = H2 at *
  have e12 := e1.trans e2
  have h2 := e2.at h1 (fun z => nomatch z)
  have htd2 := htd.fr e12
  have stepN : twK ps i = [] → (∃ a2 a3 a4, ([some (.ref r), some (.ref T), some (.int (i : Nat)), some y, z4, none, none, none] : L2.St) = [some (.ref r), some (.ref T), a2, a3, a4, none, none, none]) ∧ Fr [] H H2 ∧ H2 T = some (.lst ((twB ps (i + 1)).map V.str)) := fun e => ⟨⟨_, _, _, rfl⟩, e12, by
   unfold twB
   rw [flat_range, e, List.append_nil]
   exact h2⟩
  walk_at "q"
  cases p with
  | atom no x ts =>
   obtain ⟨a, y1, y2, y3, rfl, ha, g1, g2, g3⟩ := Td.t3 (show Td K H2 y (.tuple [.str (if no then "not" else "atom"), .str x, .tuple (ts.map TermE.d)]) from htd2)
   cases g1.str_inv
   cases no with
   | false =>
    walk_at "q"
    exact stepN (by unfold twK; rw [hpp])
   | true =>
    walk_at "q"
    exact stepN (by unfold twK; rw [hpp])
  | test sg a b =>
   obtain ⟨p, y1, y2, y3, y4, rfl, hpq, g1, g2, g3, g4⟩ := Td.t4 (show Td K H2 y (.tuple [.str "test", .str sg, a.d, b.d]) from htd2)
   cases g1.str_inv
   walk_at "q"
   exact stepN (by unfold twK; rw [hpp])
  | lt x e =>
   obtain ⟨a, y1, y2, y3, rfl, ha, g1, g2, g3⟩ := Td.t3 (show Td K H2 y (.tuple [.str "let", .str x, e.d]) from htd2)
   cases g1.str_inv
   cases g2.str_inv
   have htT := e12.tup hr3
   walk_at "q"
   refine ⟨r, us, rfl, htT, fun D hD => lc2_out (walk_enumT (xs := us)) (fun k H' => Fr [] H2 H' ∧ H' D = some (.lst ((othersP ps i k).map V.str))) ⟨Fr.new hD, upd_same⟩ (fun k H' _ h => h.1.tup htT) (fun k x' H3 H4 hk h yy => ?_) (fun H3 h => ?_)⟩
   ·obtain ⟨e3, h3⟩ := h
    obtain ⟨Tk, xk, yk, rfl, hTk, rfl, hxk, hyk⟩ := yy
    cases hxk
    obtain ⟨pk, hpk, htk⟩ := k2 k yk hyk
    have hkA := hp.2 pk (List.mem_of_getElem? hpk)
    have e4 : Fr [] H3 (upd H3 Tk (.tup [V.int (k : Nat), yk])) := Fr.new hTk
    have ht4 : SqT K (upd H3 Tk (.tup [V.int (k : Nat), yk])) Tk [.int (k : Nat), yk] := SqT.of upd_same
    generalize upd H3 Tk (.tup [V.int (k : Nat), yk]) = H4 at *
    have e34 := e3.trans e4
    have h4 := e4.at h3 (fun z => nomatch z)
    have ol := others_len hp i k
    have hkl : k < ps.length := by omega
    have stp : othersP ps i (k + 1) = othersP ps i k ++ if k = i then [] else giveK ps k := by unfold othersP; rw [flat_range]
    walk_at "q"
    refine ⟨rfl, ?_⟩
    walk_at "q"
    refine g_byN (fun c => ?_) (fun c => ?_)
    ·walk_at "q"
     refine ⟨yk, pk, rfl, htk.fr (e12.trans e34), hkA, fun l H5 e5 hn5 h5 => ?_⟩
     have hD5 := e5.at h4 (fun z => nomatch z)
     have hlD : l ≠ D := fun e => by rw [e, h4] at hn5; cases hn5
     have gl := giveV_len hkA
     refine ⟨l, rfl, ⟨_, SqL.of h5⟩, lc2_add h5 hD5 hlD (by omega) (fun _ => rfl) (fun _ => rfl) fun H6 e6 h6 => ⟨fr_off (e34.trans e5) e6 hD, ?_⟩⟩
     rw [stp, if_neg (by omega), show giveK ps k = giveV pk by unfold giveK; rw [hpk]]
     exact h6
    ·exact ⟨e34, by rw [stp, if_pos (by omega), List.append_nil]; exact h4⟩
   ·obtain ⟨e3, h3⟩ := h
    rw [k1] at h3
    have hT3 := e3.at h2 (fun z => nomatch z)
    have ha3 := e3.tup ha
    walk_at "q"
    refine g_inT (.inl (SqL.of h3)) (flat_strs _) ?_
    rw [inV_str]
    walk_at "q"
    have tk : twK ps i = if x ∈ othersP ps i ps.length then [x] else [] := by unfold twK; rw [hpp]
    have tl := flat_range_len (f := twK ps) (twK_len ps) i
    refine g_by (fun c => ?_) (fun c => ?_)
    ·walk_at "q"
     refine g_app hT3 (by rw [List.length_map]; unfold twB; omega) ?_
     walk_at "q"
     refine ⟨⟨_, _, _, rfl⟩, (e12.trans e3).over hT, ?_⟩
     rw [upd_same]
     unfold twB
     rw [flat_range, tk, if_pos c, List.map_append]
     rfl
    ·walk_at "q"
     refine ⟨⟨_, _, _, rfl⟩, e12.trans e3, ?_⟩
     unfold twB
     rw [flat_range, tk, if_neg c, List.append_nil]
     exact hT3
 ·obtain ⟨⟨z2, z3, z4, rfl⟩, e1, h1⟩ := h
  rw [k1] at h1
  walk_at "q"
  exact q T H1 e1 hT h1
end
def IsMin (L : List Str) (m : Str) : Prop := m ∈ L ∧ ∀ y ∈ L, ¬ y.cps.toList < m.cps.toList
theorem isMin_eq {L L' : List Str} {m m' : Str} (h : IsMin L m) (h' : IsMin L' m') (p : ∀ x, x ∈ L ↔ x ∈ L') : m = m' := by
 have a := h.2 m' ((p m').mpr h'.1)
 have b := h'.2 m ((p m).mp h.1)
 exact str_ext2 (List.le_antisymm (List.not_lt.mp a) (List.not_lt.mp b))
where
 str_ext2 {a b : Str} (h : a.cps.toList = b.cps.toList) : a = b := by
  obtain ⟨⟨a⟩⟩ := a
  obtain ⟨⟨b⟩⟩ := b
  have e : a = b := h
  rw [e]
theorem rising_min : ∀ (r : List Str) (p : Str), risingS p r = true → ∀ z ∈ p :: r, ¬ z.cps.toList < p.cps.toList
 | [], p, _, z, hz => by rw [List.mem_singleton.mp hz]; exact List.lt_irrefl _
 | x :: r, p, h, z, hz => by
  have h1 : (!ltCps x.cps.toList p.cps.toList && risingS x r) = true := h
  obtain ⟨a, b⟩ := Bool.and_eq_true_iff.mp h1
  have a2 : ¬ x.cps.toList < p.cps.toList := by
   intro q
   rw [ltCps_eq, decide_eq_true q] at a
   cases a
  rcases List.mem_cons.mp hz with rfl | hz
  ·exact List.lt_irrefl _
  ·have c := rising_min r x b z hz
   intro q
   exact a2 (List.lt_of_le_of_lt (List.not_lt.mp c) q)
theorem sorted_min {L ys : List Str} {y : Str} {r : List Str} (hp : ys.Perm L) (hs : sortedS ys = true) (e : ys = y :: r) : IsMin L y := by
 subst e
 exact ⟨hp.mem_iff.mp List.mem_cons_self, fun z hz => rising_min r y hs z (hp.mem_iff.mpr hz)⟩
def Due3 (A B C : List Str) (m : Str) : Prop := (A ≠ [] ∧ IsMin A m) ∨ (A = [] ∧ B ≠ [] ∧ IsMin B m) ∨ (A = [] ∧ B = [] ∧ C ≠ [] ∧ IsMin C m)
def orderO (ps : List PartE) : List Nat := orderP ps ps.length (List.range ps.length) []
def bndP (ps : List PartE) : List Str := (orderO ps).flatMap (giveK ps)
def leftN (ps : List PartE) (n : Nat) : List Str := (List.range n).flatMap fun i => if i ∈ orderO ps then [] else partK ps i
def looseL (ps : List PartE) (L : List Str) : List Str := L.filter fun x => !decide (x ∈ bndP ps)
def look1 (ps : List PartE) : List Str := looseL ps (leftN ps ps.length)
def look3 (ps : List PartE) : List Str := twB ps ps.length
theorem once_iff {ws : List Str} : ∀ {acc : List Str} {x : Str}, x ∈ onceA acc ws ↔ x ∈ acc ∨ x ∈ ws := addAll_mem
theorem inV_nat (k : Nat) (ns : List Nat) : inV (.int (k : Int)) (natsV ns) = decide (k ∈ ns) := by
 unfold natsV
 induction ns with
 | nil => rfl
 | cons w r ih =>
  unfold inV at ih ⊢
  rw [List.map_cons, List.any_cons, ih]
  by_cases h : k = w
  ·subst h
   simp [eqV]
  ·have h2 : ¬ (k : Int) = (w : Int) := by omega
   simp [eqV, h, h2, Ne.symm h, Ne.symm h2]
theorem flat_nats (ns : List Nat) : (natsV ns).all flatV = true := by
 unfold natsV
 induction ns with
 | nil => rfl
 | cons w r ih => rw [List.map_cons, List.all_cons, ih]; rfl
theorem g_notInN {K : PySem.W.Frag} {H : Hp} {Q : VK} {k : Nat} {p : Addr} {ns : List Nat} (h : SqL K H p (natsV ns)) (q : Q (.bl (!decide (k ∈ ns))) H) : uNotIn K (.int (k : Int)) (.ref p) H Q := ⟨p, natsV ns, rfl, .inl h, rfl, flat_nats ns, by rw [inV_nat]; exact q⟩
def spNeed (K : PySem.W.Frag) (C : Addr) : Sp := fun vs H Q E => ∃ (v1 v2 : V) (as : List ArgE) (ps : List PartE), vs = [v1, v2] ∧ Td K H v1 (argsD as) ∧ argsA as ∧ Td K H v2 (partsDd ps) ∧ partsA ps ∧ ps.length ≤ 7 ∧
 (∀ H', look1 ps = [] → looseL ps (argV as) = [] → look3 ps = [] → Fr [] H H' → Q .non H') ∧
 ∀ m d H', Due3 (look1 ps) (looseL ps (argV as)) (look3 ps) m → Fr [] H H' → H' d = some (.xd [("name", .str m), ("word", .str "loose")]) → E (.ref C) (some d) H'
theorem g_dninV {σ : L2.St} {H : Hp} {Q : VK} {i j : Nat} {z : Str} {p : Addr} {kvs : List (Key × V)} (h1 : σ[i]? = some (some (.str z))) (h2 : σ[j]? = some (some (.ref p))) (h : H p = some (.dK kvs)) (q : Q (.bl (!(valV kvs (Sum.inr z)).isSome)) H) : tDNotIn (tVar i) (tVar j) σ H Q :=
 g_var h1 (g_var h2 ⟨p, _, rfl, DGet.k (k := (Sum.inr z : Key)) h, q⟩)
abbrev s_need_bound : Stmt := topS 13
theorem sc_need_bound : FnScope ["args", "parts", "order", "bound", "left", "names", "loose", "again", "name", "place", "part"] ["args", "parts"] (defScope s_need_bound) := ⟨rfl, rfl, rfl, by decide +kernel, rfl, by decide +kernel, by decide +kernel⟩
section
variable {P : Program} {w : World} {K : PySem.W.Frag} {mg : Str → Option Value} {base : Heap} {a_Loose : Addr}
theorem ok_need_bound {f : Addr} {fd : FuncData} (F : FnP K "need_bound" s_need_bound f fd) (B : BiE mg) (C_ordered : CalG P w K mg base 9 "ordered" (spOrder K)) (C_given_by : CalG P w K mg base 7 "given_by" (spNames1 K PartE.d PartA giveV)) (C_part_variables : CalG P w K mg base 6 "part_variables" (spNames1 K PartE.d PartA partV))
  (C_arg_variables : CalG P w K mg base 7 "arg_variables" (spNames1 K argsD argsA argV)) (C_twice_bound : CalG P w K mg base 9 "twice_bound" (spNames1 K partsDd partsA fun ps => twB ps ps.length))
  (G_Loose : ClG P w K mg base 2 "Loose" a_Loose (spI1 K "loose" "name")) (n1 : PySem.W.findIn K (.ref a_Loose) "word" = some none) (n2 : PySem.W.findIn K (.ref a_Loose) "name" = some none) : FnG P w K mg base (L2.CX P w) 12 f fd ["args", "parts"] (spNeed K a_Loose) := by
 refine okX F sc_need_bound (fun vs H Q E h => ?_) (fun cdv A outer s H vs Q E hr h tk => ?_)
 ·obtain ⟨v1, v2, as, ps, rfl, _⟩ := h
  rfl
 obtain ⟨v1, v2, as, ps, rfl, hv1, ha, hv2, hp, hp7, q, qe⟩ := h
 have hu := hu_of hr.rm
 obtain ⟨r, us, rfl, hr3, ht⟩ := Td.tuple_inv (show Td K H v2 (.tuple (ps.map PartE.d)) from hv2)
 obtain ⟨k1, k2⟩ := tda_get ht
 refine ⟨_, (pss_cons (ps_set (i := 2) sc_need_bound.nd rfl (.inr rfl) (pe_calG C_ordered hr rfl (pa_cons (pv 1) pa_nil)))
 (pss_cons (ps_set (i := 3) sc_need_bound.nd rfl (.inr rfl) (pe_dc2 (own := [("place", 9), ("name", 8)]) (vs1 := [8]) (g := gName 9) (g1 := gName 8) (tt := tYes) (tt1 := tYes) rfl sc_need_bound.nd (pi_listK (K := K) rfl (pv 2)) (blkOk_by (own := [("place", 9), ("name", 8)]) (N := ["args", "parts", "order", "bound", "left", "names", "loose", "again", "name", "place", "part"]) (sc := defScope s_need_bound) (by decide +kernel)) (by decide) (fun _ _ _ _ _ => by exact (pg_name (i := 9) sc_need_bound.nd rfl (by first | exact Or.inl rfl | exact Or.inr rfl))) (fun _ _ _ _ _ => pts_nil) (fun _ _ _ _ _ => by exact (pi_listK (K := K) rfl (pe_calG C_given_by hr rfl (pa_cons (pe_ix (kIx (K := K) (r := rIx) rfl ix_seq) (pv 1) (pv 9) (fun _ _ => rfl)) pa_nil)))) (fun _ _ _ _ _ => by exact (pg_name (i := 8) sc_need_bound.nd rfl (by first | exact Or.inl rfl | exact Or.inr rfl))) (fun _ _ _ _ _ => pts_nil) (fun _ _ _ _ _ => by exact (pv 8)) (fun _ _ _ _ _ => by exact pe_bl)))
 (pss_cons (ps_setLc2 (i := 4) (own := [("place", 9), ("part", 10), ("name", 8)]) (vs1 := [8]) (g := gTup K 2 (gCons (gName 9) (gCons (gName 10) gNil))) (g1 := gName 8) (tt1 := tYes) rfl sc_need_bound.nd rfl rfl (sw_true rfl rfl rfl (by decide +kernel)) (pi_enumT (K := K) rfl (by rfl) B.b_enumerate (pa_cons (pv 1) pa_nil)) (blkOk_by (own := [("place", 9), ("part", 10), ("name", 8)]) (N := ["args", "parts", "order", "bound", "left", "names", "loose", "again", "name", "place", "part"]) (sc := defScope s_need_bound) (by decide +kernel)) (by decide) (fun _ _ _ _ _ => by exact (pg_tupK (K := K) rfl rfl (pgs_cons (pg_name (i := 9) sc_need_bound.nd rfl (by first | exact Or.inl rfl | exact Or.inr rfl)) (pgs_cons (pg_name (i := 10) sc_need_bound.nd rfl (by first | exact Or.inl rfl | exact Or.inr rfl)) pgs_nil)))) (fun _ _ _ _ _ => (by exact pts_one (pt_cmpR (kOp (K := K) (r := uNotIn) rfl opu_notIn) (pv 9) (pv 2) (by rfl)))) (fun _ _ _ _ _ => by exact (pi_listK (K := K) rfl (pe_calG C_part_variables hr rfl (pa_cons (pv 10) pa_nil)))) (fun _ _ _ _ _ => by exact (pg_name (i := 8) sc_need_bound.nd rfl (by first | exact Or.inl rfl | exact Or.inr rfl))) (fun _ _ _ _ _ => pts_nil) (fun _ _ _ _ _ => by exact (pv 8)))
 (pss_cons (ps_for (L2.passes_of rfl) rfl (pi_tupK (K := K) rfl (pe_tup (pa_cons (pv 4) (pa_cons (pe_calG C_arg_variables hr rfl (pa_cons (pv 0) pa_nil)) pa_nil)))) (pg_name (i := 5) sc_need_bound.nd rfl (by first | exact Or.inl rfl | exact Or.inr rfl)) (pss_cons (ps_set (i := 6) sc_need_bound.nd rfl (.inl rfl) (pe_callB (kCall (K := K) (r := rSortedS) rfl cr_sortedS) (by rfl) B.b_sorted (by decide +kernel) (pa_cons (pe_lc (own := [("name", 8)]) (g := gName 8) rfl sc_need_bound.nd (pi_listK (K := K) rfl (pv 5)) (blkOk_by (own := [("name", 8)]) (N := ["args", "parts", "order", "bound", "left", "names", "loose", "again", "name", "place", "part"]) (sc := defScope s_need_bound) (by decide +kernel)) (fun _ _ _ _ _ => (by exact (pg_name (i := 8) sc_need_bound.nd rfl (by first | exact Or.inl rfl | exact Or.inr rfl)))) (fun _ _ _ _ _ => (by exact pts_one (pt_cmp (pc_dnotin hu (pv 8) (pv 3))))) (fun _ _ _ _ _ => (by exact (pv 8)))) pa_nil)))
 (pss_one (ps_if (pt_cmpR (kOp (K := K) (r := uNe) rfl (opu_ne hr.units)) (pv 6) (pe_lst pa_nil) (nomark _)) (pss_one (ps_rs rfl tk (pmk_mkX G_Loose hr rfl (pa_cons (pe_ix (kIx (K := K) (r := rIx) rfl ix_seq) (pv 6) pe_int (fun _ _ => rfl)) pa_nil)))) pss_nil))))
 (pss_cons (ps_set (i := 7) sc_need_bound.nd rfl (.inl rfl) (pe_callB (kCall (K := K) (r := rSortedS) rfl cr_sortedS) (by rfl) B.b_sorted (by decide +kernel) (pa_cons (pe_calG C_twice_bound hr rfl (pa_cons (pv 1) pa_nil)) pa_nil)))
 (pss_one (ps_if (pt_cmpR (kOp (K := K) (r := uNe) rfl (opu_ne hr.units)) (pv 7) (pe_lst pa_nil) (nomark _)) (pss_one (ps_rs rfl tk (pmk_mkX G_Loose hr rfl (pa_cons (pe_ix (kIx (K := K) (r := rIx) rfl ix_seq) (pv 7) pe_int (fun _ _ => rfl)) pa_nil)))) pss_nil))))))), rd_start (σ0 := [some v1, some (.ref r), none, none, none, none, none, none, none, none, none]) rfl ?_⟩
 walk_at "q"
 refine ⟨.ref r, ps, rfl, hv2, hp, fun o H1 e1 hno ho => ?_⟩
 have ho1 : H1 o = some (.lst (natsV (orderO ps))) := ho
 have omem : ∀ k ∈ orderO ps, k < ps.length := fun k hk => List.mem_range.mp (order_mem hk)
 have olen : (orderO ps).length ≤ ps.length := order_len
 have gl : ∀ ks : List Nat, (ks.flatMap (giveK ps)).length ≤ ks.length * 8 := fun ks => by
  induction ks with
  | nil => exact Nat.zero_le _
  | cons k r ih =>
   have := giveK_len hp k
   simp only [List.flatMap_cons, List.length_append, List.length_cons, Nat.succ_mul]
   omega
 have hr1 := e1.tup hr3
 walk_at "q"
 refine ⟨o, rfl, ⟨_, SqL.of ho1⟩, fun D hD => rounds_of (walk_list (xs := natsV (orderO ps))) (fun i H' => Fr [] H1 H' ∧ H' D = some (.dK (kvT (onceA [] (((orderO ps).take i).flatMap (giveK ps)))))) ⟨Fr.new hD, upd_same⟩ (fun i H' _ h => SqL.of (h.1.at ho1 (fun z => nomatch z))) (fun i x H2 H3 hi h y => ?_) (fun H2 h => ?_)⟩
 ·obtain ⟨rfl, hx⟩ := y
  obtain ⟨e2, h2⟩ := h
  obtain ⟨k, hk, rfl⟩ := atI_natsV hx
  have hkl := omem k (List.mem_of_getElem? hk)
  have hku : k < us.length := by omega
  obtain ⟨pk, hpk, htk⟩ := k2 k us[k] (List.getElem?_eq_getElem hku)
  have hkA := hp.2 pk (List.mem_of_getElem? hpk)
  have e12 := e1.trans e2
  have oi : i < (orderO ps).length := (List.getElem?_eq_some_iff.mp hk).1
  have pl := gl ((orderO ps).take i)
  rw [List.length_take] at pl
  have gvl := giveV_len hkA
  walk_at "q"
  refine ⟨rfl, ?_⟩
  walk_at "q"
  refine g_ixT (e2.tup hr1) (atI_nat (List.getElem?_eq_getElem hku)) ?_
  walk_at "q"
  refine ⟨us[k], pk, rfl, htk.fr e12, hkA, fun l H4 e4 hn4 h4 => ?_⟩
  have hD4 := e4.at h2 (fun z => nomatch z)
  have hlD : l ≠ D := fun e => by rw [e, h2] at hn4; cases hn4
  refine ⟨l, rfl, ⟨_, SqL.of h4⟩, rounds_of (walk_list (xs := (giveV pk).map V.str)) (fun j H' => Fr [D] H4 H' ∧ H' D = some (.dK (kvT (onceA [] (((orderO ps).take i).flatMap (giveK ps) ++ (giveV pk).take j))))) ⟨Fr.refl, by rw [List.take_zero, List.append_nil]; exact hD4⟩ (fun j H' _ h => SqL.of (h.1.at h4 (fun z => hlD (List.mem_singleton.mp z)))) (fun j y H5 H6 hj h yy => ?_) (fun H5 h => ?_)⟩
  ·obtain ⟨rfl, hy⟩ := yy
   obtain ⟨e5, h5⟩ := h
   rw [List.getElem?_map] at hy
   cases hq : (giveV pk)[j]? with
   | none => rw [hq] at hy; cases hy
   | some z =>
    rw [hq] at hy
    cases hy
    walk_at "q"
    refine ⟨rfl, ?_⟩
    walk_at "q"
    refine ⟨_, Sum.inr z, rfl, h5, lt_of ?_, e5.trans (Fr.mut (List.mem_singleton.mpr rfl) h5 nofix_dK), ?_⟩
    ·unfold kvT
     rw [List.length_map]
     have := onceA_len (((orderO ps).take i).flatMap (giveK ps) ++ (giveV pk).take j) []
     rw [List.length_append, List.length_take, List.length_nil] at this
     omega
    ·rw [upd_same, putK_T, List.take_succ, hq, ← List.append_assoc]
     show _ = some (HO.dK (kvT (onceA [] ((_ ++ _) ++ [z]))))
     rw [onceA_snoc]
  ·obtain ⟨e5, h5⟩ := h
   rw [List.length_map, List.take_length] at h5
   refine ⟨fr_off (e2.trans e4) e5 hD, ?_⟩
   rw [h5, List.take_succ, hk, List.flatMap_append]
   simp only [Option.toList, List.flatMap_cons, List.flatMap_nil, List.append_nil]
   rw [show giveK ps k = giveV pk by unfold giveK; rw [hpk]]
 ·obtain ⟨e2, hD2⟩ := h
  have hD3 : H2 D = some (.dK (kvT (onceA [] (bndP ps)))) := by
   rw [hD2]
   unfold natsV bndP
   rw [List.length_map, List.take_length]
  have hDH : H D = none := e1.back (fun z => nomatch z) hD
  have ho2 := e2.at ho1 (fun z => nomatch z)
  have e12 := e1.trans e2
  have hr2 := e2.tup hr1
  walk_at "q"
  refine ⟨r, us, rfl, hr2, fun L hL => lc2_out (walk_enumT (xs := us)) (fun k H' => Fr [] H2 H' ∧ H' L = some (.lst ((leftN ps k).map V.str))) ⟨Fr.new hL, upd_same⟩ (fun k H' _ h => h.1.tup hr2) (fun k x' H3 H4 hk h yy => ?_) (fun H3 h => ?_)⟩
  ·obtain ⟨e3, h3⟩ := h
   obtain ⟨Tk, xk, yk, rfl, hTk, rfl, hxk, hyk⟩ := yy
   cases hxk
   obtain ⟨pk, hpk, htk⟩ := k2 k yk hyk
   have hkA := hp.2 pk (List.mem_of_getElem? hpk)
   have e4 : Fr [] H3 (upd H3 Tk (.tup [V.int (k : Nat), yk])) := Fr.new hTk
   have ht4 : SqT K (upd H3 Tk (.tup [V.int (k : Nat), yk])) Tk [.int (k : Nat), yk] := SqT.of upd_same
   generalize upd H3 Tk (.tup [V.int (k : Nat), yk]) = H4 at *
   have e34 := e3.trans e4
   have h4 := e4.at h3 (fun z => nomatch z)
   have ol := flat_range_len (f := fun i => if i ∈ orderO ps then [] else partK ps i) (m := 8) (fun k => by
    split
    ·exact Nat.zero_le _
    ·exact partK_len hp k) k
   have hkl : k < ps.length := by omega
   have stp : leftN ps (k + 1) = leftN ps k ++ if k ∈ orderO ps then [] else partK ps k := by unfold leftN; rw [flat_range]
   walk_at "q"
   refine ⟨rfl, ?_⟩
   walk_at "q"
   refine g_notInN (SqL.of (e34.at ho2 (fun z => nomatch z))) ?_
   walk_at "q"
   refine g_byN (fun c => ?_) (fun c => ?_)
   ·walk_at "q"
    refine ⟨yk, pk, rfl, htk.fr (e12.trans e34), hkA, fun l H5 e5 hn5 h5 => ?_⟩
    have hD5 := e5.at h4 (fun z => nomatch z)
    have hlD : l ≠ L := fun e => by rw [e, h4] at hn5; cases hn5
    have gl := partV_len hkA
    refine ⟨l, rfl, ⟨_, SqL.of h5⟩, lc2_add h5 hD5 hlD (by unfold leftN; omega) (fun _ => rfl) (fun _ => rfl) fun H6 e6 h6 => ⟨fr_off (e34.trans e5) e6 hL, ?_⟩⟩
    rw [stp, if_neg c, show partK ps k = partV pk by unfold partK; rw [hpk]]
    exact h6
   ·exact ⟨e34, by rw [stp, if_pos c, List.append_nil]; exact h4⟩
  ·obtain ⟨e3, hL3⟩ := h
   rw [k1] at hL3
   have e13 := e12.trans e3
   have hD4 := e3.at hD3 (fun z => nomatch z)
   walk_at "q"
   refine ⟨v1, as, rfl, hv1.fr e13, ha, fun A4 H4 e4 hn4 hA4 => ?_⟩
   have hL4 := e4.at hL3 (fun z => nomatch z)
   have hD5 := e4.at hD4 (fun z => nomatch z)
   walk_at "q"
   refine ⟨le_of (by simp), fun pt hpt => ?_⟩
   have e5 : Fr [] H4 (upd H4 pt (.tup [V.ref L, .ref A4])) := Fr.new hpt
   have hpt5 : SqT K (upd H4 pt (.tup [V.ref L, .ref A4])) pt [.ref L, .ref A4] := SqT.of upd_same
   have hL5 := e5.at hL4 (fun z => nomatch z)
   have hA5 := e5.at hA4 (fun z => nomatch z)
   have hD6 := e5.at hD5 (fun z => nomatch z)
   generalize upd H4 pt (.tup [V.ref L, .ref A4]) = H5 at *
   have e15 := (e13.trans e4).trans e5
   have leftl := flat_range_len (f := fun i => if i ∈ orderO ps then [] else partK ps i) (m := 8) (fun k => by
    split
    ·exact Nat.zero_le _
    ·exact partK_len hp k) ps.length
   have argl : (argV as).length ≤ 16 := by
    have l1 := List.length_filterMap_le varA as
    have l2 := List.length_filterMap_le foldA as
    have := ha.1
    unfold argV
    rw [List.length_append]
    omega
   have turn : ∀ (σ6 : L2.St) (H6 : Hp) (M : Addr) (ns : List Str), True := fun _ _ _ _ => trivial
   refine ⟨pt, rfl, ⟨_, hpt5⟩, for_tup (xs := [V.ref L, .ref A4]) (fun i σ H' => (∃ z5 z6, σ = [some v1, some (.ref r), some (.ref o), some (.ref D), some (.ref L), z5, z6, none, none, none, none]) ∧ Fr [] H5 H' ∧ (1 ≤ i → look1 ps = []) ∧ (2 ≤ i → looseL ps (argV as) = [])) ⟨⟨_, _, rfl⟩, Fr.refl, (fun z => absurd z (by decide)), (fun z => absurd z (by decide))⟩ (fun i σ H' _ h => h.2.1.tup hpt5) (fun i x σ H6 hx h => ?_) (fun σ H6 h => ?_)⟩
   ·obtain ⟨⟨z5, z6, rfl⟩, e6, b1, b2⟩ := h
    obtain ⟨M, ns, rfl, hM, hnl, hcase⟩ : ∃ (M : Addr) (ns : List Str), x = .ref M ∧ H5 M = some (.lst (ns.map V.str)) ∧ ns.length < 64 ∧ ((i = 0 ∧ ns = leftN ps ps.length) ∨ (i = 1 ∧ ns = argV as)) := by
     match i, hx with
     | 0, hx =>
      cases hx
      exact ⟨L, _, rfl, hL5, by unfold leftN; omega, .inl ⟨rfl, rfl⟩⟩
     | 1, hx =>
      cases hx
      exact ⟨A4, _, rfl, hA5, by omega, .inr ⟨rfl, rfl⟩⟩
     | i + 2, hx => simp at hx
    have hM6 := e6.at hM (fun z => nomatch z)
    have hD7 := e6.at hD6 (fun z => nomatch z)
    walk_at "q"
    refine ⟨M, rfl, ⟨_, SqL.of hM6⟩, fun D2 hD2 => lc_it (walk_list (xs := ns.map V.str)) (fun j H' => Fr [] H6 H' ∧ H' D2 = some (.lst ((looseL ps (ns.take j)).map V.str))) ⟨Fr.new hD2, upd_same⟩ (fun j H' _ h => SqL.of (h.1.at hM6 (fun z => nomatch z))) (fun j y H7 H8 hj h yy => ?_) (fun H7 h => ?_)⟩
    ·obtain ⟨rfl, hy⟩ := yy
     obtain ⟨e7, h7⟩ := h
     rw [List.getElem?_map] at hy
     cases hq : ns[j]? with
     | none => rw [hq] at hy; cases hy
     | some z =>
      rw [hq] at hy
      cases hy
      have stp : looseL ps (ns.take (j + 1)) = looseL ps (ns.take j) ++ if z ∈ bndP ps then [] else [z] := by
       unfold looseL
       rw [List.take_succ, hq, List.filter_append]
       by_cases c : z ∈ bndP ps <;> simp [c]
      have ll : (looseL ps (ns.take j)).length ≤ j := Nat.le_trans (List.length_filter_le _ _) (by rw [List.length_take]; omega)
      rw [List.length_map] at hj
      walk_at "q"
      refine ⟨rfl, ?_⟩
      walk_at "q"
      refine g_dninV rfl rfl (e7.at hD7 (fun z => nomatch z)) ?_
      rw [kvT_val]
      have ki : decide (z ∈ onceA [] (bndP ps)) = decide (z ∈ bndP ps) := decide_eq_decide.mpr (by rw [once_iff]; simp)
      rw [ki]
      walk_at "q"
      refine g_byN (fun c => ?_) (fun c => ?_)
      ·walk_at "q"
       refine ⟨_, h7, lt_of (by rw [List.length_map]; omega), e7.over hD2, ?_⟩
       rw [upd_same, stp, if_neg c, List.map_append]
       rfl
      ·exact ⟨e7, by rw [stp, if_pos c, List.append_nil]; exact h7⟩
    ·obtain ⟨e7, h7⟩ := h
     rw [List.length_map, List.take_length] at h7
     have ll : (looseL ps ns).length ≤ ns.length := List.length_filter_le _ _
     walk_at "q"
     refine ⟨D2, looseL ps ns, rfl, SqL.of h7, by omega, fun ys p8 hperm hsort hp8 => ?_⟩
     have e8 : Fr [] H7 (upd H7 p8 (.lst (ys.map V.str))) := Fr.new hp8
     have h8 : (upd H7 p8 (.lst (ys.map V.str))) p8 = some (.lst (ys.map V.str)) := upd_same
     generalize upd H7 p8 (.lst (ys.map V.str)) = H8 at *
     walk_at "q"
     refine ⟨le_of (by simp), fun p9 hp9 => ?_⟩
     have e9 : Fr [] H8 (upd H8 p9 (.lst [])) := Fr.new hp9
     have h9 : (upd H8 p9 (.lst [])) p9 = some (.lst []) := upd_same
     have h89 := e9.at h8 (fun z => nomatch z)
     generalize upd H8 p9 (.lst []) = H9 at *
     have e69 := (e7.trans e8).trans e9
     refine g_neEL (SqL.of h89) (SqL.of h9) ?_
     cases hys : ys with
     | nil =>
      have hnil : looseL ps ns = [] := by
       rw [hys] at hperm
       exact List.nil_perm.mp hperm
      walk_at "q"
      refine ⟨⟨_, _, rfl⟩, e6.trans e69, fun _ => ?_, fun h2 => ?_⟩
      ·rcases hcase with ⟨rfl, rfl⟩ | ⟨rfl, rfl⟩
       ·exact hnil
       ·exact b1 (Nat.le_refl _)
      ·rcases hcase with ⟨rfl, rfl⟩ | ⟨rfl, rfl⟩
       ·omega
       ·exact hnil
     | cons y0 yr =>
      rw [hys] at h89
      have hmin := sorted_min hperm hsort hys
      have hne : looseL ps ns ≠ [] := fun e => by rw [e] at hmin; exact absurd hmin.1 (fun z => nomatch z)
      walk_at "q"
      refine g_tt rfl ?_
      walk_at "q"
      refine g_ixL (SqL.of h89) (atI_nat (j := 0) rfl) ?_
      walk_at "q"
      refine mkX_I1 G_Loose.ec n1 n2 fun d H' fr e => qe y0 d H' ?_ (((e15.trans e6).trans e69).trans fr) e
      rcases hcase with ⟨rfl, rfl⟩ | ⟨rfl, rfl⟩
      ·exact .inl ⟨hne, hmin⟩
      ·exact .inr (.inl ⟨b1 (Nat.le_refl _), hne, hmin⟩)
   ·obtain ⟨⟨z5, z6, rfl⟩, e6, b1, b2⟩ := h
    have c1 := b1 (by simp)
    have c2 := b2 (by simp)
    have e16 := e15.trans e6
    walk_at "q"
    refine ⟨.ref r, ps, rfl, hv2.fr e16, hp, fun W H7 e7 hn7 h7 => ?_⟩
    have twl := flat_range_len (f := twK ps) (twK_len ps) ps.length
    refine ⟨W, twB ps ps.length, rfl, SqL.of h7, by unfold twB; omega, fun ys p8 hperm hsort hp8 => ?_⟩
    have e8 : Fr [] H7 (upd H7 p8 (.lst (ys.map V.str))) := Fr.new hp8
    have h8 : (upd H7 p8 (.lst (ys.map V.str))) p8 = some (.lst (ys.map V.str)) := upd_same
    generalize upd H7 p8 (.lst (ys.map V.str)) = H8 at *
    walk_at "q"
    refine ⟨le_of (by simp), fun p9 hp9 => ?_⟩
    have e9 : Fr [] H8 (upd H8 p9 (.lst [])) := Fr.new hp9
    have h9 : (upd H8 p9 (.lst [])) p9 = some (.lst []) := upd_same
    have h89 := e9.at h8 (fun z => nomatch z)
    generalize upd H8 p9 (.lst []) = H9 at *
    have e19 := ((e16.trans e7).trans e8).trans e9
    refine g_neEL (SqL.of h89) (SqL.of h9) ?_
    cases hys : ys with
    | nil =>
     have hnil : look3 ps = [] := by
      rw [hys] at hperm
      exact List.nil_perm.mp hperm
     walk_at "q"
     exact q _ c1 c2 hnil e19
    | cons y0 yr =>
     rw [hys] at h89
     have hmin := sorted_min hperm hsort hys
     have hne : look3 ps ≠ [] := fun e => by
      have z := hmin.1
      rw [show twB ps ps.length = [] from e] at z
      exact absurd z (fun z => nomatch z)
     walk_at "q"
     refine g_tt rfl ?_
     walk_at "q"
     refine g_ixL (SqL.of h89) (atI_nat (j := 0) rfl) ?_
     walk_at "q"
     refine mkX_I1 G_Loose.ec n1 n2 fun d H' fr e => qe y0 d H' (.inr (.inr ⟨c1, c2, hne, hmin⟩)) (e19.trans fr) e
end
abbrev s__law_loose_due : Stmt := topS 28
theorem sc__law_loose_due : FnScope ["_law_args", "_law_parts", "_law_taken", "_law_bound", "_law_k", "_law_left", "_law_in_args", "_law_again", "_law_others", "_law_j", "_law_names", "_law_arg", "_law_name"] ["_law_args", "_law_parts"] (defScope s__law_loose_due) := ⟨rfl, rfl, rfl, by decide +kernel, rfl, by decide +kernel, by decide +kernel⟩
def Due4 (A B C : List Str) (m : Str) : Prop := (A = [] ∧ B = [] ∧ C = [] ∧ m = "") ∨ Due3 A B C m
def spDue (K : PySem.W.Frag) : Sp := fun vs H Q _ => ∃ (ra rp : Addr) (uas us : List V) (as : List ArgE) (ps : List PartE), vs = [.ref ra, .ref rp] ∧ H ra = some (.lst uas) ∧ TdAll K H uas (as.map ArgE.d) ∧ argsA as ∧ H rp = some (.lst us) ∧ TdAll K H us (ps.map PartE.d) ∧ partsA ps ∧ ps.length ≤ 7 ∧
 ∀ m H', Due4 (look1 ps) (looseL ps (as.filterMap lastA)) (look3 ps) m → Fr [] H H' → Q (.str m) H'
theorem rep_int (b : Bool) (xs : List V) : (List.replicate (if b then (1 : Int) else 0).toNat xs).flatten = if b then xs else [] := by
 cases b
 ·rfl
 ·show ([xs].flatten) = xs
  simp
theorem lc_notin {K : PySem.W.Frag} {l bl : Addr} {zs bs : List Str} {k j : Nat} {σ : L2.St} {H1 : Hp} {D : Addr} {Qd : Hp → Prop} (hl : H1 l = some (.lst (zs.map V.str))) (hb : H1 bl = some (.lst (bs.map V.str))) (hz : zs.length ≤ 9000) (hD : H1 D = none)
  (hw : ∀ x, wipe ((wipe σ [k]).set k (some x)) [k] = wipe σ [k]) (hv : ∀ x, ((wipe σ [k]).set k (some x))[k]? = some (some x)) (hj : ∀ x, ((wipe σ [k]).set k (some x))[j]? = some (some (.ref bl)))
  (fin : ∀ H', Fr [] H1 H' → H' D = some (.lst ((zs.filter fun x => !decide (x ∈ bs)).map V.str)) → Qd H') :
  ∃ W : Nat → Nat → Hp → Prop, (∃ m, W 0 m (upd H1 D (.lst []))) ∧ ∀ i m H, W i m H →
   ((Itl K l).stop i H ∧ Qd H) ∨ ((Itl K l).go i H ∧ ∃ Nx : Hp → Prop, (∀ H', Nx H' → ∃ m', m' < m ∧ W (i + 1) m' H') ∧ ∀ x H', (Itl K l).yld i H x H' → gName k x (wipe σ [k]) H' fun σ2 H2 => wipe σ2 [k] = wipe σ [k] ∧ tTest (tOp (uNotIn K) (tVar k) (tVar j)) σ2 H2 fun b H3 =>
    if b = true then tVar k σ2 H3 fun y H4 => ∃ acc, H4 D = some (.lst acc) ∧ acc.length < sizeLine ∧ Nx (upd H4 D (.lst (acc ++ [y]))) else Nx H3) := by
 refine lc_it (walk_list (xs := zs.map V.str)) (fun i H' => Fr [] H1 H' ∧ H' D = some (.lst (((zs.take i).filter fun x => !decide (x ∈ bs)).map V.str))) ⟨Fr.new hD, upd_same⟩ (fun i H' _ h => SqL.of (h.1.at hl (fun z => nomatch z))) (fun i y H7 H8 hi h yy => ?_) (fun H' h => ?_)
 ·obtain ⟨rfl, hy⟩ := yy
  obtain ⟨e7, h7⟩ := h
  rw [List.getElem?_map] at hy
  cases hq : zs[i]? with
  | none => rw [hq] at hy; cases hy
  | some z =>
   rw [hq] at hy
   cases hy
   have ll : ((zs.take i).filter fun x => !decide (x ∈ bs)).length ≤ zs.length := Nat.le_trans (List.length_filter_le _ _) (by rw [List.length_take]; omega)
   have stp : ((zs.take (i + 1)).filter fun x => !decide (x ∈ bs)) = ((zs.take i).filter fun x => !decide (x ∈ bs)) ++ if z ∈ bs then [] else [z] := by
    rw [List.take_succ, hq, List.filter_append]
    by_cases c : z ∈ bs <;> simp [c]
   refine g_name ⟨hw _, g_test (g_op (g_var (hv _) (g_var (hj _) (g_notInT (.inl (SqL.of (e7.at hb (fun z => nomatch z)))) (flat_strs _) ?_))))⟩
   rw [inV_str]
   refine g_k ?_
   refine g_byN (fun c => ?_) (fun c => ?_)
   ·refine g_var (hv _) ⟨_, h7, lt_of (by rw [List.length_map]; omega), e7.over hD, ?_⟩
    rw [upd_same, stp, if_neg c, List.map_append]
    rfl
   ·exact ⟨e7, by rw [stp, if_pos c, List.append_nil]; exact h7⟩
 ·obtain ⟨e7, h7⟩ := h
  rw [List.length_map, List.take_length] at h7
  exact fin H' e7 h7
section
variable {P : Program} {w : World} {K : PySem.W.Frag} {mg : Str → Option Value} {base : Heap}
theorem ok__law_loose_due {f : Addr} {fd : FuncData} (F : FnP K "_law_loose_due" s__law_loose_due f fd) (B : BiE mg) (C__law_order : CalG P w K mg base 9 "_law_order" (spOrderL K)) (C__law_gives : CalG P w K mg base 7 "_law_gives" (spNames1 K PartE.d PartA giveV)) (C__law_part_vars : CalG P w K mg base 6 "_law_part_vars" (spNames1 K PartE.d PartA partV)) :
  FnG P w K mg base CX0 11 f fd ["_law_args", "_law_parts"] (spDue K) := by
 refine okG F sc__law_loose_due (fun vs H Q E h => ?_) (fun cdv A outer s H vs Q E hr h => ?_)
 ·obtain ⟨ra, rp, uas, us, as, ps, rfl, _⟩ := h
  rfl
 obtain ⟨ra, rp, uas, us, as, ps, rfl, hra, hta, ha, hrp, ht, hp, hp7, q⟩ := h
 have q0 : ∀ H', look1 ps = [] → looseL ps (as.filterMap lastA) = [] → look3 ps = [] → Fr [] H H' → Q (.str "") H' := fun H' a b c e => q "" H' (.inl ⟨a, b, c, rfl⟩) e
 have q1 : ∀ m H', Due3 (look1 ps) (looseL ps (as.filterMap lastA)) (look3 ps) m → Fr [] H H' → Q (.str m) H' := fun m H' a e => q m H' (.inr a) e
 obtain ⟨k1, k2⟩ := tda_get ht
 refine ⟨_, PSs.nox (pss_cons (ps_set (i := 2) sc__law_loose_due.nd rfl (.inl rfl) (pe_calG C__law_order hr rfl (pa_cons (pv 1) pa_nil)))
 (pss_cons (ps_set (i := 3) sc__law_loose_due.nd rfl (.inr rfl) (pe_lst pa_nil))
 (pss_cons (ps_for PassesOwn.never rfl (pi_listK (K := K) rfl (pv 2)) (pg_name (i := 4) sc__law_loose_due.nd rfl (by first | exact Or.inl rfl | exact Or.inr rfl)) (pss_one (ps_set (i := 3) sc__law_loose_due.nd rfl (.inr rfl) (pe_op (kOp (K := K) (r := uAdd) rfl opu_add) (pv 3) (pe_calG C__law_gives hr rfl (pa_cons (pe_ix (kIx (K := K) (r := rIx) rfl ix_seq) (pv 1) (pv 4) (fun _ _ => rfl)) pa_nil))))))
 (pss_cons (ps_set (i := 5) sc__law_loose_due.nd rfl (.inl rfl) (pe_lst pa_nil))
 (pss_cons (ps_for PassesOwn.never rfl (pi_range1 rfl B.b_range (pa_cons (pe_callB (kCall (K := K) (r := uLen) rfl callu_len) (by rfl) B.b_len (by decide +kernel) (pa_cons (pv 1) pa_nil)) pa_nil)) (pg_name (i := 4) sc__law_loose_due.nd rfl (by first | exact Or.inl rfl | exact Or.inr rfl)) (pss_one (ps_set (i := 5) sc__law_loose_due.nd rfl (.inl rfl) (pe_op (kOp (K := K) (r := uAdd) rfl opu_add) (pv 5) (pe_op opu_mul (pe_calG C__law_part_vars hr rfl (pa_cons (pe_ix (kIx (K := K) (r := rIx) rfl ix_seq) (pv 1) (pv 4) (fun _ _ => rfl)) pa_nil)) (pe_callTy callu_int (by rfl) B.b_int (by decide +kernel) (pa_cons (pe_cmpR (kOp (K := K) (r := uNotIn) rfl opu_notIn) (pv 4) (pv 2) (by rfl)) pa_nil)))))))
 (pss_cons (ps_setLc (i := 6) (own := [("_law_arg", 11)]) (g := gName 11) rfl sc__law_loose_due.nd rfl rfl (sw_true rfl rfl rfl (by decide +kernel)) (pi_listK (K := K) rfl (pv 0)) (blkOk_by (own := [("_law_arg", 11)]) (N := ["_law_args", "_law_parts", "_law_taken", "_law_bound", "_law_k", "_law_left", "_law_in_args", "_law_again", "_law_others", "_law_j", "_law_names", "_law_arg", "_law_name"]) (sc := defScope s__law_loose_due) (by decide +kernel)) (fun _ _ _ _ _ => (by exact (pg_name (i := 11) sc__law_loose_due.nd rfl (by first | exact Or.inl rfl | exact Or.inr rfl)))) (fun _ _ _ _ _ => (by exact pts_one (PW.pt (pw_and (pt_cmpR (kOp (K := K) (r := uNe) rfl (opu_ne hr.units)) (pe_ix (kIx (K := K) (r := rIx) rfl ix_seq) (pv 11) pe_int (fun _ _ => rfl)) pe_str (nomark _)) (pw_and1 (pt_cmpR opu_isNot (pe_ix (kIx (K := K) (r := rIx) rfl ix_seq) (pv 11) (pe_op opu_sub (pe_callB (kCall (K := K) (r := uLen) rfl callu_len) (by rfl) B.b_len (by decide +kernel) (pa_cons (pv 11) pa_nil)) pe_int) (fun _ _ => rfl)) pe_non (nomark _))))))) (fun _ _ _ _ _ => (by exact (pe_ix (kIx (K := K) (r := rIx) rfl ix_seq) (pv 11) (pe_op opu_sub (pe_callB (kCall (K := K) (r := uLen) rfl callu_len) (by rfl) B.b_len (by decide +kernel) (pa_cons (pv 11) pa_nil)) pe_int) (fun _ _ => rfl)))))
 (pss_cons (ps_set (i := 7) sc__law_loose_due.nd rfl (.inl rfl) (pe_lst pa_nil))
 (pss_cons (ps_for PassesOwn.never rfl (pi_range1 rfl B.b_range (pa_cons (pe_callB (kCall (K := K) (r := uLen) rfl callu_len) (by rfl) B.b_len (by decide +kernel) (pa_cons (pv 1) pa_nil)) pa_nil)) (pg_name (i := 4) sc__law_loose_due.nd rfl (by first | exact Or.inl rfl | exact Or.inr rfl)) (pss_cons (ps_set (i := 8) sc__law_loose_due.nd rfl (.inl rfl) (pe_lst pa_nil))
 (pss_cons (ps_for PassesOwn.never rfl (pi_range1 rfl B.b_range (pa_cons (pe_callB (kCall (K := K) (r := uLen) rfl callu_len) (by rfl) B.b_len (by decide +kernel) (pa_cons (pv 1) pa_nil)) pa_nil)) (pg_name (i := 9) sc__law_loose_due.nd rfl (by first | exact Or.inl rfl | exact Or.inr rfl)) (pss_one (ps_set (i := 8) sc__law_loose_due.nd rfl (.inl rfl) (pe_op (kOp (K := K) (r := uAdd) rfl opu_add) (pv 8) (pe_op opu_mul (pe_calG C__law_gives hr rfl (pa_cons (pe_ix (kIx (K := K) (r := rIx) rfl ix_seq) (pv 1) (pv 9) (fun _ _ => rfl)) pa_nil)) (pe_callTy callu_int (by rfl) B.b_int (by decide +kernel) (pa_cons (pe_cmpR (kOp (K := K) (r := uNe) rfl (opu_ne hr.units)) (pv 9) (pv 4) (nomark _)) pa_nil)))))))
 (pss_one (ps_if (PW.pt (pw_and (pt_cmpR (kOp (K := K) (r := uEq) rfl (opu_eq hr.units)) (pe_ix (kIx (K := K) (r := rIx) rfl ix_seq) (pe_ix (kIx (K := K) (r := rIx) rfl ix_seq) (pv 1) (pv 4) (fun _ _ => rfl)) pe_int (fun _ _ => rfl)) pe_str (nomark _)) (pw_and1 (pt_cmpR (kOp (K := K) (r := uIn) rfl opu_in) (pe_ix (kIx (K := K) (r := rIx) rfl ix_seq) (pe_ix (kIx (K := K) (r := rIx) rfl ix_seq) (pv 1) (pv 4) (fun _ _ => rfl)) pe_int (fun _ _ => rfl)) (pv 8) (by rfl))))) (pss_one (ps_expr (kBM (K := K) rfl (pe_bm PySem.F.plainAttrs_list PySem.F.slot_list_append PySem.F.type_list_append mt_append (pv 7) (pa_cons (pe_ix (kIx (K := K) (r := rIx) rfl ix_seq) (pe_ix (kIx (K := K) (r := rIx) rfl ix_seq) (pv 1) (pv 4) (fun _ _ => rfl)) pe_int (fun _ _ => rfl)) pa_nil))))) pss_nil)))))
 (pss_cons (ps_for PassesOwn.never rfl (pi_tupK (K := K) rfl (pe_tup (pa_cons (pe_lc (own := [("_law_name", 12)]) (g := gName 12) rfl sc__law_loose_due.nd (pi_listK (K := K) rfl (pv 5)) (blkOk_by (own := [("_law_name", 12)]) (N := ["_law_args", "_law_parts", "_law_taken", "_law_bound", "_law_k", "_law_left", "_law_in_args", "_law_again", "_law_others", "_law_j", "_law_names", "_law_arg", "_law_name"]) (sc := defScope s__law_loose_due) (by decide +kernel)) (fun _ _ _ _ _ => (by exact (pg_name (i := 12) sc__law_loose_due.nd rfl (by first | exact Or.inl rfl | exact Or.inr rfl)))) (fun _ _ _ _ _ => (by exact pts_one (pt_cmpR (kOp (K := K) (r := uNotIn) rfl opu_notIn) (pv 12) (pv 3) (by rfl)))) (fun _ _ _ _ _ => (by exact (pv 12)))) (pa_cons (pe_lc (own := [("_law_name", 12)]) (g := gName 12) rfl sc__law_loose_due.nd (pi_listK (K := K) rfl (pv 6)) (blkOk_by (own := [("_law_name", 12)]) (N := ["_law_args", "_law_parts", "_law_taken", "_law_bound", "_law_k", "_law_left", "_law_in_args", "_law_again", "_law_others", "_law_j", "_law_names", "_law_arg", "_law_name"]) (sc := defScope s__law_loose_due) (by decide +kernel)) (fun _ _ _ _ _ => (by exact (pg_name (i := 12) sc__law_loose_due.nd rfl (by first | exact Or.inl rfl | exact Or.inr rfl)))) (fun _ _ _ _ _ => (by exact pts_one (pt_cmpR (kOp (K := K) (r := uNotIn) rfl opu_notIn) (pv 12) (pv 3) (by rfl)))) (fun _ _ _ _ _ => (by exact (pv 12)))) (pa_cons (pv 7) pa_nil))))) (pg_name (i := 10) sc__law_loose_due.nd rfl (by first | exact Or.inl rfl | exact Or.inr rfl)) (pss_one (ps_if (pt_cmpR (kOp (K := K) (r := uNe) rfl (opu_ne hr.units)) (pv 10) (pe_lst pa_nil) (nomark _)) (pss_one (ps_ret (pe_callB (kCall (K := K) (r := rMinS) rfl (cr_minS rfl hr.units)) (by rfl) B.b_min (by decide +kernel) (pa_cons (pv 10) pa_nil)))) pss_nil)))
 (pss_one (ps_ret pe_str))))))))))), rd_start (σ0 := [some (.ref ra), some (.ref rp), none, none, none, none, none, none, none, none, none, none, none]) rfl ?_⟩
 have part : ∀ (H' : Hp) (k : Nat), Fr [] H H' → k < ps.length → ∃ p y, ps[k]? = some p ∧ atI us (k : Int) = some y ∧ Td K H' y p.d ∧ PartA p := fun H' k e hk => by
  have hku : k < us.length := by omega
  obtain ⟨p, hpp, htd⟩ := k2 k us[k] (List.getElem?_eq_getElem hku)
  exact ⟨p, us[k], hpp, atI_nat (List.getElem?_eq_getElem hku), htd.fr e, hp.2 p (List.mem_of_getElem? hpp)⟩
 have rpat : ∀ H', Fr [] H H' → SqL K H' rp us := fun H' e => SqL.of (e.at hrp (fun z => nomatch z))
 walk_at "q"
 refine ⟨rp, us, ps, rfl, hrp, ht, hp, fun o H1 e1 hno ho => ?_⟩
 have ho1 : H1 o = some (.lst (natsV (orderO ps))) := ho
 have omem : ∀ k ∈ orderO ps, k < ps.length := fun k hk => List.mem_range.mp (order_mem hk)
 have olen : (orderO ps).length ≤ ps.length := order_len
 have gl : ∀ ks : List Nat, (ks.flatMap (giveK ps)).length ≤ ks.length * 8 := fun ks => by
  induction ks with
  | nil => exact Nat.zero_le _
  | cons k r ih =>
   have := giveK_len hp k
   simp only [List.flatMap_cons, List.length_append, List.length_cons, Nat.succ_mul]
   omega
 walk_at "q"
 refine ⟨le_of (by simp), fun b0 hb0 => ?_⟩
 have e2 : Fr [] H1 (upd H1 b0 (.lst [])) := Fr.new hb0
 have hb2 : (upd H1 b0 (.lst [])) b0 = some (.lst ((([] : List Nat).flatMap (giveK ps)).map V.str)) := upd_same
 have ho2 := e2.at ho1 (fun z => nomatch z)
 have E2 := e1.trans e2
 generalize upd H1 b0 (.lst []) = H2 at *
 walk_at "q"
 refine ⟨o, rfl, ⟨_, SqL.of ho2⟩, for_list (xs := natsV (orderO ps)) (fun i σ H' => (∃ b z4, σ = [some (.ref ra), some (.ref rp), some (.ref o), some (.ref b), z4, none, none, none, none, none, none, none, none] ∧ H' b = some (.lst ((((orderO ps).take i).flatMap (giveK ps)).map V.str))) ∧ Fr [] H2 H') ⟨⟨b0, _, rfl, hb2⟩, Fr.refl⟩ (fun i σ H' _ h => SqL.of (h.2.at ho2 (fun z => nomatch z))) (fun i x σ H3 hx h => ?_) (fun σ H3 h => ?_)⟩
 ·obtain ⟨⟨b, z4, rfl, hb⟩, e3⟩ := h
  obtain ⟨k, hk, rfl⟩ := atI_natsV hx
  obtain ⟨p, y, hpp, hy, htd, hpA⟩ := part H3 k (E2.trans e3) (omem k (List.mem_of_getElem? hk))
  have pl := gl ((orderO ps).take i)
  rw [List.length_take] at pl
  have gv := giveV_len hpA
  walk_at "q"
  refine g_ixL (rpat H3 (E2.trans e3)) hy ?_
  walk_at "q"
  refine ⟨y, p, rfl, htd, hpA, fun l H4 e4 _ h4 => ?_⟩
  refine g_addL (e4.at hb (fun z => nomatch z)) h4 (le_of (by rw [List.length_map, List.length_map]; omega)) fun b2 hb2 => ?_
  walk_at "q"
  refine ⟨⟨b2, _, rfl, ?_⟩, (e3.trans e4).trans (Fr.new hb2)⟩
  rw [upd_same, ← List.map_append, List.take_succ, hk, List.flatMap_append]
  simp only [Option.toList, List.flatMap_cons, List.flatMap_nil, List.append_nil]
  rw [show giveK ps k = giveV p by unfold giveK; rw [hpp]]
 ·obtain ⟨⟨b, z4, rfl, hb⟩, e3⟩ := h
  have hb3 : H3 b = some (.lst ((bndP ps).map V.str)) := by
   rw [hb]
   unfold natsV bndP
   rw [List.length_map, List.take_length]
  have ho3 := e3.at ho2 (fun z => nomatch z)
  have E3 := E2.trans e3
  walk_at "q"
  refine ⟨le_of (by simp), fun l0 hl0 => ?_⟩
  have e4 : Fr [] H3 (upd H3 l0 (.lst [])) := Fr.new hl0
  have hl4 : (upd H3 l0 (.lst [])) l0 = some (.lst ((leftN ps 0).map V.str)) := upd_same
  have ho4 := e4.at ho3 (fun z => nomatch z)
  have hb4 := e4.at hb3 (fun z => nomatch z)
  have E4 := E3.trans e4
  generalize upd H3 l0 (.lst []) = H4 at *
  have hrp4 := E4.at hrp (fun z => nomatch z)
  walk_at "q"
  rw [k1]
  refine ⟨_, rfl, by omega, by omega, for_range (lo := 0) (n := ps.length) (fun k σ H' => (∃ l z4, σ = [some (.ref ra), some (.ref rp), some (.ref o), some (.ref b), z4, some (.ref l), none, none, none, none, none, none, none] ∧ H' l = some (.lst ((leftN ps k).map V.str))) ∧ Fr [] H4 H') ⟨⟨l0, _, rfl, hl4⟩, Fr.refl⟩ (fun k σ H5 hk h => ?_) (fun σ H5 h => ?_)⟩
  ·obtain ⟨⟨l, z4, rfl, hl⟩, e5⟩ := h
   have E5 := E4.trans e5
   obtain ⟨p, y, hpp, hy, htd, hpA⟩ := part H5 k E5 hk
   have pv := partV_len hpA
   have ll := flat_range_len (f := fun i => if i ∈ orderO ps then [] else partK ps i) (m := 8) (fun k => by
    split
    ·exact Nat.zero_le _
    ·exact partK_len hp k) k
   have stp : leftN ps (k + 1) = leftN ps k ++ if k ∈ orderO ps then [] else partK ps k := by unfold leftN; rw [flat_range]
   simp only [Int.zero_add]
   walk_at "q"
   refine g_ixL (rpat H5 E5) hy ?_
   walk_at "q"
   refine ⟨y, p, rfl, htd, hpA, fun l1 H6 e6 _ h6 => ?_⟩
   walk_at "q"
   refine g_notInN (SqL.of (e6.at (e5.at ho4 (fun z => nomatch z)) (fun z => nomatch z))) ?_
   walk_at "q"
   refine g_intB ?_
   have rb : ((partV p).map V.str).length * (if (!decide (k ∈ orderO ps)) = true then (1 : Int) else 0).toNat ≤ sizeLine := by
    rw [List.length_map]
    split
    ·show (partV p).length * 1 ≤ sizeLine
     exact le_of (by omega)
    ·exact Nat.zero_le _
   refine g_repL h6 (by split <;> decide) (by split <;> decide) rb fun l2 hl2 => ?_
   rw [rep_int]
   have e7 : Fr [] H6 (upd H6 l2 (.lst (if (!decide (k ∈ orderO ps)) = true then (partV p).map V.str else []))) := Fr.new hl2
   have h7 : (upd H6 l2 (.lst (if (!decide (k ∈ orderO ps)) = true then (partV p).map V.str else []))) l2 = some (.lst ((if k ∈ orderO ps then [] else partK ps k).map V.str)) := by
    rw [upd_same, show partK ps k = partV p by unfold partK; rw [hpp]]
    by_cases c : k ∈ orderO ps <;> simp [c]
   generalize upd H6 l2 (.lst (if (!decide (k ∈ orderO ps)) = true then (partV p).map V.str else [])) = H7 at *
   have il : (if k ∈ orderO ps then [] else partK ps k).length ≤ 8 := by
    split
    ·exact Nat.zero_le _
    ·exact partK_len hp k
   refine g_addL ((e6.trans e7).at hl (fun z => nomatch z)) h7 (le_of (by rw [List.length_map, List.length_map]; unfold leftN; omega)) fun l3 hl3 => ?_
   walk_at "q"
   refine ⟨⟨l3, _, rfl, ?_⟩, ((e5.trans e6).trans e7).trans (Fr.new hl3)⟩
   rw [upd_same, ← List.map_append, stp]
  ·obtain ⟨⟨l, z4, rfl, hl⟩, e5⟩ := h
   have E5 := E4.trans e5
   have hb5 := e5.at hb4 (fun z => nomatch z)
   have hra5 := E5.at hra (fun z => nomatch z)
   have hta5 := hta.fr E5
   have al := (tda_get hta).1
   walk_at "q"
   refine ⟨ra, rfl, ⟨_, SqL.of hra5⟩, fun D hD => lc_fm (T := lastA) (walk_list (xs := uas)) (fun H' e => SqL.of (e.at hra5 (fun z => nomatch z))) rfl hta5 (by have := ha.1; omega) hD (fun x c H' A B hc htd e kA kB => ?_) (fun H6 e6 h6 => ?_)⟩
   ·walk_at "q"
    refine ⟨rfl, ?_⟩
    rcases arg_cases (ha.2 c hc) htd with ⟨p, u, rfl, hp, hu, rfl⟩ | ⟨p, x, rfl, hp, hx, rfl⟩ | ⟨p, w, rfl, hp, rfl⟩ | ⟨p, w, x, rfl, hp, hx, rfl⟩
    ·walk_at "q"
     exact kB rfl
    ·walk_at "q"
     refine g_tt (by rw [decide_eq_false (fun z => nomatch z)]; rfl) ?_
     walk_at "q"
     exact kA _ rfl
    ·walk_at "q"
     exact kB rfl
    ·walk_at "q"
     refine g_tt (by rw [decide_eq_false (fun z => nomatch z)]; rfl) ?_
     walk_at "q"
     exact kA _ rfl
   ·have hb6 := e6.at hb5 (fun z => nomatch z)
    have hl6 : H6 l = some (.lst ((leftN ps ps.length).map V.str)) := e6.at hl (fun z => nomatch z)
    have E6 := E5.trans e6
    walk_at "q"
    refine ⟨le_of (by simp), fun g0 hg0 => ?_⟩
    have e7 : Fr [] H6 (upd H6 g0 (.lst [])) := Fr.new hg0
    have hg7 : (upd H6 g0 (.lst [])) g0 = some (.lst ((twB ps 0).map V.str)) := upd_same
    have hb7 := e7.at hb6 (fun z => nomatch z)
    have hl7 := e7.at hl6 (fun z => nomatch z)
    have hi7 := e7.at h6 (fun z => nomatch z)
    have E7 := E6.trans e7
    generalize upd H6 g0 (.lst []) = H7 at *
    have hrp7 := E7.at hrp (fun z => nomatch z)
    have g0b : g0 ≠ b := fun e => by rw [e, hb6] at hg0; cases hg0
    have g0l : g0 ≠ l := fun e => by rw [e, hl6] at hg0; cases hg0
    have g0D : g0 ≠ D := fun e => by rw [e, h6] at hg0; cases hg0
    have hg0H : H g0 = none := E6.back (fun z => nomatch z) hg0
    walk_at "q"
    rw [k1]
    refine ⟨_, rfl, by omega, by omega, for_range (lo := 0) (n := ps.length) (fun k σ H' => (∃ z4 z8 z9, σ = [some (.ref ra), some (.ref rp), some (.ref o), some (.ref b), z4, some (.ref l), some (.ref D), some (.ref g0), z8, z9, none, none, none]) ∧ Fr [g0] H7 H' ∧ H' g0 = some (.lst ((twB ps k).map V.str))) ⟨⟨_, _, _, rfl⟩, Fr.refl, hg7⟩ (fun k σ H8 hk h => ?_) (fun σ H8 h => ?_)⟩
    ·obtain ⟨⟨z4, z8, z9, rfl⟩, e8, h8⟩ := h
     have E8 : Fr [] H H8 := fr_off E7 e8 hg0H
     obtain ⟨p, y, hpp, hy, htd, hpA⟩ := part H8 k E8 hk
     have hrp8 := E8.at hrp (fun z => nomatch z)
     simp only [Int.zero_add]
     walk_at "q"
     refine ⟨le_of (by simp), fun t0 ht0 => ?_⟩
     have e9 : Fr [] H8 (upd H8 t0 (.lst [])) := Fr.new ht0
     have ht9 : (upd H8 t0 (.lst [])) t0 = some (.lst ((othersP ps k 0).map V.str)) := upd_same
     have h9 := e9.at h8 (fun z => nomatch z)
     generalize upd H8 t0 (.lst []) = H9 at *
     have E9 := E8.trans e9
     have hrp9 := E9.at hrp (fun z => nomatch z)
     walk_at "q"
     rw [k1]
     refine ⟨_, rfl, by omega, by omega, for_range (lo := 0) (n := ps.length) (fun j σ H' => (∃ t z9, σ = [some (.ref ra), some (.ref rp), some (.ref o), some (.ref b), some (.int (k : Int)), some (.ref l), some (.ref D), some (.ref g0), some (.ref t), z9, none, none, none] ∧ H' t = some (.lst ((othersP ps k j).map V.str))) ∧ Fr [] H9 H') ⟨⟨t0, _, rfl, ht9⟩, Fr.refl⟩ (fun j σ H10 hj h => ?_) (fun σ H10 h => ?_)⟩
     ·obtain ⟨⟨t, z9, rfl, ht10⟩, e10⟩ := h
      have E10 := E9.trans e10
      obtain ⟨pj, yj, hpj, hyj, htj, hpjA⟩ := part H10 j E10 hj
      have gv := giveV_len hpjA
      have ol := others_len hp k j
      have stp : othersP ps k (j + 1) = othersP ps k j ++ if j = k then [] else giveK ps j := by unfold othersP; rw [flat_range]
      simp only [Int.zero_add]
      walk_at "q"
      refine g_ixL (rpat H10 E10) hyj ?_
      walk_at "q"
      refine ⟨yj, pj, rfl, htj, hpjA, fun l1 H11 e11 _ h11 => ?_⟩
      walk_at "q"
      refine g_intB ?_
      have rb : ((giveV pj).map V.str).length * (if (!decide ((j : Int) = (k : Int))) = true then (1 : Int) else 0).toNat ≤ sizeLine := by
       rw [List.length_map]
       split
       ·show (giveV pj).length * 1 ≤ sizeLine
        exact le_of (by omega)
       ·exact Nat.zero_le _
      refine g_repL h11 (by split <;> decide) (by split <;> decide) rb fun l2 hl2 => ?_
      rw [rep_int]
      have e12 : Fr [] H11 (upd H11 l2 (.lst (if (!decide ((j : Int) = (k : Int))) = true then (giveV pj).map V.str else []))) := Fr.new hl2
      have h12 : (upd H11 l2 (.lst (if (!decide ((j : Int) = (k : Int))) = true then (giveV pj).map V.str else []))) l2 = some (.lst ((if j = k then [] else giveK ps j).map V.str)) := by
       rw [upd_same, show giveK ps j = giveV pj by unfold giveK; rw [hpj]]
       by_cases c : j = k
       ·subst c; simp
       ·have c2 : ¬ (j : Int) = (k : Int) := by omega
        simp [c, c2]
      generalize upd H11 l2 (.lst (if (!decide ((j : Int) = (k : Int))) = true then (giveV pj).map V.str else [])) = H12 at *
      have il : (if j = k then [] else giveK ps j).length ≤ 8 := by
       split
       ·exact Nat.zero_le _
       ·exact giveK_len hp j
      refine g_addL ((e11.trans e12).at ht10 (fun z => nomatch z)) h12 (le_of (by rw [List.length_map, List.length_map]; omega)) fun l3 hl3 => ?_
      walk_at "q"
      refine ⟨⟨l3, _, rfl, ?_⟩, ((e10.trans e11).trans e12).trans (Fr.new hl3)⟩
      rw [upd_same, ← List.map_append, stp]
     ·obtain ⟨⟨t, z9, rfl, ht10⟩, e10⟩ := h
      have E10 := E9.trans e10
      have h10 := e10.at h9 (fun z => nomatch z)
      have F10 : Fr [g0] H7 H10 := (e8.trans e9.nil).trans e10.nil
      have htd10 := htd.fr (e9.trans e10)
      have tk : ∀ x e, p = .lt x e → twK ps k = if x ∈ othersP ps k ps.length then [x] else [] := fun x e h => by subst h; unfold twK; rw [hpp]
      have tl := flat_range_len (f := twK ps) (twK_len ps) k
      have stepN : twK ps k = [] → ∀ (z9 : Option V), (∃ a4 a8 a9, ([some (.ref ra), some (.ref rp), some (.ref o), some (.ref b), some (.int (k : Int)), some (.ref l), some (.ref D), some (.ref g0), some (.ref t), z9, none, none, none] : L2.St) = [some (.ref ra), some (.ref rp), some (.ref o), some (.ref b), a4, some (.ref l), some (.ref D), some (.ref g0), a8, a9, none, none, none]) ∧ Fr [g0] H7 H10 ∧ H10 g0 = some (.lst ((twB ps (k + 1)).map V.str)) := fun e z9 => ⟨⟨_, _, _, rfl⟩, F10, by
       unfold twB
       rw [flat_range, e, List.append_nil]
       exact h10⟩
      walk_at "q"
      refine g_ixL (rpat H10 E10) hy ?_
      cases p with
      | atom no x ts =>
       obtain ⟨a, y1, y2, y3, rfl, ha, g1, g2, g3⟩ := Td.t3 (show Td K H10 y (.tuple [.str (if no then "not" else "atom"), .str x, .tuple (ts.map TermE.d)]) from htd10)
       cases g1.str_inv
       cases no with
       | false =>
        walk_at "q"
        exact stepN (by unfold twK; rw [hpp]) _
       | true =>
        walk_at "q"
        exact stepN (by unfold twK; rw [hpp]) _
      | test sg a b =>
       obtain ⟨p, y1, y2, y3, y4, rfl, hpq, g1, g2, g3, g4⟩ := Td.t4 (show Td K H10 y (.tuple [.str "test", .str sg, a.d, b.d]) from htd10)
       cases g1.str_inv
       walk_at "q"
       exact stepN (by unfold twK; rw [hpp]) _
      | lt x e =>
       obtain ⟨a, y1, y2, y3, rfl, ha, g1, g2, g3⟩ := Td.t3 (show Td K H10 y (.tuple [.str "let", .str x, e.d]) from htd10)
       cases g1.str_inv
       cases g2.str_inv
       walk_at "q"
       refine g_ixL (rpat H10 E10) hy ?_
       walk_at "q"
       refine g_inT (.inl (SqL.of ht10)) (flat_strs _) ?_
       rw [inV_str]
       walk_at "q"
       have tkx := tk x e rfl
       refine g_by (fun c => ?_) (fun c => ?_)
       ·walk_at "q"
        refine g_ixL (rpat H10 E10) hy ?_
        walk_at "q"
        refine g_app h10 (by rw [List.length_map]; unfold twB; omega) ?_
        walk_at "q"
        refine ⟨⟨_, _, _, rfl⟩, F10.trans (Fr.mut (List.mem_singleton.mpr rfl) h10 nofix_lst), ?_⟩
        rw [upd_same]
        unfold twB
        rw [flat_range, tkx, if_pos c, List.map_append]
        rfl
       ·exact stepN (by rw [tkx, if_neg c]) _
    ·obtain ⟨⟨z4, z8, z9, rfl⟩, e8, h8⟩ := h
     have E8 : Fr [] H H8 := fr_off E7 e8 hg0H
     have nm : ∀ {x : Addr}, g0 ≠ x → x ∉ [g0] := fun h z => h (List.mem_singleton.mp z).symm
     have hb8 := e8.at hb7 (nm g0b)
     have hl8 := e8.at hl7 (nm g0l)
     have hi8 := e8.at hi7 (nm g0D)
     generalize hg9 : (twB ps ps.length) = tws at h8
     have twl := flat_range_len (f := twK ps) (twK_len ps) ps.length
     have twl2 : tws.length ≤ 64 := by rw [← hg9]; unfold twB; omega
     have ll1 := flat_range_len (f := fun i => if i ∈ orderO ps then [] else partK ps i) (m := 8) (fun k => by
      split
      ·exact Nat.zero_le _
      ·exact partK_len hp k) ps.length
     have ll2 : (as.filterMap lastA).length ≤ 9000 := Nat.le_trans (List.length_filterMap_le _ _) (by have := ha.1; omega)
     walk_at "q"
     refine ⟨l, rfl, ⟨_, SqL.of hl8⟩, fun D1 hD1 => lc_notin hl8 hb8 (by unfold leftN; omega) hD1 (fun _ => rfl) (fun _ => rfl) (fun _ => rfl) (fun H9 e9 h9 => ?_)⟩
     have hb9 := e9.at hb8 (fun z => nomatch z)
     have hi9 := e9.at hi8 (fun z => nomatch z)
     have h89 := e9.at h8 (fun z => nomatch z)
     walk_at "q"
     refine ⟨D, rfl, ⟨_, SqL.of hi9⟩, fun D2 hD2 => lc_notin hi9 hb9 ll2 hD2 (fun _ => rfl) (fun _ => rfl) (fun _ => rfl) (fun H10 e10 h10 => ?_)⟩
     have h910 := e10.at h9 (fun z => nomatch z)
     have h810 := e10.at h89 (fun z => nomatch z)
     have E10 := (E8.trans e9).trans e10
     walk_at "q"
     refine ⟨le_of (by simp), fun pt hpt => ?_⟩
     have e11 : Fr [] H10 (upd H10 pt (.tup [V.ref D1, .ref D2, .ref g0])) := Fr.new hpt
     have hpt11 : SqT K (upd H10 pt (.tup [V.ref D1, .ref D2, .ref g0])) pt [.ref D1, .ref D2, .ref g0] := SqT.of upd_same
     have hA := e11.at h910 (fun z => nomatch z)
     have hB := e11.at h10 (fun z => nomatch z)
     have hC := e11.at h810 (fun z => nomatch z)
     generalize upd H10 pt (.tup [V.ref D1, .ref D2, .ref g0]) = H11 at *
     have E11 := E10.trans e11
     refine ⟨pt, rfl, ⟨_, hpt11⟩, for_tup (xs := [V.ref D1, .ref D2, .ref g0]) (fun i σ H' => (∃ z8 z9 z10, σ = [some (.ref ra), some (.ref rp), some (.ref o), some (.ref b), z4, some (.ref l), some (.ref D), some (.ref g0), z8, z9, z10, none, none]) ∧ Fr [] H11 H' ∧ (1 ≤ i → look1 ps = []) ∧ (2 ≤ i → looseL ps (as.filterMap lastA) = []) ∧ (3 ≤ i → look3 ps = [])) ⟨⟨_, _, _, rfl⟩, Fr.refl, (fun z => absurd z (by decide)), (fun z => absurd z (by decide)), (fun z => absurd z (by decide))⟩ (fun i σ H' _ h => h.2.1.tup hpt11) (fun i x σ H12 hx h => ?_) (fun σ H12 h => ?_)⟩
     ·obtain ⟨⟨z8', z9', z10', rfl⟩, e12, b1, b2, b3⟩ := h
      obtain ⟨M, ns, rfl, hM, hcase⟩ : ∃ (M : Addr) (ns : List Str), x = .ref M ∧ H11 M = some (.lst (ns.map V.str)) ∧ ((i = 0 ∧ ns = look1 ps) ∨ (i = 1 ∧ ns = looseL ps (as.filterMap lastA)) ∨ (i = 2 ∧ ns = look3 ps)) := by
       match i, hx with
       | 0, hx =>
        cases hx
        exact ⟨D1, _, rfl, hA, .inl ⟨rfl, rfl⟩⟩
       | 1, hx =>
        cases hx
        exact ⟨D2, _, rfl, hB, .inr (.inl ⟨rfl, rfl⟩)⟩
       | 2, hx =>
        cases hx
        exact ⟨g0, _, rfl, hC, .inr (.inr ⟨rfl, hg9.symm⟩)⟩
       | i + 3, hx => simp at hx
      have hM12 := e12.at hM (fun z => nomatch z)
      have E12 := E11.trans e12
      walk_at "q"
      refine ⟨le_of (by simp), fun p9 hp9 => ?_⟩
      have e13 : Fr [] H12 (upd H12 p9 (.lst [])) := Fr.new hp9
      have h13 : (upd H12 p9 (.lst [])) p9 = some (.lst []) := upd_same
      have hM13 := e13.at hM12 (fun z => nomatch z)
      generalize upd H12 p9 (.lst []) = H13 at *
      refine g_neEL (SqL.of hM13) (SqL.of h13) ?_
      cases ns with
      | nil =>
       walk_at "q"
       refine ⟨⟨_, _, _, rfl⟩, e12.trans e13, fun _ => ?_, fun h2 => ?_, fun h3 => ?_⟩
       ·rcases hcase with ⟨rfl, hn⟩ | ⟨rfl, hn⟩ | ⟨rfl, hn⟩
        ·exact hn.symm
        ·exact b1 (by omega)
        ·exact b1 (by omega)
       ·rcases hcase with ⟨rfl, hn⟩ | ⟨rfl, hn⟩ | ⟨rfl, hn⟩
        ·omega
        ·exact hn.symm
        ·exact b2 (by omega)
       ·rcases hcase with ⟨rfl, hn⟩ | ⟨rfl, hn⟩ | ⟨rfl, hn⟩
        ·omega
        ·omega
        ·exact hn.symm
      | cons z zs =>
       walk_at "q"
       refine g_tt rfl ?_
       walk_at "q"
       refine ⟨M, z, zs, rfl, SqL.of hM13, fun m hm hmin => ?_⟩
       refine q1 m _ ?_ (E12.trans e13)
       rcases hcase with ⟨rfl, hn⟩ | ⟨rfl, hn⟩ | ⟨rfl, hn⟩
       ·rw [← hn]
        exact .inl ⟨List.cons_ne_nil _ _, hm, hmin⟩
       ·rw [← hn]
        exact .inr (.inl ⟨b1 (by omega), List.cons_ne_nil _ _, hm, hmin⟩)
       ·rw [← hn]
        exact .inr (.inr ⟨b1 (by omega), b2 (by omega), List.cons_ne_nil _ _, hm, hmin⟩)
     ·obtain ⟨⟨z8', z9', z10', rfl⟩, e12, b1, b2, b3⟩ := h
      walk_at "q"
      exact q0 _ (b1 (by simp)) (b2 (by simp)) (b3 (by simp)) (E11.trans e12)
end
abbrev s_law : Stmt := topS 29
theorem sc_law : FnScope ["_law_script", "_law_bag_here", "_law_vars_of", "_law_k", "_law_parts", "_law_j", "_law_fork", "_law_leaves", "_law_args", "_law_due", "_law_found", "e", "_law_i"] ["_law_script"] (defScope s_law) := ⟨rfl, rfl, rfl, by decide +kernel, rfl, by decide +kernel, by decide +kernel⟩
def spLaw (K : PySem.W.Frag) : Sp := fun vs H Q _ => ∃ (a : Addr) (ns : List Int), vs = [.ref a] ∧ SqL K H a (ns.map V.int) ∧ ns.length ≤ 63 ∧ ∀ H', Q (.bl true) H'
theorem loose_iff {ps : List PartE} {L L' : List Str} (h : ∀ x, x ∈ L ↔ x ∈ L') (x : Str) : x ∈ looseL ps L ↔ x ∈ looseL ps L' := by
 unfold looseL
 rw [List.mem_filter, List.mem_filter, h]
theorem nil_iff {L L' : List Str} (h : ∀ x, x ∈ L ↔ x ∈ L') : L = [] ↔ L' = [] := by
 rw [List.eq_nil_iff_forall_not_mem, List.eq_nil_iff_forall_not_mem]
 exact forall_congr' fun x => not_congr (h x)
theorem due_eq {A B B' C : List Str} {m m' : Str} (h : Due4 A B C m) (h' : Due3 A B' C m') (p : ∀ x, x ∈ B ↔ x ∈ B') : m' = m := by
 rcases h with ⟨a, b, c, _⟩ | ⟨a, k⟩ | ⟨a, b, k⟩ | ⟨a, b, c, k⟩ <;> rcases h' with ⟨a', k'⟩ | ⟨a', b', k'⟩ | ⟨a', b', c', k'⟩
 ·exact absurd a a'
 ·exact absurd ((nil_iff p).mp b) b'
 ·exact absurd c c'
 ·exact isMin_eq k' k fun _ => Iff.rfl
 ·exact absurd a' a
 ·exact absurd a' a
 ·exact absurd a a'
 ·exact isMin_eq k' k fun x => (p x).symm
 ·exact absurd ((nil_iff p).mpr b') b
 ·exact absurd a a'
 ·exact absurd ((nil_iff p).mp b) b'
 ·exact isMin_eq k' k fun _ => Iff.rfl
theorem due_nil {A B B' C : List Str} {m : Str} (h : Due4 A B C m) (a' : A = []) (b' : B' = []) (c' : C = []) (p : ∀ x, x ∈ B ↔ x ∈ B') : m = "" := by
 rcases h with ⟨_, _, _, e⟩ | ⟨a, k⟩ | ⟨a, b, k⟩ | ⟨a, b, c, k⟩
 ·exact e
 ·exact absurd a' a
 ·exact absurd ((nil_iff p).mpr b') b
 ·exact absurd c' c
theorem leaf_argK {e : SumE} (h : SumW 0 e) : ArgK (.s e) := by
 cases h with
 | val h => exact .inl ⟨_, h.g, rfl⟩
 | var h => exact .inr (.inl ⟨_, h.1.tx, rfl⟩)
structure ExF (K : PySem.W.Frag) (a_Loose a_CheckError a_LoreError : Addr) : Prop where
 n1 : PySem.W.findIn K (.ref a_Loose) "word" = some none
 n2 : PySem.W.findIn K (.ref a_Loose) "name" = some none
 ex : PySem.W.exmOne K (.ref a_Loose) (.ref a_LoreError) = some true
 k1 : PySem.W.kitOne K (.ref a_Loose) (.ref a_Loose) = some true
 k2 : PySem.W.kitOne K (.ref a_Loose) (.ref a_CheckError) = some true
structure BiK (mg : Str → Option Value) : Prop where
 b_range : mg "range" = none
 b_tuple : mg "tuple" = none
 b_isinstance : mg "isinstance" = none
section
variable {P : Program} {w : World} {K : PySem.W.Frag} {mg : Str → Option Value} {base : Heap} {a_Loose a_CheckError a_LoreError : Addr}
theorem ok_law {f : Addr} {fd : FuncData} (F : FnP K "law" s_law f fd) (B : BiK mg) (C__law_bag : CalG P w K mg base 10 "_law_bag" (spBag K)) (C__law_pull : CalG P w K mg base 10 "_law_pull" spPull) (C__law_one : CalG P w K mg base 20 "_law_one" (spOne K)) (C__law_leaf : CalG P w K mg base 50 "_law_leaf" (spLeaf K)) (C__law_sum : CalG P w K mg base 55 "_law_sum" (spSum K 5))
  (C__law_loose_due : CalG P w K mg base 11 "_law_loose_due" (spDue K)) (C_need_bound : CalX P w K mg base 12 "need_bound" (spNeed K a_Loose))
  (G_Loose : ClG P w K mg base 2 "Loose" a_Loose (spI1 K "loose" "name")) (G_CheckError : ClG P w K mg base 1 "CheckError" a_CheckError (spL K)) (G_LoreError : ClG P w K mg base 1 "LoreError" a_LoreError (spL K)) (X : ExF K a_Loose a_CheckError a_LoreError) :
  FnG P w K mg base CX0 100 f fd ["_law_script"] (spLaw K) := by
 refine okG F sc_law (fun vs H Q E h => ?_) (fun cdv A outer s H vs Q E hr h => ?_)
 ·obtain ⟨a, ns, rfl, _⟩ := h
  rfl
 obtain ⟨a, ns, rfl, hS, hl, q⟩ := h
 have hu := hu_of hr.rm
 refine ⟨_, PSs.nox (pss_cons (ps_set (i := 1) sc_law.nd rfl (.inr rfl) (pe_calG C__law_bag hr rfl (pa_cons (pv 0) pa_nil)))
 (pss_cons (ps_set (i := 2) sc_law.nd rfl (.inr rfl) (pe_disp (pps_cons pe_str pe_str (pps_cons pe_str pe_str (pps_cons pe_str pe_str (pps_cons pe_str pe_str pps_nil)))) (by rfl) (by rfl) (fun z => by cases z) (by decide)))
 (pss_cons (ps_for PassesOwn.never rfl (pi_range1 rfl B.b_range (pa_cons pe_int pa_nil)) (pg_name (i := 3) sc_law.nd rfl (by first | exact Or.inl rfl | exact Or.inr rfl)) (pss_cons (ps_set (i := 4) sc_law.nd rfl (.inl rfl) (pe_lst pa_nil))
 (pss_cons (ps_for PassesOwn.never rfl (pi_range1 rfl B.b_range (pa_cons (pe_calG C__law_pull hr rfl (pa_cons (pv 1) (pa_cons pe_int pa_nil))) pa_nil)) (pg_name (i := 5) sc_law.nd rfl (by first | exact Or.inl rfl | exact Or.inr rfl)) (pss_cons (ps_set (i := 6) sc_law.nd rfl (.inl rfl) (pe_calG C__law_pull hr rfl (pa_cons (pv 1) (pa_cons pe_int pa_nil))))
 (pss_cons (ps_setLc (i := 7) (own := [("_law_i", 12)]) (g := gName 12) (tt := tYes) rfl sc_law.nd rfl rfl (sw_true rfl rfl rfl (by decide +kernel)) (pi_range1 rfl B.b_range (pa_cons (pe_op (kOp (K := K) (r := uAdd) rfl opu_add) pe_int (pe_calG C__law_pull hr rfl (pa_cons (pv 1) (pa_cons pe_int pa_nil)))) pa_nil)) (blkOk_by (own := [("_law_i", 12)]) (N := ["_law_script", "_law_bag_here", "_law_vars_of", "_law_k", "_law_parts", "_law_j", "_law_fork", "_law_leaves", "_law_args", "_law_due", "_law_found", "e", "_law_i"]) (sc := defScope s_law) (by decide +kernel)) (fun _ _ _ _ _ => (by exact (pg_name (i := 12) sc_law.nd rfl (by first | exact Or.inl rfl | exact Or.inr rfl)))) (fun _ _ _ _ _ => pts_nil) (fun _ _ _ _ _ => (by exact (pe_calG C__law_leaf hr rfl (pa_cons (pv 1) (pa_cons pe_str (pa_cons (pv 2) pa_nil)))))))
 (pss_one (ps_if (pt_cmpR (kOp (K := K) (r := uLt) rfl opu_lt) (pv 6) pe_int (nomark _)) (pss_one (ps_expr (kBM (K := K) rfl (pe_bm PySem.F.plainAttrs_list PySem.F.slot_list_append PySem.F.type_list_append mt_append (pv 4) (pa_cons (pe_tup (pa_cons (pe_ix (kIx (K := K) (r := rIx) rfl ix_seq) (pe_lst (pa_cons pe_str (pa_cons pe_str (pa_cons pe_str pa_nil)))) (pv 6) (fun _ _ => rfl)) (pa_cons pe_str (pa_cons (pe_callTy (kCall (K := K) (r := uTuple) rfl callu_tuple) (by rfl) B.b_tuple (by decide +kernel) (pa_cons (pv 7) pa_nil)) pa_nil)))) pa_nil))))) (pss_one (ps_if (pt_cmpR (kOp (K := K) (r := uEq) rfl (opu_eq hr.units)) (pv 6) pe_int (nomark _)) (pss_one (ps_expr (kBM (K := K) rfl (pe_bm PySem.F.plainAttrs_list PySem.F.slot_list_append PySem.F.type_list_append mt_append (pv 4) (pa_cons (pe_tup (pa_cons pe_str (pa_cons (pe_calG C__law_one hr rfl (pa_cons (pv 1) (pa_cons (pe_lst (pa_cons pe_str (pa_cons pe_str (pa_cons pe_str (pa_cons pe_str pa_nil))))) pa_nil))) (pa_cons (pe_calG C__law_sum hr rfl (pa_cons (pv 1) (pa_cons (pv 2) (pa_cons pe_int pa_nil)))) pa_nil)))) pa_nil))))) (pss_one (ps_expr (kBM (K := K) rfl (pe_bm PySem.F.plainAttrs_list PySem.F.slot_list_append PySem.F.type_list_append mt_append (pv 4) (pa_cons (pe_tup (pa_cons pe_str (pa_cons pe_str (pa_cons (pe_calG C__law_sum hr rfl (pa_cons (pv 1) (pa_cons (pv 2) (pa_cons pe_int pa_nil)))) (pa_cons (pe_calG C__law_leaf hr rfl (pa_cons (pv 1) (pa_cons pe_str (pa_cons (pv 2) pa_nil)))) pa_nil))))) pa_nil))))))))))))
 (pss_cons (ps_setLc (i := 8) (own := [("_law_j", 5)]) (g := gName 5) (tt := tYes) rfl sc_law.nd rfl rfl (sw_true rfl rfl rfl (by decide +kernel)) (pi_range1 rfl B.b_range (pa_cons (pe_op (kOp (K := K) (r := uAdd) rfl opu_add) pe_int (pe_calG C__law_pull hr rfl (pa_cons (pv 1) (pa_cons pe_int pa_nil)))) pa_nil)) (blkOk_by (own := [("_law_j", 5)]) (N := ["_law_script", "_law_bag_here", "_law_vars_of", "_law_k", "_law_parts", "_law_j", "_law_fork", "_law_leaves", "_law_args", "_law_due", "_law_found", "e", "_law_i"]) (sc := defScope s_law) (by decide +kernel)) (fun _ _ _ _ _ => (by exact (pg_name (i := 5) sc_law.nd rfl (by first | exact Or.inl rfl | exact Or.inr rfl)))) (fun _ _ _ _ _ => pts_nil) (fun _ _ _ _ _ => (by exact (pe_calG C__law_leaf hr rfl (pa_cons (pv 1) (pa_cons pe_str (pa_cons (pv 2) pa_nil)))))))
 (pss_cons (ps_asg (pe_calG C__law_one hr rfl (pa_cons (pv 1) (pa_cons (pe_lst (pa_cons (pe_ix (kIx (K := K) (r := rIx) rfl ix_seq) (pv 8) pe_int (fun _ _ => rfl)) (pa_cons (pe_tup (pa_cons pe_str (pa_cons pe_str (pa_cons pe_non pa_nil)))) (pa_cons (pe_tup (pa_cons pe_str (pa_cons pe_str (pa_cons pe_str pa_nil)))) (pa_cons (pe_tup (pa_cons pe_str (pa_cons pe_str (pa_cons pe_str pa_nil)))) pa_nil))))) pa_nil))) (pg_sub (pv 8) pe_int set_list))
 (pss_cons (ps_set (i := 9) sc_law.nd rfl (.inl rfl) (pe_calG C__law_loose_due hr rfl (pa_cons (pv 8) (pa_cons (pv 4) pa_nil))))
 (pss_cons (ps_set (i := 10) sc_law.nd rfl (.inl rfl) pe_str)
 (pss_cons (ps_tryK (K := K) (i := 11) (Wout := fun _ _ _ _ => False) rfl rfl rfl sc_law.nd rfl rfl ⟨rfl, by decide, .inl G_LoreError.m⟩ takes0 (fun W pn xe tk _ => by exact (pss_one (ps_if (pt_cmpR opu_isNot (pe_calX C_need_bound tk hr rfl (pa_cons (pe_callTy (kCall (K := K) (r := uTuple) rfl callu_tuple) (by rfl) B.b_tuple (by decide +kernel) (pa_cons (pv 8) pa_nil)) (pa_cons (pe_callTy (kCall (K := K) (r := uTuple) rfl callu_tuple) (by rfl) B.b_tuple (by decide +kernel) (pa_cons (pv 4) pa_nil)) pa_nil))) pe_non (nomark _)) (pss_one (ps_ret pe_bl)) pss_nil))) (fun a oe cls d pn hz hf => by exact (pss_one (ps_set (i := 10) sc_law.nd rfl (.inl rfl) (pe_ifExp (PW.pt (pw_and (pt_val (pe_callB (kCall (K := K) (r := fun K => rIsS K a cls d) rfl (call_isS hz hf)) (by rfl) B.b_isinstance (by decide +kernel) (pa_cons (pv 11) (pa_cons (pe_glob (v := .ref a_Loose) rfl G_Loose.m rfl) pa_nil)))) (pw_and1 (pt_val (pe_callB (kCall (K := K) (r := fun K => rIsS K a cls d) rfl (call_isS hz hf)) (by rfl) B.b_isinstance (by decide +kernel) (pa_cons (pv 11) (pa_cons (pe_glob (v := .ref a_CheckError) rfl G_CheckError.m rfl) pa_nil))))))) (kXs (K := K) rfl (pe_xs "name" hz hf (pv 11))) pe_str)))))
 (pss_one (ps_if (pt_cmpR (kOp (K := K) (r := uNe) rfl (opu_ne hr.units)) (pv 10) (pv 9) (nomark _)) (pss_one (ps_ret pe_bl)) pss_nil))))))))))
 (pss_one (ps_ret pe_bl))))), rd_start (σ0 := [some (.ref a), none, none, none, none, none, none, none, none, none, none, none, none]) rfl ?_⟩
 walk_at "q"
 refine ⟨a, ns, rfl, hS, hl, fun b cs H1 hF1 hb1 hB1 => ?_⟩
 walk_at "q"
 refine g_disp fun d hd => ?_
 have hdb := hB1.some hd
 walk_at "q"
 refine ⟨upd_same, kvOf vdL, rfl, by decide, ?_⟩
 rw [vdL_merge, upd_upd]
 have e0 : Fr [] H1 (upd H1 d (.dK (kvOf vdL))) := Fr.new hd
 have hV0 : VarsAt (upd H1 d (.dK (kvOf vdL))) d vdL := vdL_g.at2 upd_same
 have hB0 := hB1.fr0 e0
 have hdM : d ∉ [b] := fun z => hdb.1 (List.mem_singleton.mp z)
 generalize upd H1 d (.dK (kvOf vdL)) = H2 at *
 walk_at "q"
 refine ⟨8, rfl, by decide, by decide, for_range (lo := 0) (n := 8) (fun i σ H' => BagAt H' b cs ∧ VarsAt H' d vdL ∧ ∃ z3 z4 z5 z6 z7 z8 z9 z10 z11 z12, σ = [some (.ref a), some (.ref b), some (.ref d), z3, z4, z5, z6, z7, z8, z9, z10, z11, z12]) ⟨hB0, hV0, _, _, _, _, _, _, _, _, _, _, rfl⟩ (fun i σ H hi h => ?_) (fun σ H' h => ?_)⟩
 ·obtain ⟨hB0, hV0, z3, z4, z5, z6, z7, z8, z9, z10, z11, z12, rfl⟩ := h
  walk_at "q"
  refine ⟨le_of (by simp), fun T hT => ?_⟩
  have e1 : Fr [] H (upd H T (.lst [])) := Fr.new hT
  have hT1 : (upd H T (.lst [])) T = some (.lst []) := upd_same
  have hTb := hB0.some hT
  have hTM : T ∉ [b] := fun z => hTb.1 (List.mem_singleton.mp z)
  have hTd : T ≠ d := fun e => by rw [e, hV0.at_] at hT; cases hT
  have hV1 := hV0.fr e1 (fun z => nomatch z)
  have hB1 := hB0.fr0 e1
  have E1 : Fr [b] H (upd H T (.lst [])) := e1.nil
  generalize upd H T (.lst []) = H1 at *
  walk_at "q"
  refine ⟨b, cs, _, rfl, hB1, by decide, by decide, fun dd H2 d0 d1 hB2 hF2 => ?_⟩
  obtain ⟨m, rfl⟩ : ∃ m : Nat, dd = (m : Int) := ⟨dd.toNat, by omega⟩
  walk_at "q"
  refine ⟨_, rfl, by omega, by omega, for_range (lo := 0) (n := m) (fun i σ H' => (∃ z3 z5 z6 z7 z8 z9 z10 z11 z12, σ = [some (.ref a), some (.ref b), some (.ref d), z3, some (.ref T), z5, z6, z7, z8, z9, z10, z11, z12]) ∧ BagAt H' b cs ∧ Fr [b] H H' ∧ VarsAt H' d vdL ∧ ∃ (us : List V) (ps : List PartE), H' T = some (.lst us) ∧ TdAll K H' us (ps.map PartE.d) ∧ ps.length = i ∧ ∀ p ∈ ps, PartA p)
   ⟨⟨_, _, _, _, _, _, _, _, _, rfl⟩, hB2, E1.trans hF2, hV1.fr hF2 hdM, [], [], hF2.at hT1 hTM, .nil, rfl, (fun _ z => nomatch z)⟩ (fun i σ H3 hi h => ?_) (fun σ H3 h => ?_)⟩
  ·obtain ⟨⟨z3, z5, z6, z7, z8, z9, z10, z11, z12, rfl⟩, hB3, E3, hV3, us, ps, hT3, htd, hpl, hpa⟩ := h
   have hul := (tda_get htd).1
   have fin : ∀ (H9 : Hp) (v : V) (p : PartE), BagAt H9 b cs → Fr [b] H H9 → VarsAt H9 d vdL → H9 T = some (.lst us) → TdAll K H9 us (ps.map PartE.d) → Td K H9 v p.d → PartA p →
     BagAt (upd H9 T (.lst (us ++ [v]))) b cs ∧ Fr [b] H (upd H9 T (.lst (us ++ [v]))) ∧ VarsAt (upd H9 T (.lst (us ++ [v]))) d vdL ∧ ∃ (us' : List V) (ps' : List PartE), (upd H9 T (.lst (us ++ [v]))) T = some (.lst us') ∧ TdAll K (upd H9 T (.lst (us ++ [v]))) us' (ps'.map PartE.d) ∧ ps'.length = i + 1 ∧ ∀ p ∈ ps', PartA p := by
    intro H9 v p hB9 E9 hV9 hT9 ht9 hv hp
    have e : Fr [T] H9 (upd H9 T (.lst (us ++ [v]))) := Fr.mut (List.mem_singleton.mpr rfl) hT9 nofix_lst
    refine ⟨hB9.fr e (fun z => hTb.1 (List.mem_singleton.mp z).symm) (fun z => hTb.2 (List.mem_singleton.mp z).symm), E9.over hT, hV9.fr e (fun z => hTd (List.mem_singleton.mp z).symm), us ++ [v], ps ++ [p], upd_same, ?_, by rw [List.length_append, hpl]; rfl, fun x hx => ?_⟩
    ·rw [List.map_append]
     exact (tda_snoc2 ht9 hv).fr e
    ·rcases List.mem_append.mp hx with hx | hx
     ·exact hpa x hx
     ·rw [List.mem_singleton.mp hx]; exact hp
   have lus : us.length < sizeLine := lt_of (by omega)
   walk_at "q"
   refine ⟨b, cs, _, rfl, hB3, by decide, by decide, fun fork H4 f0 f1 hB4 hF4 => ?_⟩
   have hT4 := hF4.at hT3 hTM
   have hV4 := hV3.fr hF4 hdM
   have E4 := E3.trans hF4
   walk_at "q"
   refine ⟨b, cs, _, rfl, hB4, by decide, by decide, fun dd H5 d0 d1 hB5 hF5 => ?_⟩
   obtain ⟨n, rfl⟩ : ∃ n : Nat, dd = (n : Int) := ⟨dd.toNat, by omega⟩
   have hT5 := hF5.at hT4 hTM
   have hV5 := hV4.fr hF5 hdM
   have E5 := E4.trans hF5
   have ht5 := (htd.fr hF4).fr hF5
   walk_at "q"
   refine ⟨_, rfl, by omega, by omega, fun D hD => lc_it (walk_range (lo := 0) (n := 1 + n)) (fun i H' => BagAt H' b cs ∧ Fr [b] H5 H' ∧ ∃ (ys : List V) (ts : List TermE), H' D = some (.lst ys) ∧ TdAll K H' ys (ts.map TermE.d) ∧ ts.length = i ∧ ∀ t ∈ ts, TermG t)
    ⟨hB5.fr0 (Fr.new hD), Fr.new hD, [], [], upd_same, .nil, rfl, (fun _ z => nomatch z)⟩ (fun i H' _ h => trivial) (fun i x H' H'' hi h y => ?_) (fun H6 h => ?_)⟩
   ·obtain ⟨rfl, rfl⟩ := y
    obtain ⟨hBi, hFi, ys, ts, hDi, htdi, htl, htw⟩ := h
    have hDb := hB5.some hD
    have hDM : D ∉ [b] := fun z => hDb.1 (List.mem_singleton.mp z)
    have hyl := (tda_get htdi).1
    walk_at "q"
    refine ⟨rfl, ?_⟩
    walk_at "q"
    refine ⟨b, cs, d, "number", vdL, rfl, .inl rfl, hBi, hV5.fr hFi hdM, fun x H3 hx hB3 hF3 => ?_⟩
    obtain ⟨ex, hex, htx⟩ := hx.w vdL_g
    have hD3 := hF3.at hDi hDM
    have eD : Fr [D] H3 (upd H3 D (.lst (ys ++ [.ref x]))) := Fr.mut (List.mem_singleton.mpr rfl) hD3 nofix_lst
    refine ⟨ys, hD3, lt_of (by omega), hB3.fr eD (fun z => hDb.1 (List.mem_singleton.mp z).symm) (fun z => hDb.2 (List.mem_singleton.mp z).symm), (hFi.trans hF3).over hD, ys ++ [.ref x], ts ++ [.s ex], upd_same, ?_, by rw [List.length_append, htl]; rfl, fun a ha => ?_⟩
    ·rw [List.map_append]
     exact (tda_snoc2 (htdi.fr hF3) (show Td K H3 (.ref x) (TermE.d (.s ex)) from htx)).fr eD
    ·rcases List.mem_append.mp ha with ha | ha
     ·exact htw a ha
     ·rw [List.mem_singleton.mp ha]; exact .s hex.g
   ·obtain ⟨hB6, hF6, ys, ts, hD6, htd6, htl, htw⟩ := h
    have hT6 := hF6.at hT5 hTM
    have hV6 := hV5.fr hF6 hdM
    have E6 := E5.trans hF6
    have ht6 := ht5.fr hF6
    walk_at "q"
    refine g_by (fun c => ?_) (fun c => ?_)
    ·walk_at "q"
     refine ⟨le_of (by simp), fun p7 hp7 => ?_⟩
     have e7 : Fr [] H6 (upd H6 p7 (.lst [.str "atom", .str "atom", .str "not"])) := Fr.new hp7
     have h7 : (upd H6 p7 (.lst [V.str "atom", .str "atom", .str "not"])) p7 = some (.lst [.str "atom", .str "atom", .str "not"]) := upd_same
     have hT7 := e7.at hT6 (fun z => nomatch z)
     have hD7 := e7.at hD6 (fun z => nomatch z)
     have hB7 := hB6.fr0 e7
     have hV7 := hV6.fr e7 (fun z => nomatch z)
     have E7 := E6.trans e7.nil
     have ht7 := ht6.fr e7
     have htd7 := htd6.fr e7
     generalize upd H6 p7 (.lst [V.str "atom", .str "atom", .str "not"]) = H7 at *
     walk_at "q"
     obtain ⟨no, hno⟩ : ∃ no : Bool, atI [V.str "atom", .str "atom", .str "not"] fork = some (.str (if no then "not" else "atom")) := by
      have : fork = 0 ∨ fork = 1 ∨ fork = 2 := by omega
      rcases this with rfl | rfl | rfl
      ·exact ⟨false, rfl⟩
      ·exact ⟨false, rfl⟩
      ·exact ⟨true, rfl⟩
     refine g_ixL (SqL.of h7) hno ?_
     walk_at "q"
     refine g_tupleL (SqL.of hD7) fun p8 hp8 => ?_
     have e8 : Fr [] H7 (upd H7 p8 (.tup ys)) := Fr.new hp8
     have h8 : (upd H7 p8 (.tup ys)) p8 = some (.tup ys) := upd_same
     have hT8 := e8.at hT7 (fun z => nomatch z)
     have hB8 := hB7.fr0 e8
     have hV8 := hV7.fr e8 (fun z => nomatch z)
     have E8 := E7.trans e8.nil
     have ht8 := ht7.fr e8
     have htd8 := htd7.fr e8
     generalize upd H7 p8 (.tup ys) = H8 at *
     walk_at "q"
     refine ⟨le_of (by simp), fun p9 hp9 => ?_⟩
     have e9 : Fr [] H8 (upd H8 p9 (.tup [.str (if no then "not" else "atom"), .str "h.b", .ref p8])) := Fr.new hp9
     have hT9 := e9.at hT8 (fun z => nomatch z)
     walk_at "q"
     refine ⟨T, us, .ref p9, rfl, rfl, hT9, lus, ?_⟩
     obtain ⟨a1, a2, a3, a4⟩ := fin _ (.ref p9) (.atom no "h.b" ts) (hB8.fr0 e9) (E8.trans e9.nil) (hV8.fr e9 (fun z => nomatch z)) hT9 (ht8.fr e9) (.tup (SqT.of upd_same) (.cons (.str _) (.cons (.str _) (.cons (.tup (SqT.of (e9.at h8 (fun z => nomatch z))) (htd8.fr e9)) .nil)))) (.atom (by omega) htw)
     exact ⟨⟨_, _, _, _, _, _, _, _, _, rfl⟩, a1, a2, a3, a4⟩
    ·walk_at "q"
     refine g_by (fun c2 => ?_) (fun c2 => ?_)
     ·walk_at "q"
      refine ⟨le_of (by simp), fun p7 hp7 => ?_⟩
      have e7 : Fr [] H6 (upd H6 p7 (.lst [.str "x", .str "y", .str "u", .str "v"])) := Fr.new hp7
      have h7 : (upd H6 p7 (.lst [V.str "x", .str "y", .str "u", .str "v"])) p7 = some (.lst [.str "x", .str "y", .str "u", .str "v"]) := upd_same
      have hb7 := (hB6.some hp7).1
      have hT7 := e7.at hT6 (fun z => nomatch z)
      have hB7 := hB6.fr0 e7
      have hV7 := hV6.fr e7 (fun z => nomatch z)
      have E7 := E6.trans e7.nil
      have ht7 := ht6.fr e7
      generalize upd H6 p7 (.lst [V.str "x", .str "y", .str "u", .str "v"]) = H7 at *
      walk_at "q"
      refine ⟨b, cs, p7, (["x", "y", "u", "v"] : List Str).map V.str, rfl, hB7, .inl ⟨SqL.of h7, hb7⟩, by decide, by decide, fun xv H8 hxv hB8 hF8 => ?_⟩
      obtain ⟨x, hx, rfl⟩ := List.mem_map.mp hxv
      have hxz : ∀ x ∈ (["x", "y", "u", "v"] : List Str), txB 12 x = true := by decide +kernel
      have hxl : ∀ x ∈ (["x", "y", "u", "v"] : List Str), Tx 12 x := fun x hx => Tx.lit (hxz x hx)
      have hT8 := hF8.at hT7 hTM
      have hV8 := hV7.fr hF8 hdM
      walk_at "q"
      refine ⟨b, cs, d, 1, vdL, rfl, by decide, hB8, hV8, fun e v H9 he hs hB9 hF9 => ?_⟩
      have hw := he.w vdL_g
      have hv := hs.td hw
      have hT9 := hF9.at hT8 hTM
      walk_at "q"
      refine ⟨le_of (by simp), fun p10 hp10 => ?_⟩
      have e10 : Fr [] H9 (upd H9 p10 (.tup [.str "let", .str x, v])) := Fr.new hp10
      have hT10 := e10.at hT9 (fun z => nomatch z)
      walk_at "q"
      refine ⟨T, us, .ref p10, rfl, rfl, hT10, lus, ?_⟩
      obtain ⟨a1, a2, a3, a4⟩ := fin _ (.ref p10) (.lt x e) (hB9.fr0 e10) (((E7.trans hF8).trans hF9).trans e10.nil) ((hV8.fr hF9 hdM).fr e10 (fun z => nomatch z)) hT10 (((ht7.fr hF8).fr hF9).fr e10) (.tup (SqT.of upd_same) (.cons (.str _) (.cons (.str _) (.cons (hv.fr e10) .nil)))) (.lt (hxl x hx) (hw.g.up (by decide)))
      exact ⟨⟨_, _, _, _, _, _, _, _, _, rfl⟩, a1, a2, a3, a4⟩
     ·walk_at "q"
      refine ⟨b, cs, d, 1, vdL, rfl, by decide, hB6, hV6, fun e v H9 he hs hB9 hF9 => ?_⟩
      have hw := he.w vdL_g
      have hv := hs.td hw
      have hV9 := hV6.fr hF9 hdM
      have hT9 := hF9.at hT6 hTM
      walk_at "q"
      refine ⟨b, cs, d, "number", vdL, rfl, .inl rfl, hB9, hV9, fun x2 H10 hx2 hB10 hF10 => ?_⟩
      obtain ⟨e2, hw2, hv2⟩ := hx2.w vdL_g
      have hT10 := hF10.at hT9 hTM
      walk_at "q"
      refine ⟨le_of (by simp), fun p11 hp11 => ?_⟩
      have e11 : Fr [] H10 (upd H10 p11 (.tup [.str "test", .str "=", v, .ref x2])) := Fr.new hp11
      have hT11 := e11.at hT10 (fun z => nomatch z)
      walk_at "q"
      refine ⟨T, us, .ref p11, rfl, rfl, hT11, lus, ?_⟩
      obtain ⟨a1, a2, a3, a4⟩ := fin _ (.ref p11) (.test "=" e e2) (hB10.fr0 e11) (((E6.trans hF9).trans hF10).trans e11.nil) ((hV9.fr hF10 hdM).fr e11 (fun z => nomatch z)) hT11 (((ht6.fr hF9).fr hF10).fr e11) (.tup (SqT.of upd_same) (.cons (.str _) (.cons (.str _) (.cons ((hv.fr hF10).fr e11) (.cons (hv2.fr e11) .nil))))) (.test (hw.g.up (by decide)) (hw2.g.up (by decide)))
      exact ⟨⟨_, _, _, _, _, _, _, _, _, rfl⟩, a1, a2, a3, a4⟩
  ·obtain ⟨⟨z3, z5, z6, z7, z8, z9, z10, z11, z12, rfl⟩, hB3, E3, hV3, us, ps, hT3, htd, hpl, hpa⟩ := h
   have hpA : partsA ps := ⟨by omega, hpa⟩
   have hpl7 : ps.length ≤ 7 := by omega
   clear hpl hpa
   walk_at "q"
   refine ⟨b, cs, _, rfl, hB3, by decide, by decide, fun dd H5 d0 d1 hB5 hF5 => ?_⟩
   obtain ⟨n, rfl⟩ : ∃ n : Nat, dd = (n : Int) := ⟨dd.toNat, by omega⟩
   have hT5 := hF5.at hT3 hTM
   have hV5 := hV3.fr hF5 hdM
   have ht5 := htd.fr hF5
   walk_at "q"
   refine ⟨_, rfl, by omega, by omega, fun D hD => lc_it (walk_range (lo := 0) (n := 1 + n)) (fun i H' => BagAt H' b cs ∧ Fr [b] H5 H' ∧ ∃ (ys : List V) (ts : List ArgE), H' D = some (.lst ys) ∧ TdAll K H' ys (ts.map ArgE.d) ∧ ts.length = i ∧ ∀ t ∈ ts, ArgK t)
    ⟨hB5.fr0 (Fr.new hD), Fr.new hD, [], [], upd_same, .nil, rfl, (fun _ z => nomatch z)⟩ (fun i H' _ h => trivial) (fun i x H' H'' hi h y => ?_) (fun H6 h => ?_)⟩
   ·obtain ⟨rfl, rfl⟩ := y
    obtain ⟨hBi, hFi, ys, ts, hDi, htdi, htl, htw⟩ := h
    have hDb := hB5.some hD
    have hDM : D ∉ [b] := fun z => hDb.1 (List.mem_singleton.mp z)
    have hyl := (tda_get htdi).1
    walk_at "q"
    refine ⟨rfl, ?_⟩
    walk_at "q"
    refine ⟨b, cs, d, "number", vdL, rfl, .inl rfl, hBi, hV5.fr hFi hdM, fun x H3 hx hB3 hF3 => ?_⟩
    obtain ⟨ex, hex, htx⟩ := hx.w vdL_g
    have hD3 := hF3.at hDi hDM
    have eD : Fr [D] H3 (upd H3 D (.lst (ys ++ [.ref x]))) := Fr.mut (List.mem_singleton.mpr rfl) hD3 nofix_lst
    refine ⟨ys, hD3, lt_of (by omega), hB3.fr eD (fun z => hDb.1 (List.mem_singleton.mp z).symm) (fun z => hDb.2 (List.mem_singleton.mp z).symm), (hFi.trans hF3).over hD, ys ++ [.ref x], ts ++ [.s ex], upd_same, ?_, by rw [List.length_append, htl]; rfl, fun a ha => ?_⟩
    ·rw [List.map_append]
     exact (tda_snoc2 (htdi.fr hF3) (show Td K H3 (.ref x) (ArgE.d (.s ex)) from htx)).fr eD
    ·rcases List.mem_append.mp ha with ha | ha
     ·exact htw a ha
     ·rw [List.mem_singleton.mp ha]; exact leaf_argK hex
   ·obtain ⟨hB6, hF6, ys, as, hD6, htd6, htl, htw⟩ := h
    have hDb := hB5.some hD
    have hDM : D ∉ [b] := fun z => hDb.1 (List.mem_singleton.mp z)
    have hDT : D ≠ T := fun e => by rw [e, hT5] at hD; cases hD
    have hDd : D ≠ d := fun e => by rw [e, hV5.at_] at hD; cases hD
    have hT6 := hF6.at hT5 hTM
    have hV6 := hV5.fr hF6 hdM
    have ht6 := ht5.fr hF6
    have hyl := (tda_get htd6).1
    obtain ⟨y0, yr, rfl⟩ : ∃ y0 yr, ys = y0 :: yr := by
     cases ys with
     | nil => simp at hyl; omega
     | cons y0 yr => exact ⟨y0, yr, rfl⟩
    obtain ⟨a0, ar, rfl⟩ : ∃ a0 ar, as = a0 :: ar := by
     cases as with
     | nil => simp at htl; omega
     | cons y0 yr => exact ⟨y0, yr, rfl⟩
    obtain ⟨ht0, htr⟩ : Td K H6 y0 a0.d ∧ TdAll K H6 yr (ar.map ArgE.d) := by
     cases htd6 with
     | cons a b => exact ⟨a, b⟩
    walk_at "q"
    refine g_ixL (SqL.of hD6) (atI_nat (j := 0) rfl) ?_
    walk_at "q"
    refine ⟨le_of (by simp), fun q1 hq1 => ?_⟩
    have e1 : Fr [] H6 (upd H6 q1 (.tup [.str "fold", .str "count", .non])) := Fr.new hq1
    have g1 : SqT K (upd H6 q1 (.tup [.str "fold", .str "count", .non])) q1 [.str "fold", .str "count", .non] := SqT.of upd_same
    generalize upd H6 q1 (.tup [.str "fold", .str "count", .non]) = H7 at *
    walk_at "q"
    refine ⟨le_of (by simp), fun q2 hq2 => ?_⟩
    have e2 : Fr [] H7 (upd H7 q2 (.tup [.str "fold", .str "sum", .str "y"])) := Fr.new hq2
    have g2 : SqT K (upd H7 q2 (.tup [.str "fold", .str "sum", .str "y"])) q2 [.str "fold", .str "sum", .str "y"] := SqT.of upd_same
    generalize upd H7 q2 (.tup [.str "fold", .str "sum", .str "y"]) = H8 at *
    walk_at "q"
    refine ⟨le_of (by simp), fun q3 hq3 => ?_⟩
    have e3 : Fr [] H8 (upd H8 q3 (.tup [.str "fold", .str "most", .str "v"])) := Fr.new hq3
    have g3 : SqT K (upd H8 q3 (.tup [.str "fold", .str "most", .str "v"])) q3 [.str "fold", .str "most", .str "v"] := SqT.of upd_same
    generalize upd H8 q3 (.tup [.str "fold", .str "most", .str "v"]) = H9 at *
    walk_at "q"
    refine ⟨le_of (by simp), fun q4 hq4 => ?_⟩
    have e4 : Fr [] H9 (upd H9 q4 (.lst [y0, .ref q1, .ref q2, .ref q3])) := Fr.new hq4
    have g4 : (upd H9 q4 (.lst [y0, .ref q1, .ref q2, .ref q3])) q4 = some (.lst [y0, .ref q1, .ref q2, .ref q3]) := upd_same
    have e69 := (e1.trans e2).trans e3
    have hq4b := ((hB6.fr0 e69).some hq4).1
    generalize upd H9 q4 (.lst [y0, .ref q1, .ref q2, .ref q3]) = H10 at *
    have e610 := e69.trans e4
    have hB10 := hB6.fr0 e610
    walk_at "q"
    refine ⟨b, cs, q4, [y0, .ref q1, .ref q2, .ref q3], rfl, hB10, .inl ⟨SqL.of g4, hq4b⟩, by simp, by simp, fun v H11 hv hB11 hF11 => ?_⟩
    obtain ⟨an, han, htn⟩ : ∃ an, ArgK an ∧ Td K H11 v (ArgE.d an) := by
     simp only [List.mem_cons, List.not_mem_nil, or_false] at hv
     rcases hv with rfl | rfl | rfl | rfl
     ·exact ⟨a0, htw _ List.mem_cons_self, (ht0.fr e610).fr hF11⟩
     ·exact ⟨.fold "count" none, .inr (.inr (.inl ⟨_, rfl⟩)), (show Td K H7 (.ref q1) (.tuple [.str "fold", .str "count", .none]) from .tup g1 (.cons (.str _) (.cons (.str _) (.cons .non .nil)))).fr (((e2.trans e3).trans e4).nil.trans hF11)⟩
     ·exact ⟨.fold "sum" (some "y"), .inr (.inr (.inr ⟨_, _, Tx.lit (by decide +kernel), rfl⟩)), (show Td K H8 (.ref q2) (.tuple [.str "fold", .str "sum", .str "y"]) from .tup g2 (.cons (.str _) (.cons (.str _) (.cons (.str _) .nil)))).fr ((e3.trans e4).nil.trans hF11)⟩
     ·exact ⟨.fold "most" (some "v"), .inr (.inr (.inr ⟨_, _, Tx.lit (by decide +kernel), rfl⟩)), (show Td K H9 (.ref q3) (.tuple [.str "fold", .str "most", .str "v"]) from .tup g3 (.cons (.str _) (.cons (.str _) (.cons (.str _) .nil)))).fr (e4.nil.trans hF11)⟩
    have F11 : Fr [b] H6 H11 := e610.nil.trans hF11
    have hD11 := F11.at hD6 hDM
    have hT11 := F11.at hT6 hTM
    have hV11 := hV6.fr F11 hdM
    have ht11 := ht6.fr F11
    have htr11 := htr.fr F11
    walk_at "q"
    refine g_setL (j := 0) hD11 (by unfold ixN; simp) ?_
    have e12 : Fr [D] H11 (upd H11 D (.lst ((y0 :: yr).set 0 v))) := Fr.mut (List.mem_singleton.mpr rfl) hD11 nofix_lst
    have h12 : (upd H11 D (.lst ((y0 :: yr).set 0 v))) D = some (.lst (v :: yr)) := upd_same
    have nm : ∀ {x : Addr}, D ≠ x → x ∉ [D] := fun h z => h (List.mem_singleton.mp z).symm
    have hT12 := e12.at hT11 (nm hDT)
    have hV12 := hV11.fr e12 (nm hDd)
    have ht12 := ht11.fr e12
    have hB12 := hB11.fr e12 (nm hDb.1) (nm hDb.2)
    have hta12 : TdAll K (upd H11 D (.lst ((y0 :: yr).set 0 v))) (v :: yr) ((an :: ar).map ArgE.d) := (show TdAll K H11 (v :: yr) (an.d :: ar.map ArgE.d) from .cons htn htr11).fr e12
    generalize upd H11 D (.lst ((y0 :: yr).set 0 v)) = H12 at *
    have haA : argsA (an :: ar) := ⟨by simp only [List.length_cons] at htl ⊢; omega, fun x hx => by
     rcases List.mem_cons.mp hx with rfl | hx
     ·exact han
     ·exact htw x (List.mem_cons_of_mem _ hx)⟩
    walk_at "q"
    refine ⟨D, T, v :: yr, us, an :: ar, ps, rfl, h12, hta12, haA, hT12, ht12, hpA, hpl7, fun dm H13 hdm e13 => ?_⟩
    have hT13 := e13.at hT12 (fun z => nomatch z)
    have hD13 := e13.at h12 (fun z => nomatch z)
    walk_at "q"
    refine g_tupleL (SqL.of hD13) fun p14 hp14 => ?_
    have e14 : Fr [] H13 (upd H13 p14 (.tup (v :: yr))) := Fr.new hp14
    have h14 : SqT K (upd H13 p14 (.tup (v :: yr))) p14 (v :: yr) := SqT.of upd_same
    have hT14 := e14.at hT13 (fun z => nomatch z)
    generalize upd H13 p14 (.tup (v :: yr)) = H14 at *
    walk_at "q"
    refine g_tupleL (SqL.of hT14) fun p15 hp15 => ?_
    have e15 : Fr [] H14 (upd H14 p15 (.tup us)) := Fr.new hp15
    have h15 : SqT K (upd H14 p15 (.tup us)) p15 us := SqT.of upd_same
    have h145 := e15.tup h14
    generalize upd H14 p15 (.tup us) = H15 at *
    have e1215 := (e13.trans e14).trans e15
    walk_at "q"
    have lp : ∀ x, x ∈ looseL ps ((an :: ar).filterMap lastA) ↔ x ∈ looseL ps (argV (an :: ar)) := loose_iff fun x => (last_perm (an :: ar)).mem_iff
    refine ⟨.ref p14, .ref p15, an :: ar, ps, rfl, .tup h145 (hta12.fr e1215), haA, .tup h15 (ht12.fr e1215), hpA, hpl7, fun H16 c1 c2 c3 e16 => ?_, fun m2 dx H16 hm2 e16 hdx => ?_⟩
    ·have em : dm = "" := due_nil hdm c1 c2 c3 lp
     subst em
     walk_at "q"
     exact ⟨hB12.fr0 (e1215.trans e16), hV12.fr (e1215.trans e16) (fun z => nomatch z), _, _, _, _, _, _, _, _, _, _, rfl⟩
    ·have em : m2 = dm := due_eq hdm hm2 lp
     subst em
     refine g_wAs X.ex fun a ha => ?_
     walk_at "q"
     refine ⟨a_Loose, dx, [("name", .str m2), ("word", .str "loose")], .ref a_Loose, .ref a_Loose, true, rfl, rfl, rfl, hdx, G_Loose.ec, fun u h => h, X.k1, ?_⟩
     walk_at "q"
     refine ⟨a_Loose, dx, [("name", .str m2), ("word", .str "loose")], .ref a_CheckError, .ref a_CheckError, true, rfl, rfl, rfl, hdx, G_Loose.ec, fun u h => h, X.k2, ?_⟩
     walk_at "q"
     refine ⟨rfl, a_Loose, dx, [("name", .str m2), ("word", .str "loose")], .str m2, rfl, rfl, G_Loose.ec, X.n2, hdx, rfl, ?_⟩
     walk_at "q"
     refine g_byN (fun c => absurd rfl c) (fun _ => ?_)
     walk_at "q"
     exact ⟨hB12.fr0 (e1215.trans e16), hV12.fr (e1215.trans e16) (fun z => nomatch z), _, _, _, _, _, _, _, _, _, _, rfl⟩
 ·obtain ⟨hB0, hV0, z3, z4, z5, z6, z7, z8, z9, z10, z11, z12, rfl⟩ := h
  walk_at "q"
  exact q _
end
def d_LoreError_ini : He.DefD := ⟨("LoreError", some "__init__"), "__init__", "LoreError.__init__", defArgs s_LoreError_ini, defBody s_LoreError_ini, defScope s_LoreError_ini, [], []⟩
def d_Loose_ini : He.DefD := ⟨("Loose", some "__init__"), "__init__", "Loose.__init__", defArgs s_Loose_ini, defBody s_Loose_ini, defScope s_Loose_ini, [], []⟩
def d_sum_variables : He.DefD := ⟨("sum_variables", none), "sum_variables", "sum_variables", defArgs s_sum_variables, defBody s_sum_variables, defScope s_sum_variables, [], []⟩
def d_part_variables : He.DefD := ⟨("part_variables", none), "part_variables", "part_variables", defArgs s_part_variables, defBody s_part_variables, defScope s_part_variables, [], []⟩
def d_wanted : He.DefD := ⟨("wanted", none), "wanted", "wanted", defArgs s_wanted, defBody s_wanted, defScope s_wanted, [], []⟩
def d_given_by : He.DefD := ⟨("given_by", none), "given_by", "given_by", defArgs s_given_by, defBody s_given_by, defScope s_given_by, [], []⟩
def d_next_place : He.DefD := ⟨("next_place", none), "next_place", "next_place", defArgs s_next_place, defBody s_next_place, defScope s_next_place, [], []⟩
def d_ordered : He.DefD := ⟨("ordered", none), "ordered", "ordered", defArgs s_ordered, defBody s_ordered, defScope s_ordered, [], []⟩
def d_arg_variables : He.DefD := ⟨("arg_variables", none), "arg_variables", "arg_variables", defArgs s_arg_variables, defBody s_arg_variables, defScope s_arg_variables, [], []⟩
def d_twice_bound : He.DefD := ⟨("twice_bound", none), "twice_bound", "twice_bound", defArgs s_twice_bound, defBody s_twice_bound, defScope s_twice_bound, [], []⟩
def d_need_bound : He.DefD := ⟨("need_bound", none), "need_bound", "need_bound", defArgs s_need_bound, defBody s_need_bound, defScope s_need_bound, [], []⟩
def d__law_bag : He.DefD := ⟨("_law_bag", none), "_law_bag", "_law_bag", defArgs s__law_bag, defBody s__law_bag, defScope s__law_bag, [], []⟩
def d__law_pull : He.DefD := ⟨("_law_pull", none), "_law_pull", "_law_pull", defArgs s__law_pull, defBody s__law_pull, defScope s__law_pull, [], []⟩
def d__law_one : He.DefD := ⟨("_law_one", none), "_law_one", "_law_one", defArgs s__law_one, defBody s__law_one, defScope s__law_one, [], []⟩
def d__law_word : He.DefD := ⟨("_law_word", none), "_law_word", "_law_word", defArgs s__law_word, defBody s__law_word, defScope s__law_word, [], []⟩
def d__law_number : He.DefD := ⟨("_law_number", none), "_law_number", "_law_number", defArgs s__law_number, defBody s__law_number, defScope s__law_number, [], []⟩
def d__law_value : He.DefD := ⟨("_law_value", none), "_law_value", "_law_value", defArgs s__law_value, defBody s__law_value, defScope s__law_value, [], []⟩
def d__law_sum_vars : He.DefD := ⟨("_law_sum_vars", none), "_law_sum_vars", "_law_sum_vars", defArgs s__law_sum_vars, defBody s__law_sum_vars, defScope s__law_sum_vars, [], []⟩
def d__law_part_vars : He.DefD := ⟨("_law_part_vars", none), "_law_part_vars", "_law_part_vars", defArgs s__law_part_vars, defBody s__law_part_vars, defScope s__law_part_vars, [], []⟩
def d__law_gives : He.DefD := ⟨("_law_gives", none), "_law_gives", "_law_gives", defArgs s__law_gives, defBody s__law_gives, defScope s__law_gives, [], []⟩
def d__law_wants : He.DefD := ⟨("_law_wants", none), "_law_wants", "_law_wants", defArgs s__law_wants, defBody s__law_wants, defScope s__law_wants, [], []⟩
def d__law_order : He.DefD := ⟨("_law_order", none), "_law_order", "_law_order", defArgs s__law_order, defBody s__law_order, defScope s__law_order, [], []⟩
def d__law_leaf : He.DefD := ⟨("_law_leaf", none), "_law_leaf", "_law_leaf", defArgs s__law_leaf, defBody s__law_leaf, defScope s__law_leaf, [], []⟩
def d__law_sum : He.DefD := ⟨("_law_sum", none), "_law_sum", "_law_sum", defArgs s__law_sum, defBody s__law_sum, defScope s__law_sum, [], []⟩
def d__law_loose_due : He.DefD := ⟨("_law_loose_due", none), "_law_loose_due", "_law_loose_due", defArgs s__law_loose_due, defBody s__law_loose_due, defScope s__law_loose_due, [], []⟩
def d_law : He.DefD := ⟨("law", none), "law", "law", defArgs s_law, defBody s_law, defScope s_law, [], []⟩
def fnAll : List He.DefD := [d_LoreError_ini, d_Loose_ini, d_sum_variables, d_part_variables, d_wanted, d_given_by, d_next_place, d_ordered, d_arg_variables, d_twice_bound, d_need_bound, d__law_bag, d__law_pull, d__law_one, d__law_word, d__law_number, d__law_value, d__law_sum_vars, d__law_part_vars, d__law_gives, d__law_wants, d__law_order, d__law_leaf, d__law_sum, d__law_loose_due, d_law]
def faAll : List He.Fa := [.glo "sum_variables", .glo "part_variables", .glo "wanted", .glo "given_by", .glo "next_place", .glo "ordered", .glo "arg_variables", .glo "twice_bound", .glo "need_bound", .glo "_law_bag", .glo "_law_pull", .glo "_law_one", .glo "_law_word", .glo "_law_number", .glo "_law_value", .glo "_law_sum_vars", .glo "_law_part_vars", .glo "_law_gives", .glo "_law_wants", .glo "_law_order", .glo "_law_leaf", .glo "_law_sum", .glo "_law_loose_due", .glo "law", .free "ValueError", .free "all", .free "bool", .free "enumerate", .free "int", .free "isinstance", .free "len", .free "list", .free "min", .free "range", .free "sorted", .free "str", .free "tuple", .glo "LoreError", .glo "CheckError", .glo "Loose"]
def looseAll : List PySem.Str := (["LoreError", "CheckError", "Loose", "sum_variables", "part_variables", "wanted", "given_by", "next_place", "ordered", "arg_variables", "twice_bound", "need_bound", "_law_bag", "_law_pull", "_law_one", "_law_word", "_law_number", "_law_value", "_law_sum_vars", "_law_part_vars"] : List PySem.Str) ++ (["_law_gives", "_law_wants", "_law_order", "_law_leaf", "_law_sum", "_law_loose_due"] : List PySem.Str)
def tsAll : List He.Tab := []
def exL (K : PySem.W.Frag) : List Bool := [SL.ecB K (He.ga K "LoreError"),
 SL.eciB K (He.ga K "LoreError") (He.fAd K ("LoreError", some "__init__")),
 SL.ecB K (He.ga K "CheckError"),
 SL.eciB K (He.ga K "CheckError") (He.fAd K ("LoreError", some "__init__")),
 SL.ecB K (He.ga K "Loose"),
 SL.eciB K (He.ga K "Loose") (He.fAd K ("Loose", some "__init__")),
 decide (PySem.W.findIn K (.ref (He.ga K "Loose")) "word" = some none),
 decide (PySem.W.findIn K (.ref (He.ga K "Loose")) "name" = some none),
 decide (PySem.W.exmOne K (.ref (He.ga K "Loose")) (.ref (He.ga K "LoreError")) = some true),
 decide (PySem.W.kitOne K (.ref (He.ga K "Loose")) (.ref (He.ga K "Loose")) = some true),
 decide (PySem.W.kitOne K (.ref (He.ga K "Loose")) (.ref (He.ga K "CheckError")) = some true)]
def exAll (K : PySem.W.Frag) : Bool := (exL K).all id
theorem exL_at {K : PySem.W.Frag} {b : Bool} (h : exAll K = true) (i : Nat) (e : (exL K)[i]? = some b) : b = true := List.all_eq_true.mp h b (List.mem_of_getElem? e)
abbrev RR : PySem.W.OpenRow := PySem.W.OpenLaw.row PySem.Challenge.rw_sightlore_k08_what_is_loose
abbrev hk : PySem.W.Hook := SL.hookY 4 faAll fnAll tsAll exAll
def obAll (s : PySem.W.SharedT) : He.AlX := SL.obsY 4 faAll fnAll tsAll exAll (HandSHeadRun.getT s)
theorem ob_eq (s : PySem.W.SharedT) : obAll s = hk.obs s.abs := SL.obsY_eq (HandSHeadRun.getT_eq s)
theorem run (w : World) : HandSHeadRun.RunEq RR (PySem.W.view RR.prog [29]) hk obAll 6000 looseAll w := by
 refine PySem.W.byRow2 "special-get-raises" (P := fun w => HandSHeadRun.RunEq RR (PySem.W.view RR.prog [29]) hk obAll 6000 looseAll w) (fun w os => ?_) (fun w os => ?_) w
 ·kernel_rfl
 ·kernel_rfl
theorem facts {P : Program} {w : World} {K : PySem.W.Frag} {h : Heap} {mg : Str → Option Value} {f : Addr} (X : K.In h) (G : h.Ns mainGlobals mg) (hfa : mg ("law" : Str) = some (.ref f)) (c : SL.SaysY faAll fnAll tsAll exAll w K) :
  ∃ fd : FuncData, (∀ (s : Shared) (v : Value), BindsTo s fd ⟨[v], []⟩ [("_law_script", v)]) ∧ ∀ base : Heap, K.In base → base.Ns mainGlobals mg → FnG P w K mg base CX0 100 f fd ["_law_script"] (spLaw K) := by
 obtain ⟨fd_LoreError_ini, F_LoreError_ini⟩ := c.t.d.def_ 0 (d := d_LoreError_ini) rfl
 have b_LoreError_ini : Binds K fd_LoreError_ini ["self", "word"] [] := F_LoreError_ini.bindsN fun _ _ _ _ _ _ us hl => match us, hl with | [_, _], _ => rfl
 obtain ⟨fd_Loose_ini, F_Loose_ini⟩ := c.t.d.def_ 1 (d := d_Loose_ini) rfl
 have b_Loose_ini : Binds K fd_Loose_ini ["self", "name"] [] := F_Loose_ini.bindsN fun _ _ _ _ _ _ us hl => match us, hl with | [_, _], _ => rfl
 obtain ⟨fd_sum_variables, F_sum_variables⟩ := c.t.d.def_ 2 (d := d_sum_variables) rfl
 have M_sum_variables := He.glo_ok X G (c.t.d.fact 0 (f := .glo "sum_variables") rfl)
 have b_sum_variables : Binds K fd_sum_variables ["thing"] [] := F_sum_variables.bindsN fun _ _ _ _ _ _ us hl => match us, hl with | [_], _ => rfl
 obtain ⟨fd_part_variables, F_part_variables⟩ := c.t.d.def_ 3 (d := d_part_variables) rfl
 have M_part_variables := He.glo_ok X G (c.t.d.fact 1 (f := .glo "part_variables") rfl)
 have b_part_variables : Binds K fd_part_variables ["part"] [] := F_part_variables.bindsN fun _ _ _ _ _ _ us hl => match us, hl with | [_], _ => rfl
 obtain ⟨fd_wanted, F_wanted⟩ := c.t.d.def_ 4 (d := d_wanted) rfl
 have M_wanted := He.glo_ok X G (c.t.d.fact 2 (f := .glo "wanted") rfl)
 have b_wanted : Binds K fd_wanted ["part"] [] := F_wanted.bindsN fun _ _ _ _ _ _ us hl => match us, hl with | [_], _ => rfl
 obtain ⟨fd_given_by, F_given_by⟩ := c.t.d.def_ 5 (d := d_given_by) rfl
 have M_given_by := He.glo_ok X G (c.t.d.fact 3 (f := .glo "given_by") rfl)
 have b_given_by : Binds K fd_given_by ["part"] [] := F_given_by.bindsN fun _ _ _ _ _ _ us hl => match us, hl with | [_], _ => rfl
 obtain ⟨fd_next_place, F_next_place⟩ := c.t.d.def_ 6 (d := d_next_place) rfl
 have M_next_place := He.glo_ok X G (c.t.d.fact 4 (f := .glo "next_place") rfl)
 have b_next_place : Binds K fd_next_place ["parts", "left", "bound"] [] := F_next_place.bindsN fun _ _ _ _ _ _ us hl => match us, hl with | [_, _, _], _ => rfl
 obtain ⟨fd_ordered, F_ordered⟩ := c.t.d.def_ 7 (d := d_ordered) rfl
 have M_ordered := He.glo_ok X G (c.t.d.fact 5 (f := .glo "ordered") rfl)
 have b_ordered : Binds K fd_ordered ["parts"] [] := F_ordered.bindsN fun _ _ _ _ _ _ us hl => match us, hl with | [_], _ => rfl
 obtain ⟨fd_arg_variables, F_arg_variables⟩ := c.t.d.def_ 8 (d := d_arg_variables) rfl
 have M_arg_variables := He.glo_ok X G (c.t.d.fact 6 (f := .glo "arg_variables") rfl)
 have b_arg_variables : Binds K fd_arg_variables ["args"] [] := F_arg_variables.bindsN fun _ _ _ _ _ _ us hl => match us, hl with | [_], _ => rfl
 obtain ⟨fd_twice_bound, F_twice_bound⟩ := c.t.d.def_ 9 (d := d_twice_bound) rfl
 have M_twice_bound := He.glo_ok X G (c.t.d.fact 7 (f := .glo "twice_bound") rfl)
 have b_twice_bound : Binds K fd_twice_bound ["parts"] [] := F_twice_bound.bindsN fun _ _ _ _ _ _ us hl => match us, hl with | [_], _ => rfl
 obtain ⟨fd_need_bound, F_need_bound⟩ := c.t.d.def_ 10 (d := d_need_bound) rfl
 have M_need_bound := He.glo_ok X G (c.t.d.fact 8 (f := .glo "need_bound") rfl)
 have b_need_bound : Binds K fd_need_bound ["args", "parts"] [] := F_need_bound.bindsN fun _ _ _ _ _ _ us hl => match us, hl with | [_, _], _ => rfl
 obtain ⟨fd__law_bag, F__law_bag⟩ := c.t.d.def_ 11 (d := d__law_bag) rfl
 have M__law_bag := He.glo_ok X G (c.t.d.fact 9 (f := .glo "_law_bag") rfl)
 have b__law_bag : Binds K fd__law_bag ["_law_script"] [] := F__law_bag.bindsN fun _ _ _ _ _ _ us hl => match us, hl with | [_], _ => rfl
 obtain ⟨fd__law_pull, F__law_pull⟩ := c.t.d.def_ 12 (d := d__law_pull) rfl
 have M__law_pull := He.glo_ok X G (c.t.d.fact 10 (f := .glo "_law_pull") rfl)
 have b__law_pull : Binds K fd__law_pull ["_law_bag_here", "_law_upto"] [] := F__law_pull.bindsN fun _ _ _ _ _ _ us hl => match us, hl with | [_, _], _ => rfl
 obtain ⟨fd__law_one, F__law_one⟩ := c.t.d.def_ 13 (d := d__law_one) rfl
 have M__law_one := He.glo_ok X G (c.t.d.fact 11 (f := .glo "_law_one") rfl)
 have b__law_one : Binds K fd__law_one ["_law_bag_here", "_law_row"] [] := F__law_one.bindsN fun _ _ _ _ _ _ us hl => match us, hl with | [_, _], _ => rfl
 obtain ⟨fd__law_word, F__law_word⟩ := c.t.d.def_ 14 (d := d__law_word) rfl
 have M__law_word := He.glo_ok X G (c.t.d.fact 12 (f := .glo "_law_word") rfl)
 have b__law_word : Binds K fd__law_word ["_law_bag_here"] [] := F__law_word.bindsN fun _ _ _ _ _ _ us hl => match us, hl with | [_], _ => rfl
 obtain ⟨fd__law_number, F__law_number⟩ := c.t.d.def_ 15 (d := d__law_number) rfl
 have M__law_number := He.glo_ok X G (c.t.d.fact 13 (f := .glo "_law_number") rfl)
 have b__law_number : Binds K fd__law_number ["_law_bag_here"] [] := F__law_number.bindsN fun _ _ _ _ _ _ us hl => match us, hl with | [_], _ => rfl
 obtain ⟨fd__law_value, F__law_value⟩ := c.t.d.def_ 16 (d := d__law_value) rfl
 have M__law_value := He.glo_ok X G (c.t.d.fact 14 (f := .glo "_law_value") rfl)
 have b__law_value : Binds K fd__law_value ["_law_bag_here", "_law_kind"] [] := F__law_value.bindsN fun _ _ _ _ _ _ us hl => match us, hl with | [_, _], _ => rfl
 obtain ⟨fd__law_sum_vars, F__law_sum_vars⟩ := c.t.d.def_ 17 (d := d__law_sum_vars) rfl
 have M__law_sum_vars := He.glo_ok X G (c.t.d.fact 15 (f := .glo "_law_sum_vars") rfl)
 have b__law_sum_vars : Binds K fd__law_sum_vars ["_law_thing"] [] := F__law_sum_vars.bindsN fun _ _ _ _ _ _ us hl => match us, hl with | [_], _ => rfl
 obtain ⟨fd__law_part_vars, F__law_part_vars⟩ := c.t.d.def_ 18 (d := d__law_part_vars) rfl
 have M__law_part_vars := He.glo_ok X G (c.t.d.fact 16 (f := .glo "_law_part_vars") rfl)
 have b__law_part_vars : Binds K fd__law_part_vars ["_law_part"] [] := F__law_part_vars.bindsN fun _ _ _ _ _ _ us hl => match us, hl with | [_], _ => rfl
 obtain ⟨fd__law_gives, F__law_gives⟩ := c.t.d.def_ 19 (d := d__law_gives) rfl
 have M__law_gives := He.glo_ok X G (c.t.d.fact 17 (f := .glo "_law_gives") rfl)
 have b__law_gives : Binds K fd__law_gives ["_law_part"] [] := F__law_gives.bindsN fun _ _ _ _ _ _ us hl => match us, hl with | [_], _ => rfl
 obtain ⟨fd__law_wants, F__law_wants⟩ := c.t.d.def_ 20 (d := d__law_wants) rfl
 have M__law_wants := He.glo_ok X G (c.t.d.fact 18 (f := .glo "_law_wants") rfl)
 have b__law_wants : Binds K fd__law_wants ["_law_part"] [] := F__law_wants.bindsN fun _ _ _ _ _ _ us hl => match us, hl with | [_], _ => rfl
 obtain ⟨fd__law_order, F__law_order⟩ := c.t.d.def_ 21 (d := d__law_order) rfl
 have M__law_order := He.glo_ok X G (c.t.d.fact 19 (f := .glo "_law_order") rfl)
 have b__law_order : Binds K fd__law_order ["_law_parts"] [] := F__law_order.bindsN fun _ _ _ _ _ _ us hl => match us, hl with | [_], _ => rfl
 obtain ⟨fd__law_leaf, F__law_leaf⟩ := c.t.d.def_ 22 (d := d__law_leaf) rfl
 have M__law_leaf := He.glo_ok X G (c.t.d.fact 20 (f := .glo "_law_leaf") rfl)
 have b__law_leaf : Binds K fd__law_leaf ["_law_bag_here", "_law_kind", "_law_vars_of"] [] := F__law_leaf.bindsN fun _ _ _ _ _ _ us hl => match us, hl with | [_, _, _], _ => rfl
 obtain ⟨fd__law_sum, F__law_sum⟩ := c.t.d.def_ 23 (d := d__law_sum) rfl
 have M__law_sum := He.glo_ok X G (c.t.d.fact 21 (f := .glo "_law_sum") rfl)
 have b__law_sum : Binds K fd__law_sum ["_law_bag_here", "_law_vars_of", "_law_deep"] [] := F__law_sum.bindsN fun _ _ _ _ _ _ us hl => match us, hl with | [_, _, _], _ => rfl
 obtain ⟨fd__law_loose_due, F__law_loose_due⟩ := c.t.d.def_ 24 (d := d__law_loose_due) rfl
 have M__law_loose_due := He.glo_ok X G (c.t.d.fact 22 (f := .glo "_law_loose_due") rfl)
 have b__law_loose_due : Binds K fd__law_loose_due ["_law_args", "_law_parts"] [] := F__law_loose_due.bindsN fun _ _ _ _ _ _ us hl => match us, hl with | [_, _], _ => rfl
 obtain ⟨fd_law, F_law⟩ := c.t.d.def_ 25 (d := d_law) rfl
 have Z_ValueError := He.free_ok X G (c.t.d.fact 24 (f := .free "ValueError") rfl)
 have Z_all := He.free_ok X G (c.t.d.fact 25 (f := .free "all") rfl)
 have Z_bool := He.free_ok X G (c.t.d.fact 26 (f := .free "bool") rfl)
 have Z_enumerate := He.free_ok X G (c.t.d.fact 27 (f := .free "enumerate") rfl)
 have Z_int := He.free_ok X G (c.t.d.fact 28 (f := .free "int") rfl)
 have Z_isinstance := He.free_ok X G (c.t.d.fact 29 (f := .free "isinstance") rfl)
 have Z_len := He.free_ok X G (c.t.d.fact 30 (f := .free "len") rfl)
 have Z_list := He.free_ok X G (c.t.d.fact 31 (f := .free "list") rfl)
 have Z_min := He.free_ok X G (c.t.d.fact 32 (f := .free "min") rfl)
 have Z_range := He.free_ok X G (c.t.d.fact 33 (f := .free "range") rfl)
 have Z_sorted := He.free_ok X G (c.t.d.fact 34 (f := .free "sorted") rfl)
 have Z_str := He.free_ok X G (c.t.d.fact 35 (f := .free "str") rfl)
 have Z_tuple := He.free_ok X G (c.t.d.fact 36 (f := .free "tuple") rfl)
 have m_LoreError := He.glo_ok X G (c.t.d.fact 37 (f := .glo "LoreError") rfl)
 have m_CheckError := He.glo_ok X G (c.t.d.fact 38 (f := .glo "CheckError") rfl)
 have m_Loose := He.glo_ok X G (c.t.d.fact 39 (f := .glo "Loose") rfl)
 have x_ec_LoreError : (SL.ecB K (He.ga K "LoreError")) = true := exL_at c.more 0 rfl
 have x_ei_LoreError : (SL.eciB K (He.ga K "LoreError") (He.fAd K ("LoreError", some "__init__"))) = true := exL_at c.more 1 rfl
 have x_ec_CheckError : (SL.ecB K (He.ga K "CheckError")) = true := exL_at c.more 2 rfl
 have x_ei_CheckError : (SL.eciB K (He.ga K "CheckError") (He.fAd K ("LoreError", some "__init__"))) = true := exL_at c.more 3 rfl
 have x_ec_Loose : (SL.ecB K (He.ga K "Loose")) = true := exL_at c.more 4 rfl
 have x_ei_Loose : (SL.eciB K (He.ga K "Loose") (He.fAd K ("Loose", some "__init__"))) = true := exL_at c.more 5 rfl
 have x_nw_Loose : (decide (PySem.W.findIn K (.ref (He.ga K "Loose")) "word" = some none)) = true := exL_at c.more 6 rfl
 have x_nf_Loose : (decide (PySem.W.findIn K (.ref (He.ga K "Loose")) "name" = some none)) = true := exL_at c.more 7 rfl
 have x_ex : (decide (PySem.W.exmOne K (.ref (He.ga K "Loose")) (.ref (He.ga K "LoreError")) = some true)) = true := exL_at c.more 8 rfl
 have x_k1 : (decide (PySem.W.kitOne K (.ref (He.ga K "Loose")) (.ref (He.ga K "Loose")) = some true)) = true := exL_at c.more 9 rfl
 have x_k2 : (decide (PySem.W.kitOne K (.ref (He.ga K "Loose")) (.ref (He.ga K "CheckError")) = some true)) = true := exL_at c.more 10 rfl
 have eL := hfa.symm.trans (He.glo_ok X G (c.t.d.fact 23 (f := .glo "law") rfl))
 cases eL
 have bL := FunD.bindsA (ps := ["_law_script"]) F_law fun _ _ _ _ _ _ us hl => match us, hl with | [_], _ => rfl
 refine ⟨fd_law, fun s v => bL s [v] rfl, fun base _ _ => ?_⟩
 have B : Bi mg := ⟨Z_len, Z_list, Z_range⟩
 have BL : BiL mg := ⟨Z_list, Z_sorted⟩
 have BX : BiX mg := ⟨Z_ValueError⟩
 have BT : BiT mg := ⟨Z_isinstance, Z_bool, Z_int, Z_str⟩
 have BN : BiN mg := ⟨Z_all, Z_list, Z_range, Z_len⟩
 have BK : BiK mg := ⟨Z_range, Z_tuple, Z_isinstance⟩
 have BE : BiE mg := ⟨Z_enumerate, Z_sorted, Z_min, Z_range, Z_len, Z_int, Z_tuple, Z_isinstance⟩
 have XF : ExF K (He.ga K "Loose") (He.ga K "CheckError") (He.ga K "LoreError") := ⟨of_decide_eq_true x_nw_Loose, of_decide_eq_true x_nf_Loose, of_decide_eq_true x_ex, of_decide_eq_true x_k1, of_decide_eq_true x_k2⟩
 have G_LoreError : ClG P w K mg base 1 "LoreError" (He.ga K "LoreError") (spL K) := ⟨m_LoreError, ecB_ok x_ec_LoreError, _, fd_LoreError_ini, ["self", "word"], ok_LoreError_ini F_LoreError_ini BX, eciB_ok x_ei_LoreError, b_LoreError_ini⟩
 have G_CheckError : ClG P w K mg base 1 "CheckError" (He.ga K "CheckError") (spL K) := ⟨m_CheckError, ecB_ok x_ec_CheckError, _, fd_LoreError_ini, ["self", "word"], ok_LoreError_ini F_LoreError_ini BX, eciB_ok x_ei_CheckError, b_LoreError_ini⟩
 have G_Loose : ClG P w K mg base 2 "Loose" (He.ga K "Loose") (spI1 K "loose" "name") := ⟨m_Loose, ecB_ok x_ec_Loose, _, fd_Loose_ini, ["self", "name"], ok_Loose_ini F_Loose_ini G_CheckError, eciB_ok x_ei_Loose, b_Loose_ini⟩
 have C__law_bag := calG_of (P := P) (w := w) (base := base) (ok__law_bag F__law_bag B) M__law_bag F__law_bag.kp b__law_bag
 have C__law_pull := calG_of (P := P) (w := w) (base := base) (ok__law_pull F__law_pull B) M__law_pull F__law_pull.kp b__law_pull
 have C__law_one := calG_of (P := P) (w := w) (base := base) (ok__law_one F__law_one B C__law_pull) M__law_one F__law_one.kp b__law_one
 have C__law_word := calG_of (P := P) (w := w) (base := base) (ok__law_word F__law_word B C__law_pull C__law_one) M__law_word F__law_word.kp b__law_word
 have C__law_number := calG_of (P := P) (w := w) (base := base) (ok__law_number F__law_number C__law_pull) M__law_number F__law_number.kp b__law_number
 have C__law_value := calG_of (P := P) (w := w) (base := base) (ok__law_value F__law_value C__law_pull C__law_one C__law_word C__law_number) M__law_value F__law_value.kp b__law_value
 have C__law_leaf := calG_of (P := P) (w := w) (base := base) (ok__law_leaf F__law_leaf BL C__law_pull C__law_one C__law_value) M__law_leaf F__law_leaf.kp b__law_leaf
 have R__law_sum := calG_rec (P := P) (w := w) (base := base) (sp := spSum K) 50 (fun vs H Q E h => by obtain ⟨b, cs, d, m, vd, rfl, hm, _⟩ := h; exact Nat.not_lt_zero _ hm) M__law_sum F__law_sum.kp b__law_sum fun n C => ok__law_sum F__law_sum C__law_pull C__law_one C__law_leaf C
 have C__law_sum := R__law_sum 5
 have R_sum_variables := calG_rec0 (P := P) (w := w) (base := base) (sp := spSumV K) (fun vs H Q E h => by obtain ⟨v, e, m, rfl, _, _, _, hm, _⟩ := h; exact Nat.not_lt_zero _ hm) M_sum_variables F_sum_variables.kp b_sum_variables fun n C => ok_sum_variables F_sum_variables C
 have C_sum_variables := R_sum_variables 5
 have C_part_variables := calG_of (P := P) (w := w) (base := base) (ok_part_variables F_part_variables C_sum_variables) M_part_variables F_part_variables.kp b_part_variables
 have C_wanted := calG_of (P := P) (w := w) (base := base) (ok_wanted F_wanted C_part_variables) M_wanted F_wanted.kp b_wanted
 have C_given_by := calG_of (P := P) (w := w) (base := base) (ok_given_by F_given_by C_part_variables) M_given_by F_given_by.kp b_given_by
 have C_next_place := calG_of (P := P) (w := w) (base := base) (ok_next_place F_next_place BN C_wanted) M_next_place F_next_place.kp b_next_place
 have C_ordered := calG_of (P := P) (w := w) (base := base) (ok_ordered F_ordered BN C_next_place C_given_by) M_ordered F_ordered.kp b_ordered
 have C_arg_variables := calG_of (P := P) (w := w) (base := base) (ok_arg_variables F_arg_variables) M_arg_variables F_arg_variables.kp b_arg_variables
 have C_twice_bound := calG_of (P := P) (w := w) (base := base) (ok_twice_bound F_twice_bound BE C_given_by) M_twice_bound F_twice_bound.kp b_twice_bound
 have C_need_bound := calX_of (P := P) (w := w) (base := base) (ok_need_bound F_need_bound BE C_ordered C_given_by C_part_variables C_arg_variables C_twice_bound G_Loose XF.n1 XF.n2) M_need_bound F_need_bound.kp b_need_bound
 have R__law_sum_vars := calG_rec0 (P := P) (w := w) (base := base) (sp := spSumV K) (fun vs H Q E h => by obtain ⟨v, e, m, rfl, _, _, _, hm, _⟩ := h; exact Nat.not_lt_zero _ hm) M__law_sum_vars F__law_sum_vars.kp b__law_sum_vars fun n C => ok__law_sum_vars F__law_sum_vars C
 have C__law_sum_vars := R__law_sum_vars 5
 have C__law_part_vars := calG_of (P := P) (w := w) (base := base) (ok__law_part_vars F__law_part_vars C__law_sum_vars) M__law_part_vars F__law_part_vars.kp b__law_part_vars
 have C__law_gives := calG_of (P := P) (w := w) (base := base) (ok__law_gives F__law_gives C__law_part_vars) M__law_gives F__law_gives.kp b__law_gives
 have C__law_wants := calG_of (P := P) (w := w) (base := base) (ok__law_wants F__law_wants BT C__law_part_vars) M__law_wants F__law_wants.kp b__law_wants
 have C__law_order := calG_of (P := P) (w := w) (base := base) (ok__law_order F__law_order BN C__law_wants C__law_gives) M__law_order F__law_order.kp b__law_order
 have C__law_loose_due := calG_of (P := P) (w := w) (base := base) (ok__law_loose_due F__law_loose_due BE C__law_order C__law_gives C__law_part_vars) M__law_loose_due F__law_loose_due.kp b__law_loose_due
 exact ok_law F_law BK C__law_bag C__law_pull C__law_one C__law_leaf C__law_sum C__law_loose_due C_need_bound G_Loose G_CheckError G_LoreError XF
end LW
open PySem PySem.W PySem.Calls PyProof.Rows
set_option maxHeartbeats 0 in
theorem PySem.Challenge.cw_sightlore_k08_what_is_loose_holds : PySem.Challenge.rw_sightlore_k08_what_is_loose.Holds := by
 w_on; o_law
 refine HandSHeadRun.head_any (r := OpenLaw.row PySem.Challenge.rw_sightlore_k08_what_is_loose) (q := view (OpenLaw.row PySem.Challenge.rw_sightlore_k08_what_is_loose).prog [29]) (H := LW.hk) (ob := LW.obAll) (M := 6000) (loose := LW.looseAll) (d := HandSHeadRun.topDef (OpenLaw.row PySem.Challenge.rw_sightlore_k08_what_is_loose).prog 29) (kwd := []) LW.ob_eq
  (by kernel_rfl) (fun s => by kernel_rfl) LW.run (by kernel_rfl) (by kernel_rfl) (by kernel_rfl) (by rfl) (by first | assumption | decide +kernel) (by decide +kernel) ⟨rfl, rfl, rfl, rfl, rfl, by decide +kernel⟩ ?hw ?hc
 case hw => w_witness2
 case hc =>
  refine SL.walkG (l := PySem.Challenge.rw_sightlore_k08_what_is_loose) (n := 63) (k := 100) (x := "_law_script") rfl (by decide) (by kernel_rfl) ⟨rfl, by decide, by decide⟩ ?F
  intro w mg fa h Y G hmg0
  obtain ⟨K, KX, c⟩ := Y
  have hmg : mg ("law" : PySem.Str) = some (.ref fa) := by
   have e : (HandSHeadRun.topDef (OpenLaw.row PySem.Challenge.rw_sightlore_k08_what_is_loose).prog 29).name = ("law" : PySem.Str) := by kernel_rfl
   rw [← e]
   exact hmg0
  obtain ⟨fd, hb, hF⟩ := LW.facts (P := (PySem.Challenge.rw_sightlore_k08_what_is_loose).prog) (w := w) KX G hmg c
  exact ⟨K, fd, LW.spLaw K, KX, hb, fun H a ns hl hS => ⟨a, ns, rfl, hS, hl, fun _ => rfl⟩, hF⟩
