import PyProof.Rows.All
import Wide.All
import OpenK.AllK
import Wide.FinOn
import HandS.ForMost
import HandS.Zip
import HandS.Flow
import HandS.Conv
import HandS.IsInst
import HandS.Codes
import HandS.Wide
import HandS.StrMore
import HandS.Defaults
import HandS.Exc
import HandS.HeadEnd
import HandS.HeadHook2
import HandS.Head2
import HandS.RaiseMore
import HandS.Walk
import HandS.FStr
import HandS.HeadHook3
import HandS.HeadHook4
import HandS.TupAny
import HandS.SetFor
import HandS.DictComp
import HandS.ExcInit
import HandS.ExcIs
import HandS.ExcField
import HandS.ExcOwn
import HandS.WordsExc
import KE.GoesEnum
import KE.GoesMore
import KE.DataMinMax
import KE.SortKeyHeap
import HandS.SortKw
import HandS.Keys
import PySem.Challenge.RW_sightlore_k02_order_of_values_and_rows
set_option Elab.async false
set_option linter.all false
set_option maxRecDepth 100000
set_option maxHeartbeats 2000000
/-! # SL: wider rules over the hand layer: operators by the values' kinds, data of tuples, heaps that grow -/
namespace SL
open PySem PySem.Spec PyProof.Rows L2

/-! ### heaps that grow: all but the addresses in M stay; tuples always stay -/
def Fix : HO → Prop
  | .tup _ => True
  | .frz _ (.tup _) => True
  | _ => False
def Fr (M : List Addr) (H H' : Hp) : Prop := ∀ a o, H a = some o → (a ∉ M ∨ Fix o) → H' a = some o
theorem Fr.refl {M : List Addr} {H : Hp} : Fr M H H := fun _ _ h _ => h
theorem Fr.trans {M : List Addr} {H H1 H2 : Hp} (a : Fr M H H1) (b : Fr M H1 H2) : Fr M H H2 := fun x o h z => b x o (a x o h z) z
theorem Fr.mono {M N : List Addr} {H H' : Hp} (h : Fr M H H') (s : ∀ a ∈ M, a ∈ N) : Fr N H H' := fun a o e z => h a o e (z.imp (fun n m => n (s a m)) id)
theorem Fr.nil {N : List Addr} {H H' : Hp} (h : Fr [] H H') : Fr N H H' := h.mono fun _ z => nomatch z
theorem Fr.new {M : List Addr} {H : Hp} {p : Addr} {o : HO} (h : H p = none) : Fr M H (upd H p o) := fun a u e _ => by
  rw [upd_ne (ne_of_none e h)]
  exact e
theorem Fr.mut {M : List Addr} {H : Hp} {p : Addr} {o u : HO} (hm : p ∈ M) (h : H p = some u) (hu : ¬ Fix u) : Fr M H (upd H p o) := fun a v e z => by
  by_cases c : a = p
  · subst c
    rw [h] at e
    cases e
    rcases z with z | z
    · exact absurd hm z
    · exact absurd z hu
  · rw [upd_ne c]
    exact e
/-- an object that the first heap does not know may change -/
theorem Fr.over {M : List Addr} {H H' : Hp} {p : Addr} {o : HO} (e : Fr M H H') (h : H p = none) : Fr M H (upd H' p o) := fun a u ha z => by
  rw [upd_ne (ne_of_none ha h)]
  exact e a u ha z
theorem Fr.same {H H' : Hp} (h : Fr [] H H') : Same H H' := fun b o e => h b o e (.inl (fun z => nomatch z))
theorem Fr.of_same {M : List Addr} {H H' : Hp} (h : Same H H') : Fr M H H' := fun a o e _ => h a o e
theorem Fr.at {M : List Addr} {H H' : Hp} {a : Addr} {o : HO} (h : Fr M H H') (e : H a = some o) (n : a ∉ M) : H' a = some o := h a o e (.inl n)
theorem Fr.back {M : List Addr} {H H' : Hp} {p : Addr} (e : Fr M H H') (hM : p ∉ M) (h : H' p = none) : H p = none := by
  cases q : H p with
  | none => rfl
  | some o =>
    rw [e p o q (.inl hM)] at h
    cases h
theorem Fr.tup {K : PySem.W.Frag} {M : List Addr} {H H' : Hp} {a : Addr} {xs : List V} (e : Fr M H H') (h : SqT K H a xs) : SqT K H' a xs := by
  rcases h with (h | ⟨o, h⟩) | h
  · exact .inl (.inl (e a _ h (.inr trivial)))
  · exact .inl (.inr ⟨o, e a _ h (.inr trivial)⟩)
  · exact .inr h
theorem Fr.seq {K : PySem.W.Frag} {M : List Addr} {H H' : Hp} {a : Addr} {xs : List V} (e : Fr M H H') (n : a ∉ M) (h : SqL K H a xs) : SqL K H' a xs := by
  rcases h with (h | ⟨o, h⟩) | h
  · exact .inl (.inl (e a _ h (.inl n)))
  · exact .inl (.inr ⟨o, e a _ h (.inl n)⟩)
  · exact .inr h
theorem nofix_lst {xs : List V} : ¬ Fix (.lst xs) := fun z => z
theorem nofix_dK {xs : List (Key × V)} : ¬ Fix (.dK xs) := fun z => z

/-! ### data of scalars and tuples -/
mutual
inductive Td (K : PySem.W.Frag) (H : Hp) : V → PyData → Prop
  | non : Td K H .non .none
  | bl (b : Bool) : Td K H (.bl b) (.bool b)
  | int (i : Int) : Td K H (.int i) (.int i)
  | str (x : Str) : Td K H (.str x) (.str x)
  | tup {a : Addr} {xs : List V} {ds : List PyData} : SqT K H a xs → TdAll K H xs ds → Td K H (.ref a) (.tuple ds)
inductive TdAll (K : PySem.W.Frag) (H : Hp) : List V → List PyData → Prop
  | nil : TdAll K H [] []
  | cons {v : V} {vs : List V} {d : PyData} {ds : List PyData} : Td K H v d → TdAll K H vs ds → TdAll K H (v :: vs) (d :: ds)
end
section
variable {K : PySem.W.Frag} {H H' : Hp} {M : List Addr}
mutual
theorem Td.fr (e : Fr M H H') : ∀ {v : V} {d : PyData}, Td K H v d → Td K H' v d
  | _, _, .non => .non
  | _, _, .bl b => .bl b
  | _, _, .int i => .int i
  | _, _, .str x => .str x
  | _, _, .tup h hs => .tup (e.tup h) (TdAll.fr e hs)
theorem TdAll.fr (e : Fr M H H') : ∀ {vs : List V} {ds : List PyData}, TdAll K H vs ds → TdAll K H' vs ds
  | _, _, .nil => .nil
  | _, _, .cons h hs => .cons (Td.fr e h) (TdAll.fr e hs)
end
mutual
theorem Td.dp : ∀ {v : V} {d : PyData}, Td K H v d → Dp K H v d
  | _, _, .non => .non
  | _, _, .bl b => .bl b
  | _, _, .int i => .int i
  | _, _, .str x => .str x
  | _, _, .tup h hs => .tup h (TdAll.dp hs)
theorem TdAll.dp : ∀ {vs : List V} {ds : List PyData}, TdAll K H vs ds → DpAll K H vs ds
  | _, _, .nil => .nil
  | _, _, .cons h hs => .cons (Td.dp h) (TdAll.dp hs)
end
theorem Td.tuple_inv {v : V} {ds : List PyData} (h : Td K H v (.tuple ds)) : ∃ a xs, v = .ref a ∧ SqT K H a xs ∧ TdAll K H xs ds := by
  cases h with
  | tup h1 h2 => exact ⟨_, _, rfl, h1, h2⟩
theorem Td.int_inv {v : V} {i : Int} (h : Td K H v (.int i)) : v = .int i := by cases h; rfl
theorem Td.str_inv {v : V} {i : Str} (h : Td K H v (.str i)) : v = .str i := by cases h; rfl
theorem Td.bl_inv {v : V} {i : Bool} (h : Td K H v (.bool i)) : v = .bl i := by cases h; rfl
theorem Td.non_inv {v : V} (h : Td K H v .none) : v = .non := by cases h; rfl
theorem TdAll.nil_inv {vs : List V} (h : TdAll K H vs []) : vs = [] := by cases h; rfl
theorem TdAll.cons_inv {vs : List V} {d : PyData} {ds : List PyData} (h : TdAll K H vs (d :: ds)) : ∃ v ws, vs = v :: ws ∧ Td K H v d ∧ TdAll K H ws ds := by
  cases h with
  | cons h1 h2 => exact ⟨_, _, rfl, h1, h2⟩
theorem Td.t1 {v : V} {a : PyData} (h : Td K H v (.tuple [a])) : ∃ p x, v = .ref p ∧ SqT K H p [x] ∧ Td K H x a := by
  obtain ⟨p, xs, rfl, hp, h⟩ := h.tuple_inv
  obtain ⟨x, xs, rfl, hx, h⟩ := h.cons_inv
  cases h.nil_inv
  exact ⟨p, x, rfl, hp, hx⟩
theorem Td.t2 {v : V} {a b : PyData} (h : Td K H v (.tuple [a, b])) : ∃ p x y, v = .ref p ∧ SqT K H p [x, y] ∧ Td K H x a ∧ Td K H y b := by
  obtain ⟨p, xs, rfl, hp, h⟩ := h.tuple_inv
  obtain ⟨x, xs, rfl, hx, h⟩ := h.cons_inv
  obtain ⟨y, xs, rfl, hy, h⟩ := h.cons_inv
  cases h.nil_inv
  exact ⟨p, x, y, rfl, hp, hx, hy⟩
theorem Td.t3 {v : V} {a b c : PyData} (h : Td K H v (.tuple [a, b, c])) : ∃ p x y z, v = .ref p ∧ SqT K H p [x, y, z] ∧ Td K H x a ∧ Td K H y b ∧ Td K H z c := by
  obtain ⟨p, xs, rfl, hp, h⟩ := h.tuple_inv
  obtain ⟨x, xs, rfl, hx, h⟩ := h.cons_inv
  obtain ⟨y, xs, rfl, hy, h⟩ := h.cons_inv
  obtain ⟨z, xs, rfl, hz, h⟩ := h.cons_inv
  cases h.nil_inv
  exact ⟨p, x, y, z, rfl, hp, hx, hy, hz⟩
theorem Td.t4 {v : V} {a b c d : PyData} (h : Td K H v (.tuple [a, b, c, d])) : ∃ p x y z u, v = .ref p ∧ SqT K H p [x, y, z, u] ∧ Td K H x a ∧ Td K H y b ∧ Td K H z c ∧ Td K H u d := by
  obtain ⟨p, xs, rfl, hp, h⟩ := h.tuple_inv
  obtain ⟨x, xs, rfl, hx, h⟩ := h.cons_inv
  obtain ⟨y, xs, rfl, hy, h⟩ := h.cons_inv
  obtain ⟨z, xs, rfl, hz, h⟩ := h.cons_inv
  obtain ⟨u, xs, rfl, hu, h⟩ := h.cons_inv
  cases h.nil_inv
  exact ⟨p, x, y, z, u, rfl, hp, hx, hy, hz, hu⟩
end

/-! ### operators by kinds -/
/-- + : ints, texts, lists, tuples -/
def uAdd (K : PySem.W.Frag) : R2 := fun x y H Q => match x, y with
  | .int i, .int j => Q (.int (i + j)) H
  | .str a, .str b => a.length + b.length ≤ sizeLine ∧ Q (.str (a ++ b)) H
  | .ref a, .ref b => rCat (.ref a) (.ref b) H Q ∨ rCatT K (.ref a) (.ref b) H Q
  | _, _ => False
/-- - : ints -/
def uSub : R2 := fun x y H Q => match x, y with
  | .int i, .int j => Q (.int (i - j)) H
  | _, _ => False
/-- * : ints (one below 2 ^ 64, or both below a million bits), a list by an int -/
def uMul : R2 := fun x y H Q => match x, y with
  | .int i, .int j => IntMulOk i j ∧ Q (.int (i * j)) H
  | .ref a, .int k => rRep (.ref a) (.int k) H Q
  | .str a, .int k => 2 ≤ k ∧ k ≤ 1000 ∧ 0 < a.length ∧ a.length ≤ 1000 ∧ Q (.str ⟨(List.replicate k.toNat a.cps).foldl (· ++ ·) #[]⟩) H
  | _, _ => False
/-- // : by a positive divisor -/
def uDiv : R2 := fun x y H Q => match x, y with
  | .int i, .int j => CDivW i j ∧ Q (.int (i / j)) H
  | _, _ => False
def uMod : R2 := fun x y H Q => match x, y with
  | .int i, .int j => 0 < j ∧ Q (.int (i % j)) H
  | _, _ => False
def uPow : R2 := fun x y H Q => match x, y with
  | .int i, .int j => CPow i j ∧ Q (.int (i ^ j.toNat)) H
  | _, _ => False
/-- an empty one on the right: of tuples, of lists, of dicts -/
def rEqE (K : PySem.W.Frag) (x y : V) (H : Hp) (Q : Bool → Prop) : Prop :=
  (∃ a b xs, x = .ref a ∧ y = .ref b ∧ SqT K H a xs ∧ SqT K H b [] ∧ Q (decide (xs = []))) ∨ (∃ a b xs, x = .ref a ∧ y = .ref b ∧ SqL K H a xs ∧ SqL K H b [] ∧ Q (decide (xs = []))) ∨
  ∃ a b kvs, x = .ref a ∧ y = .ref b ∧ H a = some (.dK kvs) ∧ H b = some (.dK []) ∧ Q (decide (kvs = []))
/-- == -/
def uEq (K : PySem.W.Frag) : R2 := fun x y H Q => (scal x y = true ∧ Q (.bl (decide (x = y))) H) ∨ rEqD K x y H Q ∨ rEqE K x y H fun b => Q (.bl b) H
def uNe (K : PySem.W.Frag) : R2 := fun x y H Q => (scal x y = true ∧ Q (.bl (!decide (x = y))) H) ∨ rNeD K x y H Q ∨ rEqE K x y H fun b => Q (.bl (!b)) H
def uLt (K : PySem.W.Frag) : R2 := fun x y H Q => match x, y with
  | .int i, .int j => Q (.bl (decide (i < j))) H
  | .str a, .str b => Q (.bl (decide (a.cps.toList < b.cps.toList))) H
  | _, _ => False
def uGt : R2 := fun x y H Q => match x, y with
  | .int i, .int j => Q (.bl (decide (j < i))) H
  | _, _ => False
def uLe : R2 := fun x y H Q => match x, y with
  | .int i, .int j => Q (.bl (decide (i ≤ j))) H
  | .str a, .str b => Q (.bl (!decide (b.cps.toList < a.cps.toList))) H
  | _, _ => False
def uGe : R2 := fun x y H Q => match x, y with
  | .int i, .int j => Q (.bl (decide (j ≤ i))) H
  | _, _ => False
/-- in: a sign in a text; in a list or tuple of scalars -/
def uIn (K : PySem.W.Frag) : R2 := fun x y H Q => match x, y with
  | .str a, .str b => Q (.bl (!(Builtin.Str.occurrences b a 0 b.length 1).isEmpty)) H
  | x, y => rIn K false x y H Q
def uNotIn (K : PySem.W.Frag) : R2 := fun x y H Q => match x, y with
  | .str a, .str b => Q (.bl (!(!(Builtin.Str.occurrences b a 0 b.length 1).isEmpty))) H
  | x, y => rIn K true x y H Q
section
variable {X : Cx}
theorem opu_add : OpR X (binaryOp .Add) (uAdd X.K) := by
  intro pins s σ H x y v u Q I rx ry h
  cases x <;> cases y <;> first
    | exact absurd h id
    | exact op_add pins s σ H _ _ v u Q I rx ry ⟨_, _, rfl, rfl, h⟩
    | exact op_add_str pins s σ H _ _ v u Q I rx ry ⟨_, _, rfl, rfl, h.1, h.2⟩
    | exact h.elim (fun h => op_cat pins s σ H _ _ v u Q I rx ry h) (fun h => op_catT pins s σ H _ _ v u Q I rx ry h)
theorem opu_sub : OpR X (binaryOp .Sub) uSub := by
  intro pins s σ H x y v u Q I rx ry h
  cases x <;> cases y <;> first
    | exact absurd h id
    | exact op_sub pins s σ H _ _ v u Q I rx ry ⟨_, _, rfl, rfl, h⟩
theorem foldl_size (c : Array Nat) : ∀ (m : Nat) (acc : Array Nat), ((List.replicate m c).foldl (· ++ ·) acc).size = acc.size + m * c.size
  | 0, acc => by simp
  | m + 1, acc => by
    rw [List.replicate_succ, List.foldl_cons, foldl_size c m, Array.size_append, Nat.succ_mul]
    omega
theorem op_repS : OpR X (binaryOp .Mult) (fun x y H Q => ∃ (a : Str) (k : Int), x = .str a ∧ y = .int k ∧ 2 ≤ k ∧ k ≤ 1000 ∧ 0 < a.length ∧ a.length ≤ 1000 ∧ Q (.str ⟨(List.replicate k.toNat a.cps).foldl (· ++ ·) #[]⟩) H) := by
  intro pins s σ H x y v u Q I rx ry h
  obtain ⟨a, k, rfl, rfl, h1, h2, h3, h4, q⟩ := h
  obtain ⟨t, rfl⟩ := rx
  obtain ⟨t', rfl⟩ := ry
  have hm : a.length * k.toNat ≤ 1000000 := Nat.le_trans (Nat.mul_le_mul h4 (show k.toNat ≤ 1000 by omega)) (by decide)
  refine PySem.P.mul_str ?_ (fun _ _ => ?_) (fun _ _ => ?_) ?_
  · rw [decide_eq_false (show ¬ k < -(2 ^ 63) by omega), decide_eq_false (show ¬ k ≥ 2 ^ 63 by omega)]; rfl
  · have e : ((2 : Int) ^ 63 - 1) / 1000 ≤ (2 ^ 63 - 1) / k := by
      rw [Int.le_ediv_iff_mul_le (by omega)]
      have : ((2 : Int) ^ 63 - 1) / 1000 * k ≤ (2 ^ 63 - 1) / 1000 * 1000 := Int.mul_le_mul_of_nonneg_left h2 (by decide)
      have e2 : ((2 : Int) ^ 63 - 1) / 1000 * 1000 ≤ 2 ^ 63 - 1 := by decide
      omega
    have e3 : (1000 : Int) ≤ (2 ^ 63 - 1) / 1000 := by decide
    omega
  · exact decide_eq_false (by have := sizeLine_eq; omega)
  · rw [if_neg (by omega), if_neg (by simp only [Bool.or_eq_true, beq_iff_eq]; omega)]
    refine ⟨?_, .str _, H, I.tok _, ⟨_, rfl⟩, q⟩
    show ((List.replicate k.toNat a.cps).foldl (· ++ ·) #[]).size ≤ sizeLine
    rw [foldl_size]
    have e : a.cps.size = a.length := rfl
    have e2 : (#[] : Array Nat).size = 0 := rfl
    have := sizeLine_eq
    rw [e, e2, Nat.mul_comm]
    omega
theorem opu_mul : OpR X (binaryOp .Mult) uMul := by
  intro pins s σ H x y v u Q I rx ry h
  cases x <;> cases y <;> first
    | exact absurd h id
    | exact (opI fun _ _ _ _ _ _ _ hc q => mul_int q hc : OpR X (binaryOp .Mult) (rI IntMulOk fun i j => .int (i * j))) pins s σ H _ _ v u Q I rx ry ⟨_, _, rfl, rfl, h.1, h.2⟩
    | exact op_rep pins s σ H _ _ v u Q I rx ry h
    | exact op_repS pins s σ H _ _ v u Q I rx ry ⟨_, _, rfl, rfl, h⟩
theorem opu_div : OpR X (binaryOp .FloorDiv) uDiv := by
  intro pins s σ H x y v u Q I rx ry h
  cases x <;> cases y <;> first
    | exact absurd h id
    | exact op_fdivW pins s σ H _ _ v u Q I rx ry ⟨_, _, rfl, rfl, h.1, h.2⟩
theorem opu_mod : OpR X (binaryOp .Mod) uMod := by
  intro pins s σ H x y v u Q I rx ry h
  cases x <;> cases y <;> first
    | exact absurd h id
    | exact op_mod pins s σ H _ _ v u Q I rx ry ⟨_, _, rfl, rfl, h.1, h.2⟩
theorem opu_pow : OpR X (binaryOp .Pow) uPow := by
  intro pins s σ H x y v u Q I rx ry h
  cases x <;> cases y <;> first
    | exact absurd h id
    | exact op_pow pins s σ H _ _ v u Q I rx ry ⟨_, _, rfl, rfl, h.1, h.2⟩
theorem nil_of {xs : List V} {its : List Value} (r : Vals xs its) : decide (its = []) = decide (xs = []) := by
  cases r <;> rfl
theorem nil_of_kv {xs : List (Key × V)} {vs : List (Key × Value)} (r : KV xs vs) : decide (vs = []) = decide (xs = []) := by
  cases r <;> rfl
theorem size0 {its : List Value} : (its.toArray.size == 0) = decide (its = []) := by cases its <;> rfl
theorem op_eqE (hu : X.A.units + 64 < cLine) : OpR X (compareOp .Eq) (fun x y H Q => rEqE X.K x y H fun b => Q (.bl b) H) := by
  intro pins s σ H x y v u Q I rx ry h
  have hu1 : X.A.units < cLine := by omega
  rcases h with ⟨a, b, xs, rfl, rfl, ha, hb, q⟩ | ⟨a, b, xs, rfl, rfl, ha, hb, q⟩ | ⟨a, b, kvs, rfl, rfl, ha, hb, q⟩
  · cases rx; cases ry
    obtain ⟨its, r, p, _⟩ := I.tuple ha
    obtain ⟨its2, r2, p2, _⟩ := I.tuple hb
    cases r2
    refine SeqAt.RcAt.tuples (e := fun _ => true) p p2 hu1 (fun j _ h2 => absurd h2 (Nat.not_lt_zero j)) X.prog X.w _ _ ⟨.bl (decide (xs = [])), H, I, ?_, q⟩
    rw [← nil_of r, ← size0]
    simp [L2.RelV]
  · cases rx; cases ry
    obtain ⟨its, r, p, _⟩ := I.list ha
    obtain ⟨its2, r2, p2, _⟩ := I.list hb
    cases r2
    cases its with
    | nil =>
      refine SeqAt.RcAt.lists (e := fun _ => true) p.isList p2.isList rfl hu1 (fun j _ h2 => absurd h2 (Nat.not_lt_zero j)) X.prog X.w _ _ ⟨.bl (decide (xs = [])), H, I, ?_, q⟩
      rw [← nil_of r]
      rfl
    | cons c cs =>
      refine SeqAt.RcAt.lists_lengths p.isList p2.isList (by simp) hu1 X.prog X.w _ _ ⟨.bl (decide (xs = [])), H, I, ?_, q⟩
      rw [← nil_of r]
      rfl
  · cases rx; cases ry
    obtain ⟨_, ya, va, ra, da⟩ := dk_of I.hok ha
    obtain ⟨_, yb, vb, rb, db⟩ := dk_of I.hok hb
    cases rb
    refine PySem.W.keq_eq (r := true) ya yb da db hu1 (fun hl => ?_) ⟨.bl (decide (kvs = [])), H, I, ?_, q⟩
    · cases va with
      | nil => exact .nil
      | cons c cs => cases hl
    · rw [← nil_of_kv ra]
      cases va <;> rfl
theorem op_neE (hu : X.A.units + 64 < cLine) : OpR X (compareOp .NotEq) (fun x y H Q => rEqE X.K x y H fun b => Q (.bl (!b)) H) := by
  intro pins s σ H x y v u Q I rx ry h
  have hu1 : X.A.units < cLine := by omega
  rcases h with ⟨a, b, xs, rfl, rfl, ha, hb, q⟩ | ⟨a, b, xs, rfl, rfl, ha, hb, q⟩ | ⟨a, b, kvs, rfl, rfl, ha, hb, q⟩
  · cases rx; cases ry
    obtain ⟨its, r, p, _⟩ := I.tuple ha
    obtain ⟨its2, r2, p2, _⟩ := I.tuple hb
    cases r2
    refine SeqAt.RcNeAt.tuples (e := fun _ => true) p p2 hu1 (fun j _ h2 => absurd h2 (Nat.not_lt_zero j)) X.prog X.w _ _ ⟨.bl (!decide (xs = [])), H, I, ?_, q⟩
    rw [← nil_of r, ← size0]
    simp [L2.RelV]
  · cases rx; cases ry
    obtain ⟨its, r, p, _⟩ := I.list ha
    obtain ⟨its2, r2, p2, _⟩ := I.list hb
    cases r2
    cases its with
    | nil =>
      refine SeqAt.RcNeAt.lists (e := fun _ => true) p.isList p2.isList rfl hu1 (fun j _ h2 => absurd h2 (Nat.not_lt_zero j)) X.prog X.w _ _ ⟨.bl (!decide (xs = [])), H, I, ?_, q⟩
      rw [← nil_of r]
      rfl
    | cons c cs =>
      refine SeqAt.RcNeAt.lists_lengths p.isList p2.isList (by simp) hu1 X.prog X.w _ _ ⟨.bl (!decide (xs = [])), H, I, ?_, q⟩
      rw [← nil_of r]
      rfl
  · cases rx; cases ry
    obtain ⟨_, ya, va, ra, da⟩ := dk_of I.hok ha
    obtain ⟨_, yb, vb, rb, db⟩ := dk_of I.hok hb
    cases rb
    refine PySem.W.keq_ne (r := true) ya yb da db hu1 (fun hl => ?_) ⟨.bl (!decide (kvs = [])), H, I, ?_, q⟩
    · cases va with
      | nil => exact .nil
      | cons c cs => cases hl
    · rw [← nil_of_kv ra]
      cases va <;> rfl
theorem opu_eq (hu : X.A.units + 64 < cLine) : OpR X (compareOp .Eq) (uEq X.K) := by
  intro pins s σ H x y v u Q I rx ry h
  exact h.elim (fun h => op_eq pins s σ H _ _ v u Q I rx ry h) (fun h => h.elim (fun h => op_eqD hu pins s σ H _ _ v u Q I rx ry h) (fun h => op_eqE hu pins s σ H _ _ v u Q I rx ry h))
theorem opu_ne (hu : X.A.units + 64 < cLine) : OpR X (compareOp .NotEq) (uNe X.K) := by
  intro pins s σ H x y v u Q I rx ry h
  exact h.elim (fun h => op_ne pins s σ H _ _ v u Q I rx ry h) (fun h => h.elim (fun h => op_neD hu pins s σ H _ _ v u Q I rx ry h) (fun h => op_neE hu pins s σ H _ _ v u Q I rx ry h))
theorem opu_lt : OpR X (compareOp .Lt) (uLt X.K) := by
  intro pins s σ H x y v u Q I rx ry h
  cases x <;> cases y <;> first
    | exact absurd h id
    | exact op_lt pins s σ H _ _ v u Q I rx ry ⟨_, _, rfl, rfl, h⟩
    | exact op_lt_str pins s σ H _ _ v u Q I rx ry ⟨_, _, rfl, rfl, h⟩
theorem opu_gt : OpR X (compareOp .Gt) uGt := by
  intro pins s σ H x y v u Q I rx ry h
  cases x <;> cases y <;> first
    | exact absurd h id
    | exact op_gt pins s σ H _ _ v u Q I rx ry ⟨_, _, rfl, rfl, h⟩
theorem opu_le : OpR X (compareOp .LtE) uLe := by
  intro pins s σ H x y v u Q I rx ry h
  cases x <;> cases y <;> first
    | exact absurd h id
    | exact op_le pins s σ H _ _ v u Q I rx ry ⟨_, _, rfl, rfl, h⟩
    | exact op_le_str pins s σ H _ _ v u Q I rx ry ⟨_, _, rfl, rfl, h⟩
theorem opu_ge : OpR X (compareOp .GtE) uGe := by
  intro pins s σ H x y v u Q I rx ry h
  cases x <;> cases y <;> first
    | exact absurd h id
    | exact op_ge pins s σ H _ _ v u Q I rx ry ⟨_, _, rfl, rfl, h⟩
theorem opu_in : OpR X (compareOp .In) (uIn X.K) := by
  intro pins s σ H x y v u Q I rx ry h
  cases x <;> cases y <;> first
    | exact op_in_str pins s σ H _ _ v u Q I rx ry ⟨_, _, rfl, rfl, h⟩
    | exact op_in_seq pins s σ H _ _ v u Q I rx ry h
theorem opu_notIn : OpR X (compareOp .NotIn) (uNotIn X.K) := by
  intro pins s σ H x y v u Q I rx ry h
  cases x <;> cases y <;> first
    | exact op_notin_str pins s σ H _ _ v u Q I rx ry ⟨_, _, rfl, rfl, h⟩
    | exact op_notIn_seq pins s σ H _ _ v u Q I rx ry h
end
end SL

set_option Elab.async false
set_option linter.all false
set_option maxRecDepth 100000
set_option maxHeartbeats 2000000
/-! # SL2: readings step by step -/
namespace SL
open PySem PySem.Spec PyProof.Rows L2
section
variable {K : PySem.W.Frag} {σ : L2.St} {H : Hp} {Q : VK} {R : Bool → Hp → Prop} {D : Ends} {v x y : V} {i : Nat} {ta tb tc te : TE} {t u : TT} {ts tu : TS} {r : R2} {G : TG}
theorem g_var (h : σ[i]? = some (some v)) (q : Q v H) : tVar i σ H Q := ⟨v, h, q⟩
theorem g_c (q : Q v H) : tC v σ H Q := q
theorem g_op (q : ta σ H fun x H1 => tb σ H1 fun y H2 => r x y H2 Q) : tOp r ta tb σ H Q := q
theorem g_un {ru : V → Hp → VK → Prop} (q : ta σ H fun x H1 => ru x H1 Q) : tUn ru ta σ H Q := q
theorem g_test (q : ta σ H fun x H' => ∃ k, x = .bl k ∧ R k H') : tTest ta σ H R := q
theorem g_B (q : ta σ H fun x H' => ∃ k, x = .bl k ∧ R k H') : tB ta σ H R := q
theorem g_k {A : Bool → Prop} {b : Bool} (q : A b) : ∃ k, V.bl b = V.bl k ∧ A k := ⟨b, rfl, q⟩
theorem g_and (q : t σ H fun c H1 => if c = true then u σ H1 R else R false H1) : tAnd t u σ H R := q
theorem g_or (q : t σ H fun c H1 => if c = true then R true H1 else u σ H1 R) : tOr t u σ H R := q
theorem g_not (q : t σ H fun c H1 => R (!c) H1) : tNot t σ H R := q
theorem g_ifE (q : t σ H fun c H1 => if c = true then ta σ H1 Q else tb σ H1 Q) : tIf t ta tb σ H Q := q
theorem g_seq (q : ts { D with nx := tu D } σ H) : tSeq ts tu D σ H := q
theorem g_asg (q : te σ H fun w H1 => G w σ H1 D.nx) : tAsg te G D σ H := q
theorem g_name {P : L2.St → Hp → Prop} (q : P (σ.set i (some v)) H) : gName i v σ H P := q
theorem g_sub {to ti : TE} {tset : TSet} {P : L2.St → Hp → Prop} (q : to σ H fun o H1 => ti σ H1 fun k H2 => tset o k v H2 fun H3 => P σ H3) : gSub to ti tset v σ H P := q
theorem g_if (q : t σ H fun b H1 => if b = true then ts D σ H1 else tu D σ H1) : tIfS t ts tu D σ H := q
theorem g_ret (q : te σ H D.rt) : tRet te D σ H := q
theorem g_next (q : D.nx σ H) : tNext D σ H := q
theorem g_drop (q : te σ H fun _ H1 => D.nx σ H1) : tDrop te D σ H := q
theorem g_nil {A : List V → Hp → Prop} (q : A [] H) : tNil σ H A := q
theorem g_cons {tr : TA} {A : List V → Hp → Prop} (q : ta σ H fun x H1 => tr σ H1 fun xs H2 => A (x :: xs) H2) : tCons ta tr σ H A := q
theorem g_tup {tl : TA} (q : tl σ H fun xs H1 => xs.length ≤ sizeLine ∧ ∀ p, H1 p = none → Q (.ref p) (upd H1 p (.tup xs))) : tTup tl σ H Q := q
theorem g_lst {tl : TA} (q : tl σ H fun xs H1 => xs.length ≤ sizeLine ∧ ∀ p, H1 p = none → Q (.ref p) (upd H1 p (.lst xs))) : tLst tl σ H Q := q
theorem g_cb {rc : List V → Hp → VK → Prop} {tl : TA} (q : tl σ H fun vs H1 => rc vs H1 Q) : tCB rc tl σ H Q := q
theorem g_call {sp : Sp} {dvs : List V} {E : XK} {tl : TA} (q : tl σ H fun vs H1 => sp (vs ++ dvs) H1 Q E) : tCall sp dvs E tl σ H Q := q
theorem g_sl {rs : V → Option Int → Option Int → Hp → VK → Prop} {tl th : TO} (q : te σ H fun x H1 => tl σ H1 fun l H2 => th σ H2 fun u H3 => rs x l u H3 Q) : tSl rs te tl th σ H Q := q
theorem g_noPart {A : Option Int → Hp → Prop} (q : A none H) : tNoPart σ H A := q
theorem g_part {A : Option Int → Hp → Prop} (q : te σ H fun x H1 => ∃ i, x = .int i ∧ A (some i) H1) : tPart te σ H A := q
theorem g_ki {A : Int → Prop} {i : Int} (q : A i) : ∃ k, V.int i = V.int k ∧ A k := ⟨i, rfl, q⟩
theorem g_for {wi : TI} (q : wi σ H fun J H1 => ∃ W : Nat → Nat → L2.St → Hp → Prop, (∃ m, W 0 m σ H1) ∧ ∀ i m σ H, W i m σ H →
    (J.stop i H ∧ D.nx σ H) ∨ (J.go i H ∧ ∃ N : L2.St → Hp → Prop, (∀ σ' H', N σ' H' → ∃ m', m' < m ∧ W (i + 1) m' σ' H') ∧ ∀ x H', J.yld i H x H' → G x σ H' fun σ2 H2 => ts { D with nx := N, ct := N, bk := D.nx } σ2 H2)) : tFor wi G ts D σ H := q
theorem g_iR1 {tl : TA} {S : It → Hp → Prop} (q : tl σ H fun vs H1 => ∃ j : Int, vs = [.int j] ∧ -(2 ^ 62) ≤ j ∧ j < 2 ^ 62 ∧ S (Itr 0 j.toNat) H1) : iRng1 tl σ H S := q
theorem g_iR2 {tl : TA} {S : It → Hp → Prop} (q : tl σ H fun vs H1 => ∃ i j : Int, vs = [.int i, .int j] ∧ (-(2 ^ 62) ≤ i ∧ i < 2 ^ 62 ∧ -(2 ^ 62) ≤ j ∧ j < 2 ^ 62) ∧ S (Itr i (j - i).toNat) H1) : iRng2 tl σ H S := q
theorem g_iL {S : It → Hp → Prop} (q : te σ H fun x H1 => ∃ a, x = .ref a ∧ (∃ xs, SqL K H1 a xs) ∧ S (Itl K a) H1) : iList K te σ H S := q
theorem g_iT {S : It → Hp → Prop} (q : te σ H fun x H1 => ∃ a, x = .ref a ∧ (∃ xs, SqT K H1 a xs) ∧ S (Itt K a) H1) : iTup K te σ H S := q
theorem g_lc {wi : TI} {vs : List Nat} (q : wi σ H fun J H1 => ∀ D, H1 D = none → ∃ W : Nat → Nat → Hp → Prop, (∃ m, W 0 m (upd H1 D (.lst []))) ∧ ∀ i m H, W i m H →
  (J.stop i H ∧ Q (.ref D) H) ∨ (J.go i H ∧ ∃ Nx : Hp → Prop, (∀ H', Nx H' → ∃ m', m' < m ∧ W (i + 1) m' H') ∧ ∀ x H', J.yld i H x H' → G x (wipe σ vs) H' fun σ2 H2 => wipe σ2 vs = wipe σ vs ∧ t σ2 H2 fun b H3 =>
    if b = true then te σ2 H3 fun y H4 => ∃ acc, H4 D = some (.lst acc) ∧ acc.length < sizeLine ∧ Nx (upd H4 D (.lst (acc ++ [y]))) else Nx H3)) : tLc wi G t te vs σ H Q := q
theorem g_gtup {p : Addr} {xs : List V} {n : Nat} {tt : TGs} {P : L2.St → Hp → Prop} (h : SqT K H p xs) (hl : xs.length = n) (q : tt xs σ H P) : gTup K n tt (.ref p) σ H P := ⟨p, xs, rfl, h, hl, q⟩
theorem g_gcons {xs : List V} {tt : TGs} {P : L2.St → Hp → Prop} (q : G v σ H fun σ' H' => tt xs σ' H' P) : gCons G tt (v :: xs) σ H P := ⟨v, xs, rfl, q⟩
theorem g_gnil {P : L2.St → Hp → Prop} (q : P σ H) : gNil [] σ H P := ⟨rfl, q⟩
theorem g_yes (q : R true H) : tYes σ H R := q
theorem g_andT (q : ta σ H fun x H1 => ∃ k, TruV K x H1 k ∧ if k = true then tb σ H1 Q else Q x H1) : tAndT K ta tb σ H Q := q
theorem g_orT (q : ta σ H fun x H1 => ∃ k, TruV K x H1 k ∧ if k = true then Q x H1 else tb σ H1 Q) : tOrT K ta tb σ H Q := q
theorem g_notT (q : ta σ H fun x H1 => ∃ k, TruV K x H1 k ∧ Q (.bl (!k)) H1) : tNotT K ta σ H Q := q
theorem g_truB {A : Bool → Prop} {b : Bool} (q : A b) : ∃ k, TruV K (.bl b) H k ∧ A k := ⟨b, rfl, q⟩
/-! operators -/
theorem g_addI {i j : Int} (q : Q (.int (i + j)) H) : uAdd K (.int i) (.int j) H Q := q
theorem g_addS {a b : Str} (h : a.length + b.length ≤ sizeLine) (q : Q (.str (a ++ b)) H) : uAdd K (.str a) (.str b) H Q := ⟨h, q⟩
theorem g_addL {a b : Addr} {xs ys : List V} (h : H a = some (.lst xs)) (h2 : H b = some (.lst ys)) (hs : xs.length + ys.length ≤ sizeLine) (q : ∀ p, H p = none → Q (.ref p) (upd H p (.lst (xs ++ ys)))) : uAdd K (.ref a) (.ref b) H Q :=
  .inl ⟨a, b, xs, ys, rfl, rfl, h, h2, hs, q⟩
theorem g_subI {i j : Int} (q : Q (.int (i - j)) H) : uSub (.int i) (.int j) H Q := q
theorem g_mulI {i j : Int} (h : IntMulOk i j) (q : Q (.int (i * j)) H) : uMul (.int i) (.int j) H Q := ⟨h, q⟩
theorem g_divI {i j : Int} (h : CDivW i j) (q : Q (.int (i / j)) H) : uDiv (.int i) (.int j) H Q := ⟨h, q⟩
theorem g_modI {i j : Int} (h : 0 < j) (q : Q (.int (i % j)) H) : uMod (.int i) (.int j) H Q := ⟨h, q⟩
theorem g_powI {i j : Int} (h : CPow i j) (q : Q (.int (i ^ j.toNat)) H) : uPow (.int i) (.int j) H Q := ⟨h, q⟩
theorem g_ltI {i j : Int} (q : Q (.bl (decide (i < j))) H) : uLt K (.int i) (.int j) H Q := q
theorem g_gtI {i j : Int} (q : Q (.bl (decide (j < i))) H) : uGt (.int i) (.int j) H Q := q
theorem g_leI {i j : Int} (q : Q (.bl (decide (i ≤ j))) H) : uLe (.int i) (.int j) H Q := q
theorem g_geI {i j : Int} (q : Q (.bl (decide (j ≤ i))) H) : uGe (.int i) (.int j) H Q := q
theorem dec_i {i j : Int} : decide (V.int i = V.int j) = decide (i = j) := by
  by_cases h : i = j
  · rw [decide_eq_true h, h]; exact decide_eq_true rfl
  · rw [decide_eq_false h]; exact decide_eq_false fun z => h (V.int.inj z)
theorem dec_s {i j : Str} : decide (V.str i = V.str j) = decide (i = j) := by
  by_cases h : i = j
  · rw [decide_eq_true h, h]; exact decide_eq_true rfl
  · rw [decide_eq_false h]; exact decide_eq_false fun z => h (V.str.inj z)
theorem dec_b {i j : Bool} : decide (V.bl i = V.bl j) = decide (i = j) := by
  by_cases h : i = j
  · rw [decide_eq_true h, h]; exact decide_eq_true rfl
  · rw [decide_eq_false h]; exact decide_eq_false fun z => h (V.bl.inj z)
theorem g_eqI {i j : Int} (q : Q (.bl (decide (i = j))) H) : uEq K (.int i) (.int j) H Q := .inl ⟨rfl, by rw [dec_i]; exact q⟩
theorem g_eqS {i j : Str} (q : Q (.bl (decide (i = j))) H) : uEq K (.str i) (.str j) H Q := .inl ⟨rfl, by rw [dec_s]; exact q⟩
theorem g_eqB {i j : Bool} (q : Q (.bl (decide (i = j))) H) : uEq K (.bl i) (.bl j) H Q := .inl ⟨rfl, by rw [dec_b]; exact q⟩
theorem g_eqIS {i : Int} {j : Str} (q : Q (.bl false) H) : uEq K (.int i) (.str j) H Q := .inl ⟨rfl, q⟩
theorem g_eqSI {i : Int} {j : Str} (q : Q (.bl false) H) : uEq K (.str j) (.int i) H Q := .inl ⟨rfl, q⟩
theorem g_eqD {d e : PyData} (h : Dp K H x d) (h2 : Dp K H y e) (hs : SeqAt.shaped d = true) (hs2 : SeqAt.shaped e = true) (q : Q (.bl (PyData.eqv d e)) H) : uEq K x y H Q := .inr (.inl ⟨d, e, h, h2, hs, hs2, q⟩)
theorem g_neI {i j : Int} (q : Q (.bl (!decide (i = j))) H) : uNe K (.int i) (.int j) H Q := .inl ⟨rfl, by rw [dec_i]; exact q⟩
theorem g_neS {i j : Str} (q : Q (.bl (!decide (i = j))) H) : uNe K (.str i) (.str j) H Q := .inl ⟨rfl, by rw [dec_s]; exact q⟩
theorem g_neB {i j : Bool} (q : Q (.bl (!decide (i = j))) H) : uNe K (.bl i) (.bl j) H Q := .inl ⟨rfl, by rw [dec_b]; exact q⟩
theorem g_neD {d e : PyData} (h : Dp K H x d) (h2 : Dp K H y e) (hs : SeqAt.shaped d = true) (hs2 : SeqAt.shaped e = true) (q : Q (.bl (!PyData.eqv d e)) H) : uNe K x y H Q := .inr (.inl ⟨d, e, h, h2, hs, hs2, q⟩)
theorem g_eqET {a b : Addr} {xs : List V} (h : SqT K H a xs) (h2 : SqT K H b []) (q : Q (.bl (decide (xs = []))) H) : uEq K (.ref a) (.ref b) H Q := .inr (.inr (.inl ⟨a, b, xs, rfl, rfl, h, h2, q⟩))
theorem g_eqEL {a b : Addr} {xs : List V} (h : SqL K H a xs) (h2 : SqL K H b []) (q : Q (.bl (decide (xs = []))) H) : uEq K (.ref a) (.ref b) H Q := .inr (.inr (.inr (.inl ⟨a, b, xs, rfl, rfl, h, h2, q⟩)))
theorem g_eqEK {a b : Addr} {kvs : List (Key × V)} (h : H a = some (.dK kvs)) (h2 : H b = some (.dK [])) (q : Q (.bl (decide (kvs = []))) H) : uEq K (.ref a) (.ref b) H Q := .inr (.inr (.inr (.inr ⟨a, b, kvs, rfl, rfl, h, h2, q⟩)))
theorem g_neET {a b : Addr} {xs : List V} (h : SqT K H a xs) (h2 : SqT K H b []) (q : Q (.bl (!decide (xs = []))) H) : uNe K (.ref a) (.ref b) H Q := .inr (.inr (.inl ⟨a, b, xs, rfl, rfl, h, h2, q⟩))
theorem g_neEL {a b : Addr} {xs : List V} (h : SqL K H a xs) (h2 : SqL K H b []) (q : Q (.bl (!decide (xs = []))) H) : uNe K (.ref a) (.ref b) H Q := .inr (.inr (.inr (.inl ⟨a, b, xs, rfl, rfl, h, h2, q⟩)))
theorem g_neEK {a b : Addr} {kvs : List (Key × V)} (h : H a = some (.dK kvs)) (h2 : H b = some (.dK [])) (q : Q (.bl (!decide (kvs = []))) H) : uNe K (.ref a) (.ref b) H Q := .inr (.inr (.inr (.inr ⟨a, b, kvs, rfl, rfl, h, h2, q⟩)))
theorem g_mulS {a : Str} {k : Int} (h1 : 2 ≤ k) (h2 : k ≤ 1000) (h3 : 0 < a.length) (h4 : a.length ≤ 1000) (q : Q (.str ⟨(List.replicate k.toNat a.cps).foldl (· ++ ·) #[]⟩) H) : uMul (.str a) (.int k) H Q := ⟨h1, h2, h3, h4, q⟩
theorem g_ixL {p : Addr} {xs : List V} {i : Int} (h : SqL K H p xs) (e : atI xs i = some v) (q : Q v H) : rIx K (.ref p) (.int i) H Q := .inl ⟨p, xs, i, v, rfl, rfl, h, e, q⟩
theorem g_ixT {p : Addr} {xs : List V} {i : Int} (h : SqT K H p xs) (e : atI xs i = some v) (q : Q v H) : rIx K (.ref p) (.int i) H Q := .inr (.inl ⟨p, xs, i, v, rfl, rfl, h, e, q⟩)
theorem g_ixS {z : Str} {i : Int} {c : Nat} (h : z.length ≤ sizeLine) (e : atI z.cps.toList i = some c) (q : Q (.str ⟨#[c]⟩) H) : rIx K (.str z) (.int i) H Q := .inr (.inr ⟨z, i, c, rfl, rfl, h, e, q⟩)
theorem g_setL {p : Addr} {xs : List V} {k : Int} {j : Nat} {P : Hp → Prop} (h : H p = some (.lst xs)) (e : ixN xs.length k = some j) (q : P (upd H p (.lst (xs.set j v)))) : rSetL (.ref p) (.int k) v H P := ⟨p, xs, k, j, rfl, rfl, h, e, q⟩
theorem g_slL {p : Addr} {xs : List V} {lo hi : Option Int} (h : SqL K H p xs) (q : ∀ p, H p = none → Q (.ref p) (upd H p (.lst (cutV xs lo hi)))) : rSlL K (.ref p) lo hi H Q := ⟨p, xs, rfl, h, q⟩
theorem cut0 (xs : List V) (n : Nat) : cutV xs none (some (n : Int)) = xs.take n := by
  unfold cutV
  rw [HT.sIx_none, HT.sIx_nat, List.drop_zero, Nat.sub_zero]
  by_cases h : n ≤ xs.length
  · rw [Nat.min_eq_left h]
  · rw [Nat.min_eq_right (by omega), List.take_length, List.take_of_length_le (by omega)]
theorem cutA (xs : List V) (n : Nat) : cutV xs (some (n : Int)) none = xs.drop n := by
  unfold cutV
  rw [HT.sIx_none, HT.sIx_nat]
  by_cases h : n ≤ xs.length
  · rw [Nat.min_eq_left h, ← List.length_drop, List.take_length]
  · rw [Nat.min_eq_right (by omega), Nat.sub_self, List.take_zero, List.drop_eq_nil_of_le (by omega)]
theorem cx_K {CX : CXT} {P : Program} {w : World} {mg : Str → Option Value} {base : Heap} {N : List Str} {qual : Str} {scope : Scope} {f : Addr} {cd : Value} {A : Around} {outer : List Env} {s : Shared} {H : Hp} {E : XK} : (cxOf CX P w K mg base N qual scope f cd A outer s H E).nox.K = K := rfl
theorem rd_start {tm : TS} {N : List Str} {vs : List V} {σ0 : L2.St} (e : start N vs = σ0) (q : tm D σ0 H) : tm D (start N vs) H := by rw [e]; exact q
theorem lt_of {n : Nat} (h : n ≤ 100000) : n < sizeLine := Nat.lt_of_le_of_lt h (by decide)
theorem nil_le : ([] : List V).length ≤ sizeLine := Nat.zero_le _
theorem le_of {n : Nat} (h : n ≤ 100000) : n ≤ sizeLine := Nat.le_trans h (by decide)
/-! ifs -/
theorem g_tt {c : Bool} {A B : Prop} (h : c = true) (q : A) : if c = true then A else B := by rw [if_pos h]; exact q
theorem g_ff {c : Bool} {A B : Prop} (h : c = false) (q : B) : if c = true then A else B := by rw [if_neg (by rw [h]; exact Bool.false_ne_true)]; exact q
theorem g_by {c : Prop} [Decidable c] {A B : Prop} (h1 : c → A) (h2 : ¬ c → B) : if decide c = true then A else B := by
  by_cases h : c
  · exact g_tt (decide_eq_true h) (h1 h)
  · exact g_ff (decide_eq_false h) (h2 h)
theorem g_byN {c : Prop} [Decidable c] {A B : Prop} (h1 : ¬ c → A) (h2 : c → B) : if (!decide c) = true then A else B := by
  by_cases h : c
  · exact g_ff (by rw [decide_eq_true h]; rfl) (h2 h)
  · exact g_tt (by rw [decide_eq_false h]; rfl) (h1 h)
theorem g_byB {c : Bool} {A B : Prop} (h1 : c = true → A) (h2 : c = false → B) : if c = true then A else B := by
  cases c with
  | true => exact h1 rfl
  | false => exact h2 rfl
theorem mulR {i j : Int} (h1 : -(2 ^ 64) < j) (h2 : j < 2 ^ 64) : IntMulOk i j := .of_right (intBits_le_64 h1 h2)
theorem mulL {i j : Int} (h1 : -(2 ^ 64) < i) (h2 : i < 2 ^ 64) : IntMulOk i j := .of_left (intBits_le_64 h1 h2)
theorem divS {i j : Int} (h : 0 < j) (h2 : j < 2 ^ 200) : CDivW i j := by
  refine ⟨h, ?_⟩
  have e : j.natAbs < 2 ^ 200 := by omega
  exact Nat.lt_of_lt_of_le (PySem.Flt.log2_lt_of (by decide) e) (by decide)
end

end SL

set_option Elab.async false
set_option linter.all false
set_option maxRecDepth 100000
set_option maxHeartbeats 2000000
/-! # SL3: calls: defs by their promises, built-ins by the values' kinds -/
namespace SL
open PySem PySem.Spec PyProof.Rows L2
/-- a def of the module that may be called by its name and lets nothing out -/
structure Cal (P : Program) (w : World) (K : PySem.W.Frag) (mg : Str → Option Value) (base : Heap) (k : Nat) (x : Str) (sp : Sp) : Prop where
  ex : ∃ (f : Addr) (fd : FuncData) (ps : List Str), FnOk P w K mg base CX0 k f fd ps sp ∧ mg x = some (.ref f) ∧ PySem.W.keepIn K (.ref f) = true ∧ Binds K fd ps []
section
variable {P : Program} {w : World} {K : PySem.W.Frag} {mg : Str → Option Value} {base : Heap}
theorem Cal.mono {j k : Nat} {x : Str} {sp : Sp} (c : Cal P w K mg base j x sp) (h : j ≤ k) : Cal P w K mg base k x sp := by
  obtain ⟨f, fd, ps, F, m, kp, b⟩ := c.ex
  exact ⟨f, fd, ps, F.mono h, m, kp, b⟩
theorem Cal.imp {k : Nat} {x : Str} {sp sp' : Sp} (c : Cal P w K mg base k x sp) (h : ∀ vs H Q E, sp' vs H Q E → sp vs H Q E) : Cal P w K mg base k x sp' := by
  obtain ⟨f, fd, ps, F, m, kp, b⟩ := c.ex
  exact ⟨f, fd, ps, F.imp h, m, kp, b⟩
end
section
variable {X : Cx} {k j : Nat} {x : Str} {sp : Sp} {p pos : Pos} {e : Expr} {es : List Expr} {t : TA}
theorem pe_cal (c : Cal X.prog X.w X.K X.mg X.base k x sp) (hr : Room j X.A) (hg : Gl X x) (ha : PA X (e :: es) t) (hk : k ≤ j := by first | decide | omega)
    (hdb : (x == ("__debug__" : Str)) = false := by decide) (he : starEach (e :: es) X.env = (false, eval e X.env) :: starEach es X.env := by rfl) (hpl : (backTo pos (starEach es X.env)).any (·.1) = false := by rfl) :
    PE X (.Call (.Name x p) (e :: es) [] pos) (tCall sp [] E0 t) := by
  obtain ⟨f, fd, ps, F, hm, kp, b⟩ := c.ex
  exact pe_call F (hr.mono hk) hg hm kp b .nil pass0 ha hdb he hpl
/-! ### built-ins -/
def uLen (K : PySem.W.Frag) : List V → Hp → VK → Prop := fun xs H Q => ∃ x, xs = [x] ∧ match x with
  | .str z => z.length ≤ sizeLine ∧ Q (.int z.length) H
  | .ref p => (∃ ys, (SqL K H p ys ∨ SqT K H p ys) ∧ Q (.int ys.length) H) ∨ ∃ kvs, H p = some (.dK kvs) ∧ Q (.int kvs.length) H
  | _ => False
theorem callu_len : CallR X (.builtin "len") (uLen X.K) := by
  intro pins s σ H xs us Q I r h
  obtain ⟨x, rfl, h⟩ := h
  cases x <;> first
    | exact absurd h id
    | exact call_len_str pins s σ H _ us Q I r ⟨_, rfl, h.1, h.2⟩
    | (rcases h with ⟨ys, h1, h2⟩ | ⟨kvs, h1, h2⟩
       · exact call_len_seq pins s σ H _ us Q I r ⟨_, ys, rfl, h1, h2⟩
       · obtain ⟨u, rfl, r1⟩ := vals1 r
         cases r1
         exact d_len I (.inl h1) fun t s' I' => ⟨.int _, H, I', ⟨_, rfl⟩, h2⟩)
def uList (K : PySem.W.Frag) : List V → Hp → VK → Prop := fun xs H Q => (∃ p ys, xs = [.ref p] ∧ (SqL K H p ys ∨ SqT K H p ys) ∧ ∀ l, H l = none → Q (.ref l) (upd H l (.lst ys))) ∨ rListD xs H Q
theorem callu_list (hc : X.calm = true := by rfl) : CallR X (.type "list") (uList X.K) := call_list_of.or (call_list_dK hc)
def uIsi (K : PySem.W.Frag) : List V → Hp → VK → Prop := fun xs H Q => rIsi K xs H Q ∨ rIsiT K xs H Q
theorem callu_isi : CallR X (.builtin "isinstance") (uIsi X.K) := call_isi.or call_isiT
end
section
variable {K : PySem.W.Frag} {H : Hp} {Q : VK}
theorem g_len {p : Addr} {ys : List V} (h : SqL K H p ys ∨ SqT K H p ys) (q : Q (.int ys.length) H) : uLen K [.ref p] H Q := ⟨_, rfl, .inl ⟨ys, h, q⟩⟩
theorem g_lenK {p : Addr} {kvs : List (Key × V)} (h : H p = some (.dK kvs)) (q : Q (.int kvs.length) H) : uLen K [.ref p] H Q := ⟨_, rfl, .inr ⟨kvs, h, q⟩⟩
theorem g_lenS {z : Str} (h : z.length ≤ sizeLine) (q : Q (.int z.length) H) : uLen K [.str z] H Q := ⟨_, rfl, h, q⟩
theorem g_list {p : Addr} {ys : List V} (h : SqL K H p ys ∨ SqT K H p ys) (q : ∀ l, H l = none → Q (.ref l) (upd H l (.lst ys))) : uList K [.ref p] H Q := .inl ⟨p, ys, rfl, h, q⟩
theorem g_listD {p : Addr} {kvs : List (Key × V)} (h : H p = some (.dK kvs)) (q : ∀ l, H l = none → Q (.ref l) (upd H l (.lst (kvs.map fun kv => kV kv.1)))) : uList K [.ref p] H Q := .inr ⟨p, kvs, rfl, h, q⟩
end
end SL
namespace SL
open PySem PySem.Spec PyProof.Rows L2
/-! ### repr of scalars -/
def shownV : V → Str
  | .int i => toString i
  | .str z => reprText z
  | .bl b => if b then "True" else "False"
  | _ => "None"
def shortV : V → Prop
  | .int i => i.natAbs.log2 < 1920
  | .str z => (reprText z).length ≤ sizeLine
  | .bl _ => True
  | .non => True
  | _ => False
def uRepr : List V → Hp → VK → Prop := fun xs H Q => ∃ x, xs = [x] ∧ shortV x ∧ Q (.str (shownV x)) H
theorem callu_repr {X : Cx} : CallR X (.builtin "repr") uRepr := by
  intro pins s σ H xs us Q I r h
  obtain ⟨x, rfl, hs, q⟩ := h
  obtain ⟨u, rfl, r1⟩ := vals1 r
  cases x with
  | int i =>
    obtain ⟨t, rfl⟩ := r1
    exact PySem.P.repr_of_int hs ⟨.str _, H, I.tok _, ⟨_, rfl⟩, q⟩
  | str z =>
    obtain ⟨t, rfl⟩ := r1
    exact PySem.P.repr_of_str ⟨.str _, H, I.tok _, ⟨_, rfl⟩, q⟩ hs
  | bl b =>
    cases r1
    exact PySem.P.repr_of_bool ⟨.str (if b then "True" else "False"), H, I.tok _, ⟨_, by cases b <;> rfl⟩, q⟩
  | non =>
    cases r1
    exact PySem.P.repr_of_none ⟨.str _, H, I.tok _, ⟨_, rfl⟩, q⟩
  | _ => exact absurd hs id
/-! ### kinds -/
section
variable {K : PySem.W.Frag} {H : Hp} {Q : VK} {x : V}
theorem tyx_l {p : Addr} {xs : List V} (h : SqL K H p xs) : TyX K H (.ref p) (.type "list") := by
  rcases h with (h | ⟨o, h⟩) | ⟨o, its, n, h1, h2, _⟩
  · exact .base (.lst h)
  · exact .base (.frz h)
  · exact .kList h1 h2
theorem tyx_t {p : Addr} {xs : List V} (h : SqT K H p xs) : TyX K H (.ref p) (.type "tuple") := by
  rcases h with (h | ⟨o, h⟩) | ⟨o, its, n, h1, h2, _⟩
  · exact .base (.tup h)
  · exact .fTuple h
  · exact .kTuple h1 h2
/-- isinstance(x, T), T a built-in class -/
theorem g_isi {T U : String} {b : Bool} (ty : TyX K H x (.type T)) (e : kitB T U = some b) (q : Q (.bl b) H) : uIsi K [x, .ty U] H Q := .inl ⟨x, .ty U, _, _, b, rfl, .ty U, ty, kit_ty e, q⟩
/-- isinstance(x, (T, U)) -/
theorem g_isi2 {T U1 U2 : String} {b1 b2 : Bool} {tp : Addr} (ht : H tp = some (.tup [.ty U1, .ty U2])) (ty : TyX K H x (.type T)) (e1 : kitB T U1 = some b1) (e2 : kitB T U2 = some b2) (q : Q (.bl (b1 || b2)) H) : uIsi K [x, .ref tp] H Q := by
  refine .inr ⟨x, tp, [.ty U1, .ty U2], _, [.type U1, .type U2], b1 || b2, rfl, ht, .cons (.ty U1) (.cons (.ty U2) .nil), ty, ?_, q⟩
  refine kitAny_cons (kit_ty e1) (fun h => ?_) (fun h => by rw [h]; rfl)
  subst h
  refine kitAny_cons (kit_ty e2) (fun h => ?_) (fun h => by rw [h]; rfl)
  subst h
  exact kitAny_nil
theorem g_repr (h : shortV x) (q : Q (.str (shownV x)) H) : uRepr [x] H Q := ⟨x, rfl, h, q⟩
end
/-! ### data that are held against one another -/
/-- data of lists, tuples and scalars, not deeper than n -/
def Sm : Nat → PyData → Prop
  | 0, _ => False
  | _ + 1, .int i => i.natAbs.log2 < 1920
  | _ + 1, .str z => (reprText z).length ≤ sizeLine
  | _ + 1, .bool _ => True
  | _ + 1, .none => True
  | n + 1, .list ds => ds.length ≤ 10000 ∧ ∀ d ∈ ds, Sm n d
  | n + 1, .tuple ds => ds.length ≤ 10000 ∧ ∀ d ∈ ds, Sm n d
  | _ + 1, .dict _ => False
section
variable {K : PySem.W.Frag} {H H' : Hp} {M : List Addr}
theorem fr_nil_same (e : Fr [] H H') : Same H H' := e.same
mutual
theorem dp_same (e : Same H H') : ∀ {v : V} {d : PyData}, Dp K H v d → Dp K H' v d
  | _, _, .non => .non
  | _, _, .bl b => .bl b
  | _, _, .int i => .int i
  | _, _, .str x => .str x
  | _, _, .lst h hs => .lst (e.seq h) (dpa_same e hs)
  | _, _, .tup h hs => .tup ((Fr.of_same (M := []) e).tup h) (dpa_same e hs)
theorem dpa_same (e : Same H H') : ∀ {vs : List V} {ds : List PyData}, DpAll K H vs ds → DpAll K H' vs ds
  | _, _, .nil => .nil
  | _, _, .cons h hs => .cons (dp_same e h) (dpa_same e hs)
end
theorem dpa_len : ∀ {vs : List V} {ds : List PyData}, DpAll K H vs ds → vs.length = ds.length
  | _, _, .nil => rfl
  | _, _, .cons _ hs => congrArg Nat.succ (dpa_len hs)
theorem dpa_get : ∀ {vs : List V} {ds : List PyData} {i : Nat} {v : V}, DpAll K H vs ds → vs[i]? = some v → ∃ d, ds[i]? = some d ∧ Dp K H v d
  | _, _, _, _, .nil, e => by simp at e
  | _, _, 0, v, .cons h _, e => by simp at e; subst e; exact ⟨_, rfl, h⟩
  | _, _, i + 1, v, .cons _ hs, e => by
    obtain ⟨d, h1, h2⟩ := dpa_get (i := i) (v := v) hs (by simpa using e)
    exact ⟨d, by simpa using h1, h2⟩
end
end SL
namespace SL
open PySem PySem.Spec PyProof.Rows L2
section
variable {K : PySem.W.Frag} {σ : L2.St} {H : Hp} {a b : Addr} {xs ys : List V}
theorem walk_zipT {n : Nat} (hn : n = min xs.length ys.length) : Walk (RZ.ItzT K a b) n (fun H => SqT K H a xs ∧ SqT K H b ys) (YPair (fun i => xs[i]?) (fun i => ys[i]?)) := by
  subst hn
  refine ⟨fun i _ hi q => ?_, fun _ q => ⟨xs, ys, q.1, q.2, by omega⟩, fun i H v H' _ q y => ?_⟩
  · have h1 : i < xs.length := by omega
    have h2 : i < ys.length := by omega
    exact ⟨xs, ys, xs[i], ys[i], q.1, q.2, by simp [h1], by simp [h2]⟩
  · obtain ⟨T, x, z, h1, h2, h3, h4, h5⟩ := y
    exact ⟨T, x, z, h1, h2, h3, h4 xs q.1, h5 ys q.2⟩
theorem g_izA {tl : TA} {S : It → Hp → Prop} (q : tl σ H fun vs H1 => ∃ a b xs ys, vs = [.ref a, .ref b] ∧ ((SqL K H1 a xs ∧ SqL K H1 b ys ∧ S (Itz K a b) H1) ∨ (SqT K H1 a xs ∧ SqT K H1 b ys ∧ S (RZ.ItzT K a b) H1))) : RZ.iZipA K tl σ H S := q
theorem g_iz {tl : TA} {S : It → Hp → Prop} (q : tl σ H fun vs H1 => ∃ a b xs ys, vs = [.ref a, .ref b] ∧ SqL K H1 a xs ∧ SqL K H1 b ys ∧ S (Itz K a b) H1) : iZip K tl σ H S := q
end
end SL

set_option Elab.async false
set_option linter.all false
set_option maxRecDepth 100000
set_option maxHeartbeats 2000000
/-! # SLG: promises of defs that run while no repr is under way -/
namespace SL
open PySem PySem.Spec PyProof.Rows L2
/-- room for k calls, and no container is being shown -/
structure RoomG (k : Nat) (A : Around) : Prop where
  rm : Room k A
  gd : A.guards = some []
theorem RoomG.mono {j k : Nat} {A : Around} (r : RoomG k A) (h : j ≤ k) : RoomG j A := ⟨r.rm.mono h, r.gd⟩
theorem RoomG.units {k : Nat} {A : Around} (r : RoomG k A) : A.units + 64 < cLine := r.rm.units
/-- the def at f keeps sp, by at most level k, where no container is being shown -/
structure FnG (P : Program) (w : World) (K : PySem.W.Frag) (mg : Str → Option Value) (base : Heap) (CX : CXT) (k : Nat) (f : Addr) (fd : FuncData) (ps : List Str) (sp : Sp) : Prop where
  len : ∀ vs H Q E, sp vs H Q E → vs.length = ps.length
  go : ∀ (A : Around) (outer : List Env) (s : Shared) (H : Hp) (args : Args) (us : List Value) (vs : List V) (Q : VK) (E : XK), RoomG k A →
    Env0 P w K mg base A outer s H → BindsTo s fd args (ps.zip us) → Vals vs us → sp vs H Q E → codeAny (model P w) A (.call (.ref f) args) (CR CX outer P w H s Q E) s
section
variable {P : Program} {w : World} {K : PySem.W.Frag} {mg : Str → Option Value} {base : Heap} {CX : CXT}
theorem FnG.up {j k : Nat} {f : Addr} {fd : FuncData} {ps : List Str} {sp : Sp} (F : FnG P w K mg base CX j f fd ps sp) (h : j ≤ k) : FnG P w K mg base CX k f fd ps sp :=
  ⟨F.len, fun A outer s H args us vs Q E r => F.go A outer s H args us vs Q E (r.mono h)⟩
theorem FnG.imp {k : Nat} {f : Addr} {fd : FuncData} {ps : List Str} {sp sp' : Sp} (F : FnG P w K mg base CX k f fd ps sp) (h : ∀ vs H Q E, sp' vs H Q E → sp vs H Q E) : FnG P w K mg base CX k f fd ps sp' :=
  ⟨fun vs H Q E z => F.len vs H Q E (h vs H Q E z), fun A outer s H args us vs Q E r e b v z => F.go A outer s H args us vs Q E r e b v (h vs H Q E z)⟩
/-- a def by its body -/
theorem fng_of {k : Nat} {f : Addr} {x qual : Str} {pr : Arguments} {bd : List Stmt} {sc : Scope} {dV kV doc pm cdv ct oc : Value} {an od : Option Addr} {osl : Array (Option Value)} {N ps : List Str} {sp : Sp}
    (lk : K.lookup f = some ⟨oc, od, .func (PySem.W.fnOf x qual pr bd sc dV kV doc pm an cdv ct), osl⟩) (hcd : PySem.W.codeIn K cdv qual = true) (S : FnScope N ps sc) (hlen : ∀ vs H Q E, sp vs H Q E → vs.length = ps.length)
    (hb : ∀ (A : Around) (outer : List Env) (s : Shared) (H : Hp) (vs : List V) (Q : VK) (E : XK), RoomG k (A.deeper (envOfC qual sc s.heap.objs.size f cdv)) → sp vs H Q E →
      ∃ t, PSs (cxOf CX P w K mg base N qual sc f cdv A outer s H E) bd t ∧ t { nx := fun _ H' => Q .non H', rt := Q } (start N vs) H) :
    FnG P w K mg base CX (k + 1) f (PySem.W.fnOf x qual pr bd sc dV kV doc pm an cdv ct) ps sp := by
  constructor
  · exact hlen
  intro A outer s H args us vs Q E hr env0 hbind rel hsp
  have nl := hlen _ _ _ _ hsp
  have inH : K.In s.heap := env0.mod.kin.keeps fun b o z => (env0.bs b o z).1
  have nolim : s.heap.NoLimit := env0.mod.nolimit.keeps fun b o z => (env0.bs b o z).1
  have kinds : ∀ y ∈ ps.zip us, sc.names.lookup y.1 = some .local ∨ (sc.names.lookup y.1 = some .cell ∧ ((cellsFrom (s.heap.objs.size + 1) sc.names []).lookup y.1).isSome = true) := by
    rintro ⟨n, v⟩ hy
    exact (S.par n (List.of_mem_zip hy).1).imp id fun q => ⟨q, PySem.W.cellsFrom_some _ _ _ (.inl q)⟩
  refine codeAny_call_function hr.rm.depth (inH _ _ lk) rfl S.co S.gen rfl (PySem.W.codeRec_of inH hcd) (hbind _ _ _ _ (wpAny_newFunctionEnv_cells S.kind kinds fun en hen s1 ic => ?_))
  subst hen
  refine ⟨nolim.keeps ic.toInCall.keep, codeAny_func ?_⟩
  obtain ⟨t, ht, hq⟩ := hb A outer s H vs Q E ⟨hr.rm.deeper _, hr.gd⟩ hsp
  have J0 : Inv (cxOf CX P w K mg base N qual sc f cdv A outer s H E) [] (start N vs) H s1 := inv_start S hr.rm.hd env0 nl rel ic
  refine wpAny_mono (ht.run [] s1 (start N vs) H _ J0 hq) (fun fl s2 h2 => ?_) fun e s2 h2 => h2
  cases fl with
  | next =>
    obtain ⟨σ2, H2, J, q2⟩ := h2
    exact ⟨V.non, H2, J.os, J.bare, J.base, J.hok, rfl, q2⟩
  | ret u =>
    obtain ⟨v, σ2, H2, J, rv, q2⟩ := h2
    exact ⟨v, H2, J.os, J.bare, J.base, J.hok, rv, q2⟩
  | brk => exact h2.elim fun _ z => z.elim fun _ z => z.2.elim
  | cont => exact h2.elim fun _ z => z.elim fun _ z => z.2.elim
theorem okG {x qual : Str} {pr : Arguments} {bd : List Stmt} {sc : Scope} {dvs : List V} {kws : List (Str × V)} {f : Addr} {fd : FuncData} {N ps : List Str} {k : Nat} {sp : Sp} (F : FunD K x qual pr bd sc dvs kws f fd) (S : FnScope N ps sc) (hlen : ∀ vs H Q E, sp vs H Q E → vs.length = ps.length)
    (hb : ∀ (cdv : Value) (A : Around) (outer : List Env) (s : Shared) (H : Hp) (vs : List V) (Q : VK) (E : XK), RoomG k (A.deeper (envOfC qual sc s.heap.objs.size f cdv)) → sp vs H Q E →
      ∃ t, PSs (cxOf CX P w K mg base N qual sc f cdv A outer s H E) bd t ∧ t { nx := fun _ H' => Q .non H', rt := Q } (start N vs) H) : FnG P w K mg base CX (k + 1) f fd ps sp := by
  obtain ⟨oc, od, dV, kV, doc, pm, an, cdv, ct, osl, rfl, lk, hcd, _, _⟩ := F.ex
  exact fng_of lk hcd S hlen fun A outer s H vs Q E hr hsp => hb cdv A outer s H vs Q E hr hsp
/-- a def of the module that may be called by its name and lets nothing out -/
structure CalG (P : Program) (w : World) (K : PySem.W.Frag) (mg : Str → Option Value) (base : Heap) (k : Nat) (x : Str) (sp : Sp) : Prop where
  ex : ∃ (f : Addr) (fd : FuncData) (ps : List Str), FnG P w K mg base CX0 k f fd ps sp ∧ mg x = some (.ref f) ∧ PySem.W.keepIn K (.ref f) = true ∧ Binds K fd ps []
theorem CalG.mono {j k : Nat} {x : Str} {sp : Sp} (c : CalG P w K mg base j x sp) (h : j ≤ k) : CalG P w K mg base k x sp := by
  obtain ⟨f, fd, ps, F, m, kp, b⟩ := c.ex
  exact ⟨f, fd, ps, F.up h, m, kp, b⟩
theorem CalG.imp {k : Nat} {x : Str} {sp sp' : Sp} (c : CalG P w K mg base k x sp) (h : ∀ vs H Q E, sp' vs H Q E → sp vs H Q E) : CalG P w K mg base k x sp' := by
  obtain ⟨f, fd, ps, F, m, kp, b⟩ := c.ex
  exact ⟨f, fd, ps, F.imp h, m, kp, b⟩
end
section
variable {X : Cx} {k j : Nat} {x : Str} {sp : Sp} {p pos : Pos} {e : Expr} {es : List Expr} {t : TA}
theorem run_fng {CX : CXT} {f : Addr} {fd : FuncData} {ps : List Str} {dvs : List V} {ds : List Value} {E : XK} {pins : List (Addr × Obj)} {σ : L2.St} {H : Hp} {s : Shared} {Q : VK} {us : List Value} {vs : List V}
    (F : FnG X.prog X.w X.K X.mg X.base CX k f fd ps sp) (hr : RoomG k X.A) (hb : Binds X.K fd ps ds) (hd : Vals dvs ds) (hx : Passes CX X E) (I : Inv X pins σ H s) (r : Vals vs us) (h : sp (vs ++ dvs) H Q E) :
    wpAny (model X.prog X.w) X.A (call (.ref f) us) (EP X pins σ Q) X.xe s := by
  have rel : Vals (vs ++ dvs) (us ++ ds) := r.append hd
  have ln : (us ++ ds).length = ps.length := rel.length.symm.trans (F.len _ _ _ _ h)
  refine wpAny_call (codeAny_mono (F.go X.A X.stack s H ⟨us, []⟩ (us ++ ds) (vs ++ dvs) Q E hr I.env0 (hb s us I.kIn ln) rel h) fun res s2 hq => ?_)
  cases res with
  | ok fl =>
    cases fl with
    | ret u => exact I.after hq
    | _ => exact hq.elim
  | error z => exact hx pins σ H s z s2 I hq
theorem pe_calG (c : CalG X.prog X.w X.K X.mg X.base k x sp) (hr : RoomG j X.A) (hg : Gl X x) (ha : PA X (e :: es) t) (hk : k ≤ j := by first | decide | omega)
    (hdb : (x == ("__debug__" : Str)) = false := by decide) (hst : starEach (e :: es) X.env = (false, eval e X.env) :: starEach es X.env := by rfl) (hnp : (backTo pos (starEach es X.env)).any (·.1) = false := by rfl) :
    PE X (.Call (.Name x p) (e :: es) [] pos) (tCall sp [] E0 t) := by
  obtain ⟨f, fd, ps, F, hm, kp, b⟩ := c.ex
  constructor
  intro pins s σ H Q I h
  refine wpAny_Call_Name_kw (ld_glob I hg hm (PySem.W.callWith_K (h₀ := X.base) I.ok.mod.kin kp (thn (ha.run pos pins s σ H _ I h) fun us s1 z => ?_) hst hnp) hdb)
  obtain ⟨vs, H1, I1, r, q⟩ := z
  exact ⟨I1.kIn, run_fng F (hr.mono hk) b .nil pass0 I1 r q⟩
end
/-- a def of the top with its names bound, as a thing to be called -/
theorem calG_of {P : Program} {w : World} {K : PySem.W.Frag} {mg : Str → Option Value} {base : Heap} {k : Nat} {x : Str} {sp : Sp} {f : Addr} {fd : FuncData} {ps : List Str} (F : FnG P w K mg base CX0 k f fd ps sp) (m : mg x = some (.ref f)) (kp : PySem.W.keepIn K (.ref f) = true) (b : Binds K fd ps []) : CalG P w K mg base k x sp := ⟨f, fd, ps, F, m, kp, b⟩
/-! ### the law's own call -/
def scrO (vs : List Value) : Obj := { cls := .type "list", data := .seq vs.toArray }
theorem law_from {P : Program} {w : World} {K : PySem.W.Frag} {mg mb : Str → Option Value} {k : Nat} {fa a : Addr} {fd : FuncData} {x : Str} {sp : Sp} {s : Shared} {vs : List Value} {H : Hp}
    (kin : K.In s.heap) (gns : s.heap.Ns mainGlobals mg) (bns : s.heap.Ns builtinsNs mb) (bok : ∀ x : Str, x ≠ "__name__" → mb x = bootBuiltins x) (nolim : s.heap.NoLimit) (nog : s.gens = #[]) (scr : s.heap.get? a = some (scrO vs)) (hr : RoomG k callerA)
    (F : ∀ base : Heap, K.In base → base.Ns mainGlobals mg → FnG P w K mg base CX0 k fa fd [x] sp) (hbind : ∀ (s : Shared) (u : Value), BindsTo s fd ⟨[u], []⟩ [(x, u)])
    (hsp : sp [.ref a] H (fun v _ => v = .bl true) fun _ _ _ => False) (hO : Only H) (hok : HOk P w H s.heap) (hA : ∀ b, H b ≠ none → b = a) (hK : H a ≠ none → K.lookup a = none) :
    codeAny (model P w) callerA (.call (.ref fa) ⟨[.ref a], []⟩) (fun r s2 => r = .ok (.ret (.bool true)) ∧ OldK s.heap s2.heap ∧ s2.os = s.os ∧ AllBare s2.gens) s := by
  have dfree : ∀ {b : Addr} {o : Obj} {es : Array DictEntry} {ep : Nat}, s.heap.get? b = some o → o.data = .dict es ep → H b = none := by
    intro b o es ep h1 h2
    cases q : H b with
    | none => rfl
    | some u =>
      have hb : b = a := hA b (by rw [q]; exact fun z => nomatch z)
      rw [hb, scr] at h1
      cases h1
      cases h2
  have nsH : ∀ {b : Addr} {m : Str → Option Value}, s.heap.Ns b m → (hidT s.heap H).Ns b m := by
    rintro b m ⟨o, es, ep, h1, h2, h3⟩
    exact ⟨o, es, ep, hidT_get h1 (dfree h1 h2), h2, h3⟩
  have kH : K.In (hidT s.heap H) := by
    intro b o h1
    refine hidT_get (kin b o h1) ?_
    cases q : H b with
    | none => rfl
    | some u =>
      have hb : b = a := hA b (by rw [q]; exact fun z => nomatch z)
      rw [hb] at h1 q
      rw [hK (by rw [q]; exact fun z => nomatch z)] at h1
      cases h1
  obtain ⟨mc, l1, l2⟩ := nolim
  have md : Mod K mg (hidT s.heap H) := ⟨kH, nsH gns, ⟨mb, nsH bns, bok⟩, ⟨mc, nsH l1, l2⟩⟩
  have env : Env0 P w K mg (hidT s.heap H) callerA [] s H := ⟨rfl, md, fun _ _ z => of_hidT z, Nat.le_of_eq (hidT_size _ _), trivial, fun b hb => (nomatch (show b ∈ ([] : List Addr) from hb)), hok, .of_eq nog⟩
  refine codeAny_mono ((F _ kH (nsH gns)).go callerA [] s H ⟨[.ref a], []⟩ [.ref a] [.ref a] _ _ hr env (hbind s (.ref a)) (.cons rfl .nil) hsp) fun r s2 h => ?_
  cases r with
  | error z => exact h.elim
  | ok fl =>
    cases fl with
    | ret u =>
      obtain ⟨v, H2, os, bare, un, hok2, rv, q⟩ := h
      have q1 : v = .bl true := q
      rw [q1] at rv
      have ru : u = Value.bool true := rv
      rw [ru]
      refine ⟨rfl, OldK.of_keep fun b o h1 => ?_, os, bare⟩
      rcases hO b with z | ⟨ob, xs, z⟩
      · exact un.keep b o h1 z (fun y => nomatch (show b ∈ ([] : List Addr) from y)) (fun y => nomatch y)
      · obtain ⟨g1, _⟩ := hok b _ z
        obtain ⟨g2, _⟩ := hok2 b _ (un.frzs b ob _ z)
        rw [h1] at g1
        cases g1
        exact g2
    | _ => exact h.elim
theorem law_run {P : Program} {w : World} {K : PySem.W.Frag} {mg mb : Str → Option Value} {k : Nat} {fa a : Addr} {fd : FuncData} {x : Str} {sp : Sp} {s : Shared} {vs : List Value} {ns : List Int}
    (kin : K.In s.heap) (gns : s.heap.Ns mainGlobals mg) (bns : s.heap.Ns builtinsNs mb) (bok : ∀ x : Str, x ≠ "__name__" → mb x = bootBuiltins x) (nolim : s.heap.NoLimit) (nog : s.gens = #[]) (scr : s.heap.get? a = some (scrO vs)) (hin : IntsAre vs ns) (small : ns.length ≤ sizeLine) (hr : RoomG k callerA)
    (F : ∀ base : Heap, K.In base → base.Ns mainGlobals mg → FnG P w K mg base CX0 k fa fd [x] sp) (hbind : ∀ (s : Shared) (u : Value), BindsTo s fd ⟨[u], []⟩ [(x, u)])
    (hsp : ∀ H : Hp, Only H → SqL K H a (ns.map V.int) → sp [.ref a] H (fun v _ => v = .bl true) fun _ _ _ => False) :
    codeAny (model P w) callerA (.call (.ref fa) ⟨[.ref a], []⟩) (fun r s2 => r = .ok (.ret (.bool true)) ∧ OldK s.heap s2.heap ∧ s2.os = s.os ∧ AllBare s2.gens) s := by
  have rel := vals_ints hin
  have ln := hin.length
  cases hk : K.lookup a with
  | none =>
    let H0 : Hp := fun b => if b = a then some (.frz (scrO vs) (.lst (ns.map V.int))) else none
    have at_a : H0 a = some (.frz (scrO vs) (.lst (ns.map V.int))) := if_pos rfl
    have off_a : ∀ b, b ≠ a → H0 b = none := fun b hb => if_neg hb
    have only : Only H0 := fun b => by
      by_cases hb : b = a
      · rw [hb]; exact .inr ⟨_, _, at_a⟩
      · exact .inl (off_a b hb)
    refine law_from (H := H0) kin gns bns bok nolim nog scr hr F hbind (hsp H0 only (.inl (.inr ⟨_, at_a⟩))) only (fun b u z => ?_) (fun b z => ?_) fun _ => hk
    · by_cases hb : b = a
      · subst hb
        rw [at_a] at z
        cases z
        exact ⟨scr, (by rw [List.length_map]; exact small), vs, _, rel, scr⟩
      · rw [off_a b hb] at z
        cases z
    · by_cases hb : b = a
      · exact hb
      · exact absurd (off_a b hb) z
  | some o =>
    have h1 := kin a o hk
    rw [scr] at h1
    cases h1
    refine law_from (H := fun _ => none) kin gns bns bok nolim nog scr hr F hbind (hsp _ (fun _ => .inl rfl) (.inr ⟨_, vs.toArray, _, hk, rfl, rfl, rfl, by rw [List.size_toArray, ln]; exact small, by simpa using rel⟩)) (fun _ => .inl rfl) (fun b u z => ?_) (fun b z => absurd rfl z) fun z => absurd rfl z
    have z2 : (none : Option HO) = some u := z
    cases z2
theorem walkG {l : PySem.W.OpenLaw} {n k : Nat} {q : Program} {loose : List Str} {XP : (Str → Option Value) → Heap → Prop} {YP : World → Heap → Prop} {d : DefRec} {x : Str} (hn : l.most = some n) (hn2 : n ≤ sizeLine) (hdf : d.params.defaults = []) (hr : Room k callerA)
    (F : ∀ (w : World) (mg : Str → Option Value) (fa : Addr) (h : Heap), YP w h → h.Ns mainGlobals mg → mg d.name = some (.ref fa) →
      ∃ (K : PySem.W.Frag) (fd : FuncData) (sp : Sp), K.In h ∧ (∀ (s : Shared) (u : Value), BindsTo s fd ⟨[u], []⟩ [(x, u)]) ∧
        (∀ (H : Hp) (a : Addr) (ns : List Int), ns.length ≤ n → SqL K H a (ns.map V.int) → sp [.ref a] H (fun v _ => v = .bl true) fun _ _ _ => False) ∧ ∀ base : Heap, K.In base → base.Ns mainGlobals mg → FnG l.prog w K mg base CX0 k fa fd [x] sp) :
    PySem.W.WalkO q loose XP YP l.row.toRowW d [] (fun f vs => PySem.call f vs) := by
  refine Att.attach_call hn hdf fun w s₀ s₁ mg mb fa o pm cd doc a vs ns G Y ho hd hcd hmg hobj hints hlen hg => ?_
  obtain ⟨K, fd, sp, kin, hb, hsp, hF⟩ := F w mg fa _ Y G.T.g hmg
  exact law_run kin G.T.g G.T.b G.T.builtins G.T.nolimit hg hobj hints (Nat.le_trans hlen hn2) ⟨hr, rfl⟩ hF hb fun H _ hS => hsp H a ns hlen hS
end SL

set_option Elab.async false
set_option linter.all false
set_option maxRecDepth 100000
set_option maxHeartbeats 2000000
/-! # SL4: repr of data, texts' methods, more calls -/
namespace SL
open PySem PySem.Spec PyProof.Rows L2
/-! ### repr of containers -/
def isSc : V → Bool
  | .int _ | .str _ | .bl _ | .non => true
  | _ => false
def scD : V → PyData
  | .int i => .int i
  | .str x => .str x
  | .bl b => .bool b
  | _ => .none
def keyD : Key → PyData
  | .inl i => .int i
  | .inr x => .str x
def kvD (kvs : List (Key × V)) : PyData := .dict (kvs.map fun kv => (keyD kv.1, scD kv.2))
theorem sc_reads {h : Heap} {x : V} {u : Value} (s : isSc x = true) (r : RelV x u) : Reads h u (scD x) [] := by
  cases x with
  | int i => obtain ⟨t, rfl⟩ := r; exact .int i t
  | str i => obtain ⟨t, rfl⟩ := r; exact .str i t
  | bl b => cases r; exact .bool b
  | non => cases r; exact .none
  | _ => cases s
theorem key_reads {h : Heap} {k : Key} {u : Value} (r : keyIs k u = true) : Reads h u (keyD k) [] := by
  rcases keyIs_shape r with ⟨i, t, rfl, rfl⟩ | ⟨x, t, rfl, rfl⟩
  · exact .int i t
  · exact .str x t
theorem pairs_reads {P : Program} {w : World} {h : Heap} : ∀ {es : List DictEntry} {kvs : List (Key × V)} {vs : List (Key × Value)}, Pairs (mixKind P w) es vs → KV kvs vs → (∀ kv ∈ kvs, isSc kv.2 = true) →
    ReadsAll h (es.map (·.key)) ((kvs.map fun kv => (keyD kv.1, scD kv.2)).map (·.1)) [] ∧ ReadsAll h (es.map (·.val)) ((kvs.map fun kv => (keyD kv.1, scD kv.2)).map (·.2)) []
  | _, _, _, .nil, .nil, _ => ⟨.nil, .nil⟩
  | en :: _, (k, v) :: r, kv2 :: _, .cons h1 h2 h3, .cons g1 g2, hs => by
    obtain ⟨i1, i2⟩ := pairs_reads (h := h) h3 g2 fun kv z => hs kv (List.mem_cons_of_mem _ z)
    obtain ⟨e1, e2⟩ := g1
    have e3 : keyIs k en.key = true := by
      have e4 : k = kv2.1 := e1
      rw [e4]; exact h1
    have r1 : RelV v kv2.2 := e2
    rw [← h2] at r1
    exact ⟨.cons (key_reads e3) i1, .cons (sc_reads (hs _ List.mem_cons_self) r1) i2⟩
/-- data: a list or a tuple of data; a dict of scalars -/
def rReprD (K : PySem.W.Frag) : List V → Hp → VK → Prop := fun xs H Q => ∃ (p : Addr) (d : PyData), xs = [.ref p] ∧ (Dp K H (.ref p) d ∨ ∃ kvs, H p = some (.dK kvs) ∧ (∀ kv ∈ kvs, isSc kv.2 = true) ∧ d = kvD kvs) ∧
  d.showable = true ∧ d.depth ≤ 50 ∧ d.shown.length ≤ sizeLine ∧ Q (.str d.shown) H
mutual
theorem dp_nodict {K : PySem.W.Frag} {H : Hp} : ∀ {v : V} {d : PyData}, Dp K H v d → d.hasDict = false
  | _, _, .non => by simp only [PyData.hasDict]
  | _, _, .bl _ => by simp only [PyData.hasDict]
  | _, _, .int _ => by simp only [PyData.hasDict]
  | _, _, .str _ => by simp only [PyData.hasDict]
  | _, _, .lst _ h => by simp only [PyData.hasDict]; exact dpa_nodict h
  | _, _, .tup _ h => by simp only [PyData.hasDict]; exact dpa_nodict h
theorem dpa_nodict {K : PySem.W.Frag} {H : Hp} : ∀ {vs : List V} {ds : List PyData}, DpAll K H vs ds → PyData.hasDictAll ds = false
  | _, _, .nil => by simp only [PyData.hasDictAll]
  | _, _, .cons h hs => by simp only [PyData.hasDictAll, dp_nodict h, dpa_nodict hs, Bool.or_self]
end
section
variable {X : Cx} {k : Nat}
theorem call_reprD (hr : RoomG k X.A) : CallR X (.builtin "repr") (rReprD X.K) := by
  intro pins s σ H xs us Q I r h
  obtain ⟨p, d, rfl, hd, hs, hdep, hsz, q⟩ := h
  obtain ⟨u, rfl, r1⟩ := vals1 r
  have hu : X.A.units + (d.depth + 1) < cLine := by have := hr.units; omega
  rcases hd with hd | ⟨kvs, hp, hsc, rfl⟩
  · cases r1
    obtain ⟨as, hR⟩ := Dp.reads I d _ _ hd (show RelV (.ref p) (.ref p) from rfl)
    exact repr_of_reads' hR hs (fun z => by rw [dp_nodict hd] at z; cases z) hr.gd hu (fun _ _ z => z) (fun h' u tk hk => ⟨.str _, H, I.kept (t' := tk) hk, ⟨u, rfl⟩, q⟩) hsz
  · cases r1
    obtain ⟨_, y, vs, rk, o, es, ep, e, ex, hdat, _, pr, _⟩ := I.hok p _ hp
    obtain ⟨i1, i2⟩ := pairs_reads (h := s.heap) pr rk hsc
    have hR : Reads s.heap (.ref p) (kvD kvs) (p :: [] ++ []) := .dict e ex.1 hdat i1 i2
    refine repr_of_reads' hR hs (fun _ z => ?_) hr.gd hu (fun _ _ z => z) (fun h' u tk hk => ⟨.str _, H, I.kept (t' := tk) hk, ⟨u, rfl⟩, q⟩) hsz
    have z1 : sysModules = p := by simpa using z
    rw [← z1] at y
    simp at y
def uReprG (K : PySem.W.Frag) : List V → Hp → VK → Prop := fun xs H Q => uRepr xs H Q ∨ rReprD K xs H Q
theorem callu_reprG (hr : RoomG k X.A) : CallR X (.builtin "repr") (uReprG X.K) := callu_repr.or (call_reprD hr)
/-! ### texts -/
theorem mt_index_str : MtR X "str.index" (fun x xs H Q => ∃ (a b : Str) (k : Nat) (rest : List Nat), x = .str a ∧ xs = [.str b] ∧ Builtin.Str.occurrences a b 0 a.length 1 = k :: rest ∧ Q (.int (k : Nat)) H) := by
  intro pins s σ H x xs v us Q I rx rs h
  obtain ⟨a, b, k, rest, rfl, rfl, ho, q⟩ := h
  obtain ⟨t, rfl⟩ := rx
  obtain ⟨u, rfl, r1⟩ := vals1 rs
  obtain ⟨t2, rfl⟩ := r1
  exact PySem.SC.index ho ⟨.int (k : Nat), H, I.tok _, ⟨_, rfl⟩, q⟩
end
section
variable {K : PySem.W.Frag} {H : Hp} {Q : VK} {x : V}
theorem g_reprS (h : shortV x) (q : Q (.str (shownV x)) H) : uReprG K [x] H Q := .inl ⟨x, rfl, h, q⟩
theorem g_reprD {p : Addr} {d : PyData} (h : Dp K H (.ref p) d) (h1 : d.showable = true) (h2 : d.depth ≤ 50) (h3 : d.shown.length ≤ sizeLine) (q : Q (.str d.shown) H) : uReprG K [.ref p] H Q := .inr ⟨p, d, rfl, .inl h, h1, h2, h3, q⟩
theorem g_reprK {p : Addr} {kvs : List (Key × V)} (h : H p = some (.dK kvs)) (hs : ∀ kv ∈ kvs, isSc kv.2 = true) (h1 : (kvD kvs).showable = true) (h2 : (kvD kvs).depth ≤ 50) (h3 : (kvD kvs).shown.length ≤ sizeLine) (q : Q (.str (kvD kvs).shown) H) : uReprG K [.ref p] H Q :=
  .inr ⟨p, _, rfl, .inr ⟨kvs, h, hs, rfl⟩, h1, h2, h3, q⟩
/-! ### dicts -/
theorem g_dget {td ty : TE} {σ : L2.St} (q : td σ H fun x H1 => ty σ H1 fun y H2 => ∃ a v, x = .ref a ∧ DGet H2 a y (some v) ∧ Q v H2) : tDGet td ty σ H Q := q
theorem g_dgetS {A : V → Prop} {p : Addr} {kvs : List (Key × V)} {z : Str} {v : V} (h : H p = some (.dK kvs)) (e : valV kvs (Sum.inr z) = some v) (q : A v) : ∃ a w, V.ref p = .ref a ∧ DGet H a (.str z) (some w) ∧ A w := by
  have g := DGet.k (k := (Sum.inr z : Key)) h
  rw [e] at g
  exact ⟨p, v, rfl, g, q⟩
theorem g_dnewK {σ : L2.St} (q : ∀ p, H p = none → Q (.ref p) (upd H p (.dK []))) : tDNewK σ H Q := q
end
end SL
namespace SL
open PySem PySem.Spec PyProof.Rows L2
/-! ### rules at a written part that is known by name (within a comprehension's block) -/
section
variable {X : Cx} {K : PySem.W.Frag}
theorem kOp {r : PySem.W.Frag → R2} {f : Value → Value → Sem Value} (e : X.K = K) (h : OpR X f (r X.K)) : OpR X f (r K) := e ▸ h
theorem kIx {r : PySem.W.Frag → R2} (e : X.K = K) (h : IxR X (r X.K)) : IxR X (r K) := e ▸ h
theorem kSl {r : PySem.W.Frag → V → Option Int → Option Int → Hp → VK → Prop} (e : X.K = K) (h : SlR X (r X.K)) : SlR X (r K) := e ▸ h
theorem kCall {r : PySem.W.Frag → List V → Hp → VK → Prop} {f : Value} (e : X.K = K) (h : CallR X f (r X.K)) : CallR X f (r K) := e ▸ h
theorem kMt {r : PySem.W.Frag → V → List V → Hp → VK → Prop} {id : String} (e : X.K = K) (h : MtR X id (r X.K)) : MtR X id (r K) := e ▸ h
variable {a b : Expr} {rest es : List Expr} {ta tb te : TE} {tgs : TGs} {pos : Pos} {tg : Expr} {n k : Nat}
theorem pe_andTK (e : X.K = K) (ha : PE X a ta) (hb : PE X (.BoolOp .And (b :: rest) pos) tb) : PE X (.BoolOp .And (a :: b :: rest) pos) (tAndT K ta tb) := by subst e; exact pe_andT ha hb
theorem pe_orTK (e : X.K = K) (ha : PE X a ta) (hb : PE X (.BoolOp .Or (b :: rest) pos) tb) : PE X (.BoolOp .Or (a :: b :: rest) pos) (tOrT K ta tb) := by subst e; exact pe_orT ha hb
theorem pe_notTK (e : X.K = K) (ha : PE X a ta) : PE X (.UnaryOp .Not a pos) (tNotT K ta) := by subst e; exact pe_notT ha
theorem pi_listK (e : X.K = K) (h : PE X a ta) : PI X tg a (iList K ta) := by subst e; exact pi_list h
theorem pi_tupK (e : X.K = K) (h : PE X a ta) : PI X tg a (iTup K ta) := by subst e; exact pi_tup h
theorem pg_tupK (e : X.K = K) (hc : X.calm = true) (h : PGs X es tgs) (hn : (assignEach es X.env).length = n := by rfl) (hst : (assignEach es X.env).findIdx? (·.1) = none := by rfl) : PG X (.Tuple es k pos) (gTup K n tgs) := by subst e; exact pg_tup hc h hn hst
end
end SL
namespace SL
open PySem PySem.Spec PyProof.Rows L2
def uTuple (K : PySem.W.Frag) : List V → Hp → VK → Prop := fun xs H Q => ∃ p ys, xs = [.ref p] ∧ ((SqL K H p ys ∧ ∀ l, H l = none → Q (.ref l) (upd H l (.tup ys))) ∨ (SqT K H p ys ∧ Q (.ref p) H))
theorem callu_tuple {X : Cx} : CallR X (.type "tuple") (uTuple X.K) := call_tuple_of
section
variable {K : PySem.W.Frag} {H : Hp} {Q : VK}
theorem g_tupleL {p : Addr} {ys : List V} (h : SqL K H p ys) (q : ∀ l, H l = none → Q (.ref l) (upd H l (.tup ys))) : uTuple K [.ref p] H Q := ⟨p, ys, rfl, .inl ⟨h, q⟩⟩
theorem g_tupleT {p : Addr} {ys : List V} (h : SqT K H p ys) (q : Q (.ref p) H) : uTuple K [.ref p] H Q := ⟨p, ys, rfl, .inr ⟨h, q⟩⟩
end
end SL
namespace SL
open PySem PySem.Spec PyProof.Rows L2
section
variable {X : Cx} {K : PySem.W.Frag} {ex : Expr} {T : String} {rb : V → List V → Hp → VK → Prop} {to : TE} {tl : TA} {σ : L2.St} {H : Hp} {Q : VK}
theorem kBM (e : X.K = K) (h : PE X ex (tBM X.K T rb to tl)) : PE X ex (tBM K T rb to tl) := e ▸ h
theorem kBM0 (e : X.K = K) (h : PE X ex (tBM0 X.K T rb to)) : PE X ex (tBM0 K T rb to) := e ▸ h
theorem g_bm (q : to σ H fun x H1 => tyV K T x H1 ∧ tl σ H1 fun xs H2 => rb x xs H2 Q) : tBM K T rb to tl σ H Q := q
theorem g_bm0 (q : to σ H fun x H1 => tyV K T x H1 ∧ rb x [] H1 Q) : tBM0 K T rb to σ H Q := q
theorem g_tyS {A : Prop} {z : Str} (q : A) : tyV K "str" (.str z) H ∧ A := ⟨rfl, q⟩
theorem g_tyL {A : Prop} {p : Addr} {xs : List V} (h : SqL K H p xs) (q : A) : tyV K "list" (.ref p) H ∧ A := ⟨.inl ⟨rfl, xs, h⟩, q⟩
end
end SL
namespace SL
open PySem PySem.Spec PyProof.Rows L2
theorem valV_out {κ : Type} [DecidableEq κ] {k : κ} : ∀ {kvs : List (κ × V)}, k ∉ kvs.map (·.1) → valV kvs k = none
  | [], _ => rfl
  | p :: r, h => by
    rw [valV_neg fun e => h (by rw [← e]; exact List.mem_cons_self)]
    exact valV_out fun z => h (List.mem_cons_of_mem _ z)
theorem mergeK_nd : ∀ {kvs acc : List (Key × V)}, ((acc ++ kvs).map (·.1)).Nodup → mergeK acc kvs = acc ++ kvs
  | [], acc, _ => (List.append_nil acc).symm
  | p :: r, acc, h => by
    have h1 : p.1 ∉ acc.map (·.1) := fun z => by
      rw [List.map_append, List.nodup_append] at h
      exact h.2.2 p.1 z p.1 (List.mem_cons_self ..) rfl
    show mergeK (putK acc p.1 p.2) r = acc ++ p :: r
    rw [putK_new _ (valV_out h1)]
    have e : acc ++ p :: r = (acc ++ [(p.1, p.2)]) ++ r := by simp
    rw [e] at h ⊢
    exact mergeK_nd h
section
variable {K : PySem.W.Frag} {σ : L2.St} {H : Hp} {Q : VK} {tk tv : TE} {trs : List (TE × TE)} {A : List (V × V) → Hp → Prop}
theorem g_disp (q : ∀ p, H p = none → tPairs trs σ (upd H p (.dK [])) fun ps H2 => H2 p = some (.dK []) ∧ ∃ kvs : List (Key × V), ps = kvs.map (fun kv => (kV kv.1, kv.2)) ∧ kvs.length ≤ 15 ∧ Q (.ref p) (upd H2 p (.dK (mergeK [] kvs)))) : tDisp trs σ H Q := q
theorem g_pairs (q : tk σ H fun x H1 => tv σ H1 fun y H2 => tPairs trs σ H2 fun ps H3 => A ((x, y) :: ps) H3) : tPairs ((tk, tv) :: trs) σ H A := q
theorem g_pairs0 (q : A [] H) : tPairs [] σ H A := q
theorem g_repL {p : Addr} {k : Int} {xs : List V} (h : H p = some (.lst xs)) (h0 : -(2 ^ 63) ≤ k) (h1 : k < 2 ^ 63) (hz : xs.length * k.toNat ≤ sizeLine) (q : ∀ l, H l = none → Q (.ref l) (upd H l (.lst (List.replicate k.toNat xs).flatten))) : uMul (.ref p) (.int k) H Q := ⟨p, k, xs, rfl, rfl, h, h0, h1, hz, q⟩
theorem sc_dp {x : V} (s : isSc x = true) : Dp K H x (scD x) := by
  cases x with
  | int i => exact .int i
  | str i => exact .str i
  | bl b => exact .bl b
  | non => exact .non
  | _ => cases s
end
end SL

set_option Elab.async false
set_option linter.all false
set_option maxRecDepth 100000
set_option maxHeartbeats 2000000
namespace SL
open PySem PySem.Spec PyProof.Rows L2
/-! ### defs that call themselves -/
section
variable {P : Program} {w : World} {K : PySem.W.Frag} {mg : Str → Option Value} {base : Heap} {f : Addr} {fd : FuncData} {ps : List Str} {x : Str} {sp : Nat → Sp}
theorem calG_rec (b : Nat) (z : ∀ vs H Q E, ¬ sp 0 vs H Q E) (m : mg x = some (.ref f)) (kp : PySem.W.keepIn K (.ref f) = true) (bb : Binds K fd ps [])
    (st : ∀ n, CalG P w K mg base (b + n) x (sp n) → FnG P w K mg base CX0 (b + n + 1) f fd ps (sp (n + 1))) : ∀ n, CalG P w K mg base (b + n) x (sp n)
  | 0 => calG_of ⟨fun vs H Q E h => absurd h (z _ _ _ _), fun _ _ _ _ _ _ _ _ _ _ _ _ _ h => absurd h (z _ _ _ _)⟩ m kp bb
  | n + 1 => calG_of (st n (calG_rec b z m kp bb st n)) m kp bb
theorem calG_rec0 (z : ∀ vs H Q E, ¬ sp 0 vs H Q E) (m : mg x = some (.ref f)) (kp : PySem.W.keepIn K (.ref f) = true) (bb : Binds K fd ps [])
    (st : ∀ n, CalG P w K mg base n x (sp n) → FnG P w K mg base CX0 (n + 1) f fd ps (sp (n + 1))) : ∀ n, CalG P w K mg base n x (sp n)
  | 0 => calG_of ⟨fun vs H Q E h => absurd h (z _ _ _ _), fun _ _ _ _ _ _ _ _ _ _ _ _ _ h => absurd h (z _ _ _ _)⟩ m kp bb
  | n + 1 => calG_of (st n (calG_rec0 z m kp bb st n)) m kp bb
end
end SL

set_option Elab.async false
set_option linter.all false
set_option maxRecDepth 100000
set_option maxHeartbeats 2000000
namespace SL
open PySem PySem.Spec PyProof.Rows L2
/-! ### f-strings, join, str(..), int(..), is None -/
section
variable {X : Cx} {K : PySem.W.Frag} {σ : L2.St} {H : Hp} {Q : VK} {x y : V}
def tFs (ts : List TE) : TE := fun σ H Q => tJs ts Str.empty σ H fun out H1 => Q (.str out) H1
theorem pe_fs {v1 v2 : Expr} {rest : List Expr} {ts : List TE} {pos : Pos} (h : PJ X (v1 :: v2 :: rest) ts) : PE X (.JoinedStr (v1 :: v2 :: rest) pos) (tFs ts) := pe_joined h
theorem g_fs {ts : List TE} (q : tJs ts Str.empty σ H fun out H1 => Q (.str out) H1) : tFs ts σ H Q := q
theorem g_js0 {acc : Str} {A : Str → Hp → Prop} (q : A acc H) : tJs [] acc σ H A := q
theorem g_js {t : TE} {ts : List TE} {acc : Str} {A : Str → Hp → Prop} (q : t σ H fun x H1 => ∃ y : Str, x = .str y ∧ (acc ++ y).length ≤ sizeLine ∧ tJs ts (acc ++ y) σ H1 A) : tJs (t :: ts) acc σ H A := q
theorem g_fmt {te : TE} (q : te σ H fun x H1 => (∃ y : Str, x = .str y ∧ y.length ≤ sizeLine ∧ Q (.str y) H1) ∨ ∃ i : Int, x = .int i ∧ i.natAbs.log2 < 1920 ∧ Q (.str (toString i)) H1) : tFmt te σ H Q := q
theorem g_fmtS {z : Str} {A : Str → Prop} {B : Prop} (h : z.length ≤ sizeLine) (q : A z) : (∃ y : Str, V.str z = .str y ∧ y.length ≤ sizeLine ∧ A y) ∨ B := .inl ⟨z, rfl, h, q⟩
theorem g_jsS {z acc : Str} {A : Str → Prop} (h : (acc ++ z).length ≤ sizeLine) (q : A z) : ∃ y : Str, V.str z = .str y ∧ (acc ++ y).length ≤ sizeLine ∧ A y := ⟨z, rfl, h, q⟩
theorem app_len {a b : Str} : (a ++ b).length = a.length + b.length := Array.size_append
theorem lit_q : ("'" : Str).length = 1 := by decide +kernel
theorem lit_lp : ("(" : Str).length = 1 := by decide +kernel
theorem lit_rp : (")" : Str).length = 1 := by decide +kernel
theorem lit_sp : (" " : Str).length = 1 := by decide +kernel
theorem lit_cs : (", " : Str).length = 2 := by decide +kernel
theorem lit_not : ("not " : Str).length = 4 := by decide +kernel
theorem lit_is : (" is " : Str).length = 4 := by decide +kernel
theorem lit_if : (" if " : Str).length = 4 := by decide +kernel
theorem lit_e : Str.empty.length = 0 := by decide +kernel
theorem lit_dot : ("." : Str).length = 1 := by decide +kernel
/-- join -/
def rJoin (K : PySem.W.Frag) : V → List V → Hp → VK → Prop := fun x xs H Q => ∃ a p, ∃ ys : List Str, x = .str a ∧ xs = [.ref p] ∧ (SqL K H p (ys.map V.str) ∨ SqT K H p (ys.map V.str)) ∧
      (ys.map (·.length)).sum + ys.length * a.length ≤ 16777216 ∧ Q (.str (Txt.join a ys)) H
theorem mt_joinU : MtR X "str.join" (rJoin X.K) := mt_join
def rM (K : PySem.W.Frag) (T : String) (rb : PySem.W.Frag → V → List V → Hp → VK → Prop) : V → List V → Hp → VK → Prop := rb K
/-- str(a text or a small int) -/
def uStr : List V → Hp → VK → Prop := fun xs H Q => (∃ i, xs = [.int i] ∧ i.natAbs.log2 < 1920 ∧ Q (.str (toString i)) H) ∨ ∃ a, xs = [.str a] ∧ Q (.str a) H
theorem callu_str : CallR X (.type "str") uStr := call_str_int.or SkE.call_str_str
def uInt : List V → Hp → VK → Prop := fun xs H Q => (∃ i, xs = [.int i] ∧ Q (.int i) H) ∨ ∃ k, xs = [.bl k] ∧ Q (.int (if k then 1 else 0)) H
theorem callu_int : CallR X (.type "int") uInt := call_int1
theorem g_strI {i : Int} (h : i.natAbs.log2 < 1920) (q : Q (.str (toString i)) H) : uStr [.int i] H Q := .inl ⟨i, rfl, h, q⟩
theorem g_strS {a : Str} (q : Q (.str a) H) : uStr [.str a] H Q := .inr ⟨a, rfl, q⟩
theorem g_intB {k : Bool} (q : Q (.int (if k then 1 else 0)) H) : uInt [.bl k] H Q := .inr ⟨k, rfl, q⟩
theorem g_intI {i : Int} (q : Q (.int i) H) : uInt [.int i] H Q := .inl ⟨i, rfl, q⟩
def uIs : R2 := fun x y H Q => y = .non ∧ Q (.bl (decide (x = .non))) H
def uIsNot : R2 := fun x y H Q => y = .non ∧ Q (.bl (!decide (x = .non))) H
theorem opu_is : OpR X (compareOp .Is) uIs := op_isN
theorem opu_isNot : OpR X (compareOp .IsNot) uIsNot := op_notN
theorem g_is (q : Q (.bl (decide (x = .non))) H) : uIs x .non H Q := ⟨rfl, q⟩
theorem g_isNot (q : Q (.bl (!decide (x = .non))) H) : uIsNot x .non H Q := ⟨rfl, q⟩
theorem g_slS {z : Str} {lo hi : Option Int} (h : z.length ≤ sizeLine) (q : Q (.str (cutS z lo hi)) H) : rSlS (.str z) lo hi H Q := ⟨z, rfl, h, q⟩
/-- in -/
theorem g_inS {a b : Str} (q : Q (.bl (!(Builtin.Str.occurrences b a 0 b.length 1).isEmpty)) H) : uIn K (.str a) (.str b) H Q := q
theorem g_notInS {a b : Str} (q : Q (.bl (!(!(Builtin.Str.occurrences b a 0 b.length 1).isEmpty))) H) : uNotIn K (.str a) (.str b) H Q := q
theorem g_inT {z : Str} {p : Addr} {xs : List V} (h : SqL K H p xs ∨ SqT K H p xs) (h2 : xs.all flatV = true) (q : Q (.bl (inV (.str z) xs)) H) : uIn K (.str z) (.ref p) H Q := ⟨p, xs, rfl, h, rfl, h2, q⟩
theorem g_notInT {z : Str} {p : Addr} {xs : List V} (h : SqL K H p xs ∨ SqT K H p xs) (h2 : xs.all flatV = true) (q : Q (.bl (!inV (.str z) xs)) H) : uNotIn K (.str z) (.ref p) H Q := ⟨p, xs, rfl, h, rfl, h2, q⟩
theorem inV_str (z : Str) (ws : List Str) : inV (.str z) (ws.map V.str) = decide (z ∈ ws) := by
  induction ws with
  | nil => rfl
  | cons w r ih =>
    unfold inV at ih ⊢
    rw [List.map_cons, List.any_cons, ih]
    by_cases h : z = w
    · subst h
      simp [eqV]
    · have : decide (V.str z = V.str w) = false := decide_eq_false fun e => h (V.str.inj e)
      simp [eqV, h, Ne.symm h]
theorem flat_strs (ws : List Str) : (ws.map V.str).all flatV = true := by
  induction ws with
  | nil => rfl
  | cons w r ih => rw [List.map_cons, List.all_cons, ih]; rfl
/-! dict.get of a dict made here -/
theorem g_dget2 {td ty tx : TE} (q : td σ H fun x H1 => ∃ a, x = .ref a ∧ IsD H1 a ∧ ty σ H1 fun y H2 => tx σ H2 fun z H3 => ∃ o, DGet H3 a y o ∧ Q (o.getD z) H3) : tDGet2 td ty tx σ H Q := q
theorem g_dget1 {td ty : TE} (q : td σ H fun x H1 => ∃ a, x = .ref a ∧ IsD H1 a ∧ ty σ H1 fun y H2 => ∃ o, DGet H2 a y o ∧ Q (o.getD .non) H2) : tDGet1 td ty σ H Q := q
end
/-! ### written dicts -/
/-- at a: a written dict with these values, or none, at these keys -/
def WD (K : PySem.W.Frag) (w : World) (a : Addr) (kvs : List (Str × Option V)) : Prop := (∃ es n, KDict K w a es n) ∧ ∀ p ∈ kvs, ∃ r, PySem.W.nsIn K a p.1 = some r ∧ RelO p.2 r
def tKGet2 (K : PySem.W.Frag) (w : World) (td ty tx : TE) : TE := fun σ H Q => td σ H fun x H1 => ∃ a kvs, x = .ref a ∧ WD K w a kvs ∧ ty σ H1 fun y H2 => tx σ H2 fun z H3 => ∃ k o, y = .str k ∧ (k, o) ∈ kvs ∧ Q (o.getD z) H3
def rIxW (K : PySem.W.Frag) (w : World) : R2 := fun x y H Q => ∃ a kvs k v, x = .ref a ∧ y = .str k ∧ WD K w a kvs ∧ (k, some v) ∈ kvs ∧ Q v H
def uInW (K : PySem.W.Frag) (w : World) : R2 := fun x y H Q => ∃ a kvs k o, x = .str k ∧ y = .ref a ∧ WD K w a kvs ∧ (k, o) ∈ kvs ∧ Q (.bl o.isSome) H
section
variable {X : Cx} {o e f : Expr} {apos cpos : Pos} {td ty tx : TE}
theorem wd_none {h : Heap} {K : PySem.W.Frag} {w : World} {P : Program} {a : Addr} {es : Array DictEntry} {n : Nat} (X : K.In h) (D : KDict K w a es n) : ∃ ob, h.get? a = some ob ∧ ob.dict = none := ⟨_, X _ _ D.at_, rfl⟩
theorem pe_kget2 (ho : PE X o td) (he : PE X e ty) (hf : PE X f tx) (m : M2 X o "get" apos e f cpos) : PE X (.Call (.Attribute o "get" apos) [e, f] [] cpos) (tKGet2 X.K X.w td ty tx) := by
  refine ⟨fun pins s σ H Q I h => ?_⟩
  refine wpAny_Call_method m.base m.few m.line PySem.F.plainAttrs_dict PySem.F.slot_dict_get PySem.F.type_dict_get (thn (ho.run pins s σ H _ I h) fun u s1 ⟨x, H1, I1, rx, a, kvs, ex, wd, q1⟩ => ?_)
  subst ex
  obtain rfl : u = Value.ref a := rx
  obtain ⟨⟨es, n, D⟩, hv⟩ := wd
  refine ⟨kd_type D I1, fun b q => ?_, ?_⟩
  · cases q
    exact wd_none (P := X.prog) I1.kIn D
  rw [m.trees]
  refine Calls.callWith_builtin rfl (Calls.evalArgs_plain (Calls.spliced_cons (thn (he.run pins s1 σ H1 _ I1 q1) fun iv s2 ⟨y, H2, I2, ry, q2⟩ =>
    Calls.spliced_cons (thn (hf.run pins s2 σ H2 _ I2 q2) fun fv s3 ⟨z, H3, I3, rz, k, ov, ey, hm, q3⟩ => Calls.spliced_nil ?_))))
  subst ey
  obtain ⟨t, rfl⟩ := (show ∃ t, iv = Value.str k t from ry)
  obtain ⟨r, e1, e2⟩ := hv _ hm
  refine call_meetsIn PySem.F.slot_dict_get (kd_type D I3) PySem.F.entry_dict_get (PySem.F.args_dict_get_3 _ _ _) (meets_dict_get_default (strKind X.prog X.w) a (strKind_is X.prog X.w k t) D.low fv) ⟨_, PySem.W.mapOf_K (prog := X.prog) I3.kIn D.at_ D.lit, ?_⟩
  refine ⟨ov.getD z, H3, I3.tok _, ?_, q3⟩
  rw [PySem.W.find_K D.at_ e1]
  cases ov with
  | none =>
    cases e2.none_of
    exact rz
  | some v =>
    obtain ⟨u, eu, ru⟩ := e2.some_of
    rw [eu]
    exact ru
theorem ix_wd : IxR X (rIxW X.K X.w) := by
  intro value slice pins s σ H x y v u Q I rx ry h hs
  obtain ⟨p, kvs, z, r, ex, ey, ⟨⟨es, n, D⟩, hv⟩, hm, q⟩ := h
  obtain ⟨r', e1, e2⟩ := hv _ hm
  obtain ⟨u0, eu, ru⟩ := e2.some_of
  rw [eu] at e1
  exact ix_kdict value slice pins s σ H x y v u Q I rx ry ⟨p, z, r, ex, ey, ⟨es, n, u0, D.at_, D.lit, e1, ru⟩, q⟩ hs
theorem opu_inW : OpR X (compareOp .In) (uInW X.K X.w) := by
  intro pins s σ H x y v u Q I rx ry h
  obtain ⟨p, kvs, z, ov, ex, ey, ⟨⟨es, n, D⟩, hv⟩, hm, q⟩ := h
  obtain ⟨r, e1, e2⟩ := hv _ hm
  refine op_in_kd D pins s σ H x y v u Q I rx ry ⟨z, r, ex, ey, e1, ?_⟩
  cases ov with
  | none => cases e2.none_of; exact q
  | some w =>
    obtain ⟨u0, eu, _⟩ := e2.some_of
    rw [eu]
    exact q
end
theorem kIxW {X : Cx} {K : PySem.W.Frag} {w : World} (e : X.K = K) (e2 : X.w = w) (h : IxR X (rIxW X.K X.w)) : IxR X (rIxW K w) := by subst e e2; exact h
section
variable {K : PySem.W.Frag} {w : World} {H : Hp} {Q : VK} {σ : L2.St}
theorem g_kget2 {td ty tx : TE} (q : td σ H fun x H1 => ∃ a kvs, x = .ref a ∧ WD K w a kvs ∧ ty σ H1 fun y H2 => tx σ H2 fun z H3 => ∃ k o, y = .str k ∧ (k, o) ∈ kvs ∧ Q (o.getD z) H3) : tKGet2 K w td ty tx σ H Q := q
theorem g_ixW {a : Addr} {kvs : List (Str × Option V)} {k : Str} {v : V} (h : WD K w a kvs) (hm : (k, some v) ∈ kvs) (q : Q v H) : rIxW K w (.ref a) (.str k) H Q := ⟨a, kvs, k, v, rfl, rfl, h, hm, q⟩
end
/-- a table of the head: its values, or none, at these keys -/
def wdB (K : PySem.W.Frag) (a : Addr) (kvs : List (Str × Option He.Dv)) : Bool := kvs.all fun q => match PySem.W.nsIn K a q.1 with
  | some (some u) => (match q.2 with
    | some v => He.relB (v.v K) u
    | none => false)
  | some none => q.2.isNone
  | none => false
theorem wd_of {K : PySem.W.Frag} {w : World} {a : Addr} {kvs : List (Str × Option He.Dv)} {es : Array DictEntry} {n : Nat} (D : KDict K w a es n) (h : wdB K a kvs = true) : WD K w a (kvs.map fun q => (q.1, q.2.map (He.Dv.v K))) := by
  refine ⟨⟨es, n, D⟩, fun p hp => ?_⟩
  obtain ⟨q, hq, rfl⟩ := List.mem_map.mp hp
  have h2 := List.all_eq_true.mp h q hq
  cases e : PySem.W.nsIn K a q.1 with
  | none => rw [e] at h2; cases h2
  | some r =>
    rw [e] at h2
    refine ⟨r, rfl, ?_⟩
    obtain ⟨qk, qo⟩ := q
    cases r with
    | none =>
      cases qo with
      | none => trivial
      | some v => cases h2
    | some u =>
      cases qo with
      | none => cases h2
      | some v => exact He.relB_ok h2
end SL

set_option Elab.async false
set_option linter.all false
set_option maxRecDepth 100000
set_option maxHeartbeats 2000000
namespace SL
open PySem PySem.Spec PyProof.Rows L2
/-- a comprehension that makes of each thing just one other thing -/
theorem lc_map {J : It} {n : Nat} {G : Hp → Prop} {xs ys : List V} (w : Walk J n G (YAt xs)) {g : TG} {te : TE} {vs : List Nat} {σ : L2.St} {H1 : Hp} {D : Addr} {Qd : Hp → Prop} (hG : ∀ H', Fr [] H1 H' → G H') (hn : xs.length = n) (hy : ys.length = n) (hz : n ≤ 10000) (hD : H1 D = none)
    (body : ∀ (i : Nat) (x y : V) (H' : Hp) (A : V → Hp → Prop), xs[i]? = some x → ys[i]? = some y → Fr [] H1 H' → (∀ H4, Fr [] H' H4 → A y H4) → g x (wipe σ vs) H' fun σ2 H2 => wipe σ2 vs = wipe σ vs ∧ te σ2 H2 A)
    (fin : ∀ H', Fr [] H1 H' → H' D = some (.lst ys) → Qd H') :
    ∃ W : Nat → Nat → Hp → Prop, (∃ m, W 0 m (upd H1 D (.lst []))) ∧ ∀ i m H, W i m H →
      (J.stop i H ∧ Qd H) ∨ (J.go i H ∧ ∃ Nx : Hp → Prop, (∀ H', Nx H' → ∃ m', m' < m ∧ W (i + 1) m' H') ∧ ∀ x H', J.yld i H x H' → g x (wipe σ vs) H' fun σ2 H2 => wipe σ2 vs = wipe σ vs ∧ tYes σ2 H2 fun b H3 =>
        if b = true then te σ2 H3 fun y H4 => ∃ acc, H4 D = some (.lst acc) ∧ acc.length < sizeLine ∧ Nx (upd H4 D (.lst (acc ++ [y]))) else Nx H3) := by
  subst hn
  refine lc_it w (fun i H' => Fr [] H1 H' ∧ H' D = some (.lst (ys.take i))) ⟨Fr.new hD, by rw [List.take_zero]; exact upd_same⟩ (fun i H' _ h => hG H' h.1) (fun i x H' H'' hi h y => ?_) (fun H' h => ?_)
  · obtain ⟨rfl, hx⟩ := y
    obtain ⟨h1, h2⟩ := h
    have hi2 : i < ys.length := by omega
    exact body i x ys[i] H'' _ hx (List.getElem?_eq_getElem hi2) h1 fun H4 e4 => ⟨_, e4.at h2 (fun z => nomatch z), lt_of (by rw [List.length_take]; omega), (h1.trans e4).over hD, by rw [upd_same, List.take_succ, List.getElem?_eq_getElem hi2]; rfl⟩
  · exact fin H' h.1 (by rw [h.2, ← hy, List.take_length])
theorem tls_get {α : Type} {f : α → Str} {xs : List α} {i : Nat} {x : α} (h : xs[i]? = some x) : ((xs.map f).map V.str)[i]? = some (.str (f x)) := by
  rw [List.getElem?_map, List.getElem?_map, h]
  rfl
theorem tda_get {α : Type} {K : PySem.W.Frag} {H : Hp} {f : α → PyData} : ∀ {xs : List α} {vs : List V}, TdAll K H vs (xs.map f) → vs.length = xs.length ∧ ∀ (i : Nat) (v : V), vs[i]? = some v → ∃ x, xs[i]? = some x ∧ Td K H v (f x)
  | [], vs, h => by cases h.nil_inv; exact ⟨rfl, fun i x e => by simp at e⟩
  | y :: r, vs, h => by
    obtain ⟨v, ws, rfl, h1, h2⟩ := TdAll.cons_inv (show TdAll K H vs (f y :: r.map f) from h)
    obtain ⟨k1, k2⟩ := tda_get h2
    refine ⟨by simp [k1], fun i x e => ?_⟩
    cases i with
    | zero =>
      simp only [List.getElem?_cons_zero, Option.some.injEq] at e
      subst e
      exact ⟨y, rfl, h1⟩
    | succ j =>
      simp only [List.getElem?_cons_succ] at e
      exact k2 j x e
theorem tda_mk {α : Type} {K : PySem.W.Frag} {H : Hp} {f : α → PyData} : ∀ {xs : List α} {vs : List V}, vs.length = xs.length → (∀ (i : Nat) (x : α) (v : V), xs[i]? = some x → vs[i]? = some v → Td K H v (f x)) → TdAll K H vs (xs.map f)
  | [], [], _, _ => .nil
  | [], _ :: _, h, _ => by cases h
  | _ :: _, [], h, _ => by cases h
  | x :: r, v :: ws, h, k => .cons (k 0 x v rfl rfl) (tda_mk (Nat.succ.inj h) fun i y u e1 e2 => k (i + 1) y u e1 e2)
/-- a comprehension of texts over things of tuples -/
theorem lc_td {α : Type} {f : α → PyData} {T : α → Str} {as : List α} {K : PySem.W.Frag} {J : It} {n : Nat} {G : Hp → Prop} {xs : List V} (w : Walk J n G (YAt xs)) {g : TG} {te : TE} {vs : List Nat} {σ : L2.St} {H1 : Hp} {D : Addr} {Qd : Hp → Prop} (hG : ∀ H', Fr [] H1 H' → G H') (hn : xs.length = n)
    (hx : TdAll K H1 xs (as.map f)) (hz : as.length ≤ 10000) (hD : H1 D = none)
    (body : ∀ (x : V) (c : α) (H' : Hp) (A : V → Hp → Prop), c ∈ as → Td K H' x (f c) → Fr [] H1 H' → (∀ H4, Fr [] H' H4 → A (.str (T c)) H4) → g x (wipe σ vs) H' fun σ2 H2 => wipe σ2 vs = wipe σ vs ∧ te σ2 H2 A)
    (fin : ∀ H', Fr [] H1 H' → H' D = some (.lst ((as.map T).map V.str)) → Qd H') :
    ∃ W : Nat → Nat → Hp → Prop, (∃ m, W 0 m (upd H1 D (.lst []))) ∧ ∀ i m H, W i m H →
      (J.stop i H ∧ Qd H) ∨ (J.go i H ∧ ∃ Nx : Hp → Prop, (∀ H', Nx H' → ∃ m', m' < m ∧ W (i + 1) m' H') ∧ ∀ x H', J.yld i H x H' → g x (wipe σ vs) H' fun σ2 H2 => wipe σ2 vs = wipe σ vs ∧ tYes σ2 H2 fun b H3 =>
        if b = true then te σ2 H3 fun y H4 => ∃ acc, H4 D = some (.lst acc) ∧ acc.length < sizeLine ∧ Nx (upd H4 D (.lst (acc ++ [y]))) else Nx H3) := by
  obtain ⟨k1, k2⟩ := tda_get hx
  refine lc_map w hG hn (by rw [List.length_map, List.length_map]; omega) (by omega) hD (fun i x y H' A ex ey e k => ?_) fin
  obtain ⟨c, hc, hd⟩ := k2 i x ex
  rw [tls_get hc] at ey
  cases ey
  exact body x c H' A (List.mem_of_getElem? hc) (hd.fr e) e k
theorem sum_len {ts : List Str} {n : Nat} (h : ∀ t ∈ ts, t.length ≤ n) : (ts.map (·.length)).sum ≤ ts.length * n := by
  induction ts with
  | nil => simp
  | cons t r ih =>
    have h1 := h t List.mem_cons_self
    have h2 := ih fun x hx => h x (List.mem_cons_of_mem _ hx)
    simp only [List.map_cons, List.sum_cons, List.length_cons, Nat.succ_mul]
    omega
section
variable {P : Program} {w : World} {K : PySem.W.Frag} {mg : Str → Option Value} {base : Heap} {f : Addr} {fd : FuncData} {ps : List Str} {x : Str} {sp : Nat → Sp}
theorem calG_rec2 (b : Nat) (z : ∀ vs H Q E, ¬ sp 0 vs H Q E) (m : mg x = some (.ref f)) (kp : PySem.W.keepIn K (.ref f) = true) (bb : Binds K fd ps [])
    (st : ∀ n, CalG P w K mg base (b + 2 * n) x (sp n) → FnG P w K mg base CX0 (b + 2 * n + 2) f fd ps (sp (n + 1))) : ∀ n, CalG P w K mg base (b + 2 * n) x (sp n)
  | 0 => calG_of ⟨fun vs H Q E h => absurd h (z _ _ _ _), fun _ _ _ _ _ _ _ _ _ _ _ _ _ h => absurd h (z _ _ _ _)⟩ m kp bb
  | n + 1 => calG_of (st n (calG_rec2 b z m kp bb st n)) m kp bb
end
section
variable {K : PySem.W.Frag} {σ : L2.St} {H : Hp} {D : Ends} {Q : VK}
theorem g_dput {td ty tv : TE} (q : tv σ H fun v H1 => td σ H1 fun x H2 => ty σ H2 fun y H3 => ∃ a H4, x = .ref a ∧ DPut H3 a y v H4 ∧ D.nx σ H4) : sDPut td ty tv D σ H := q
theorem g_dputS {p : Addr} {kvs : List (Key × V)} {z : Str} {v : V} {A : Hp → Prop} (h : H p = some (.dK kvs)) (hl : kvs.length ≤ 1000) (q : A (upd H p (.dK (putK kvs (Sum.inr z) v)))) : ∃ a H4, V.ref p = .ref a ∧ DPut H a (.str z) v H4 ∧ A H4 :=
  ⟨p, _, rfl, DPut.k (k := (Sum.inr z : Key)) h (lt_of (by omega)), q⟩
end
theorem putK_mem {kvs : List (Key × V)} {k : Key} {v : V} {p : Key × V} (h : p ∈ putK kvs k v) : p ∈ kvs ∨ p = (k, v) := by
  unfold putK at h
  split at h
  · obtain ⟨c, hc, rfl⟩ := List.mem_map.mp h
    split
    · rename_i e
      exact .inr (by rw [e])
    · exact .inl hc
  · rcases List.mem_append.mp h with h | h
    · exact .inl h
    · exact .inr (List.mem_singleton.mp h)
theorem putK_len {kvs : List (Key × V)} {k : Key} {v : V} : (putK kvs k v).length ≤ kvs.length + 1 := by
  unfold putK
  split
  · rw [List.length_map]; omega
  · rw [List.length_append]; exact Nat.le_refl _
theorem putK_ne {kvs : List (Key × V)} {k : Key} {v : V} : putK kvs k v ≠ [] := by
  unfold putK
  split
  · rename_i e
    intro h
    rw [List.map_eq_nil_iff] at h
    rw [h] at e
    cases e
  · intro h
    cases List.append_eq_nil_iff.mp h with
    | intro _ h => cases h
theorem mergeK_mem {kvs : List (Key × V)} : ∀ {acc : List (Key × V)} {p : Key × V}, p ∈ mergeK acc kvs → p ∈ acc ∨ p ∈ kvs := by
  induction kvs with
  | nil => exact fun h => .inl h
  | cons c r ih =>
    intro acc p h
    rcases ih (show p ∈ mergeK (putK acc c.1 c.2) r from h) with h | h
    · rcases putK_mem h with h | h
      · exact .inl h
      · exact .inr (by rw [h]; exact List.mem_cons_self)
    · exact .inr (List.mem_cons_of_mem _ h)
theorem mergeK_len {kvs : List (Key × V)} : ∀ {acc : List (Key × V)}, (mergeK acc kvs).length ≤ acc.length + kvs.length := by
  induction kvs with
  | nil => exact fun {acc} => Nat.le_refl _
  | cons c r ih =>
    intro acc
    have h := ih (acc := putK acc c.1 c.2)
    have h2 := putK_len (kvs := acc) (k := c.1) (v := c.2)
    show (mergeK (putK acc c.1 c.2) r).length ≤ acc.length + (r.length + 1)
    omega
theorem mergeK_ne {kvs : List (Key × V)} : ∀ {acc : List (Key × V)}, (kvs ≠ [] ∨ acc ≠ []) → mergeK acc kvs ≠ [] := by
  induction kvs with
  | nil => exact fun {acc} h => h.elim (fun z => absurd rfl z) id
  | cons c r ih => exact fun {acc} _ => ih (acc := putK acc c.1 c.2) (.inr putK_ne)
section
variable {D : Ends} {σ : L2.St} {H : Hp}
/-- behind a statement: the rest is told of what holds there, once -/
theorem g_cutS {ts tu : TS} (Pv : L2.St → Hp → Prop) (h1 : ∀ σ' H', Pv σ' H' → tu D σ' H') (h2 : ∀ N : L2.St → Hp → Prop, (∀ σ' H', Pv σ' H' → N σ' H') → ts { D with nx := N } σ H) : tSeq ts tu D σ H := h2 (tu D) h1
theorem g_seqIf (t : TT) (a b u : TS) (D : Ends) (σ : L2.St) (H : Hp) : tSeq (tIfS t a b) u D σ H → tSeq (tIfS t a b) u D σ H := id
end
/-- a slice of a tuple -/
theorem g_slA {K : PySem.W.Frag} {H : Hp} {Q : VK} {p : Addr} {xs : List V} {lo hi : Option Int} (h : SqT K H p xs) (q : ∀ (r : Addr) (H' : Hp), Fr [] H H' → SqT K H' r (cutV xs lo hi) → Q (.ref r) H') : rSlA K (.ref p) lo hi H Q := by
  refine ⟨p, xs, rfl, h, fun w => q p H Fr.refl ?_, fun _ r hr => q r _ (Fr.new hr) (SqT.of upd_same)⟩
  have e : cutV xs lo hi = xs := by
    unfold cutV
    rw [w.1, w.2, List.drop_zero, Nat.sub_zero, List.take_length]
  rw [e]
  exact h
/-- what a def writes of a thing of tuples -/
def spTx {α : Type} (K : PySem.W.Frag) (d : α → PyData) (G : α → Prop) (T : α → Str) : Sp := fun vs H Q _ => ∃ v a, vs = [v] ∧ Td K H v (d a) ∧ G a ∧ ∀ H', Fr [] H H' → Q (.str (T a)) H'
end SL

set_option Elab.async false
set_option linter.all false
set_option maxRecDepth 100000
set_option maxHeartbeats 2000000
namespace SL
open PySem PySem.Spec PyProof.Rows L2
/-! ### dict comprehensions, comprehensions with two fors, while, list(range), remove, clear, in a dict -/
section
variable {σ : L2.St} {H : Hp} {Q : VK} {D : Ends}
theorem g_listRg {te : TE} (q : tRg1 te σ H fun a b H1 => RgOk a b ∧ ∀ q, H1 q = none → Q (.ref q) (upd H1 q (.lst (rgV a b)))) : tLstRg (tRg1 te) σ H Q := q
theorem g_rg1 {ta : TE} {A : Int → Int → Hp → Prop} (q : ta σ H fun x H1 => ∃ n, x = .int n ∧ A 0 n H1) : tRg1 ta σ H A := q
theorem g_clear {p : Addr} {xs : List V} (h : H p = some (.lst xs)) (q : Q .non (upd H p (.lst []))) : rClear (.ref p) [] H Q := ⟨p, xs, rfl, rfl, h, q⟩
theorem g_app {p : Addr} {xs : List V} {v : V} (h : H p = some (.lst xs)) (hz : xs.length ≤ 10000) (q : Q .non (upd H p (.lst (xs ++ [v])))) : rAppend (.ref p) [v] H Q := ⟨p, xs, v, rfl, rfl, h, lt_of (by omega), q⟩
theorem g_while {c : TT} {tb : TS} (Pv : L2.St → Hp → Prop) (μ : L2.St → Hp → Nat) (h0 : Pv σ H) (hs : ∀ σ H, Pv σ H → ∀ N : L2.St → Hp → Prop, (∀ σ' H', Pv σ' H' → μ σ' H' < μ σ H → N σ' H') →
    c σ H fun b H1 => if b = true then tb { D with nx := N, ct := N, bk := D.nx } σ H1 else D.nx σ H1) (hm : ∀ σ H, Pv σ H → ∀ (A B : Bool → Hp → Prop), (∀ b H1, A b H1 → B b H1) → c σ H A → c σ H B) : tWhile c tb D σ H := by
  refine ⟨fun m σ H => m = μ σ H ∧ Pv σ H, ⟨_, rfl, h0⟩, ?_⟩
  rintro m σ H ⟨rfl, p⟩
  refine hm σ H p _ _ (fun b H1 q => ?_) (hs σ H p (fun σ' H' => Pv σ' H' ∧ μ σ' H' < μ σ H) fun σ' H' a b => ⟨a, b⟩)
  cases b with
  | true => exact ⟨_, fun σ' H' ⟨p', l⟩ => ⟨_, l, rfl, p'⟩, q⟩
  | false => exact q
theorem rgV_nat (n : Nat) : rgV 0 (n : Int) = (List.range n).map fun k : Nat => V.int (k : Int) := by
  unfold rgV
  simp
end
section
variable {J J1 : It} {n n1 : Nat} {G G1 : Hp → Prop} {Y Y1 : Nat → Hp → V → Hp → Prop} {K : PySem.W.Frag}
/-- a comprehension with two fors, the outer one: Pv by the turn and the heap -/
theorem lc2_out (w : Walk J n G Y) {g g1 : TG} {tt tt1 : TT} {wi1 : TI} {te : TE} {vs vs1 : List Nat} {σ : L2.St} {H1 : Hp} {D : Addr} {Qd : Hp → Prop} (Pv : Nat → Hp → Prop) (h0 : Pv 0 (upd H1 D (.lst []))) (hG : ∀ i H, i ≤ n → Pv i H → G H)
    (hs : ∀ i x H H', i < n → Pv i H → Y i H x H' → g x (wipe σ vs) H' fun σ2 H2 => wipe σ2 vs = wipe σ vs ∧ tt σ2 H2 fun b H3 =>
      if b = true then wi1 σ2 H3 fun J1 H4 => ∃ W1 : Nat → Nat → Hp → Prop, (∃ m, W1 0 m H4) ∧ ∀ j k H, W1 j k H →
        (J1.stop j H ∧ Pv (i + 1) H) ∨ (J1.go j H ∧ ∃ Nx1 : Hp → Prop, (∀ H', Nx1 H' → ∃ k', k' < k ∧ W1 (j + 1) k' H') ∧ ∀ x H', J1.yld j H x H' → g1 x (wipe σ2 vs1) H' fun σ3 H5 => wipe σ3 vs1 = wipe σ2 vs1 ∧ tt1 σ3 H5 fun b H6 =>
          if b = true then te σ3 H6 fun y H7 => ∃ acc, H7 D = some (.lst acc) ∧ acc.length < sizeLine ∧ Nx1 (upd H7 D (.lst (acc ++ [y]))) else Nx1 H6)
      else Pv (i + 1) H3) (hd : ∀ H, Pv n H → Qd H) :
    ∃ W : Nat → Nat → Hp → Prop, (∃ m, W 0 m (upd H1 D (.lst []))) ∧ ∀ i m H, W i m H →
      (J.stop i H ∧ Qd H) ∨ (J.go i H ∧ ∃ Nx : Hp → Prop, (∀ H', Nx H' → ∃ m', m' < m ∧ W (i + 1) m' H') ∧ ∀ x H', J.yld i H x H' → g x (wipe σ vs) H' fun σ2 H2 => wipe σ2 vs = wipe σ vs ∧ tt σ2 H2 fun b H3 =>
        if b = true then wi1 σ2 H3 fun J1 H4 => ∃ W1 : Nat → Nat → Hp → Prop, (∃ m, W1 0 m H4) ∧ ∀ j k H, W1 j k H →
          (J1.stop j H ∧ Nx H) ∨ (J1.go j H ∧ ∃ Nx1 : Hp → Prop, (∀ H', Nx1 H' → ∃ k', k' < k ∧ W1 (j + 1) k' H') ∧ ∀ x H', J1.yld j H x H' → g1 x (wipe σ2 vs1) H' fun σ3 H5 => wipe σ3 vs1 = wipe σ2 vs1 ∧ tt1 σ3 H5 fun b H6 =>
            if b = true then te σ3 H6 fun y H7 => ∃ acc, H7 D = some (.lst acc) ∧ acc.length < sizeLine ∧ Nx1 (upd H7 D (.lst (acc ++ [y]))) else Nx1 H6)
        else Nx H3) := by
  refine ⟨fun i m H => m = n - i ∧ i ≤ n ∧ Pv i H, ⟨n, by simp, Nat.zero_le _, h0⟩, ?_⟩
  rintro i m H ⟨rfl, hi, p⟩
  have q := hG i H hi p
  by_cases hlt : i < n
  · exact .inr ⟨w.goes i H hlt q, Pv (i + 1), fun H' p' => ⟨n - (i + 1), by omega, rfl, hlt, p'⟩, fun x H' y => hs i x H H' hlt p (w.yields i H x H' hlt q y)⟩
  · have e : i = n := by omega
    subst e
    exact .inl ⟨w.stops H q, hd H p⟩
/-- .. the inner one -/
theorem lc2_in (w : Walk J1 n1 G1 Y1) {g1 : TG} {tt1 : TT} {te : TE} {vs1 : List Nat} {σ2 : L2.St} {H4 : Hp} {D : Addr} {Nx : Hp → Prop} (Pv : Nat → Hp → Prop) (h0 : Pv 0 H4) (hG : ∀ i H, i ≤ n1 → Pv i H → G1 H)
    (hs : ∀ i x H H', i < n1 → Pv i H → Y1 i H x H' → g1 x (wipe σ2 vs1) H' fun σ3 H5 => wipe σ3 vs1 = wipe σ2 vs1 ∧ tt1 σ3 H5 fun b H6 =>
      if b = true then te σ3 H6 fun y H7 => ∃ acc, H7 D = some (.lst acc) ∧ acc.length < sizeLine ∧ Pv (i + 1) (upd H7 D (.lst (acc ++ [y]))) else Pv (i + 1) H6) (hd : ∀ H, Pv n1 H → Nx H) :
    ∃ W1 : Nat → Nat → Hp → Prop, (∃ m, W1 0 m H4) ∧ ∀ j k H, W1 j k H →
      (J1.stop j H ∧ Nx H) ∨ (J1.go j H ∧ ∃ Nx1 : Hp → Prop, (∀ H', Nx1 H' → ∃ k', k' < k ∧ W1 (j + 1) k' H') ∧ ∀ x H', J1.yld j H x H' → g1 x (wipe σ2 vs1) H' fun σ3 H5 => wipe σ3 vs1 = wipe σ2 vs1 ∧ tt1 σ3 H5 fun b H6 =>
        if b = true then te σ3 H6 fun y H7 => ∃ acc, H7 D = some (.lst acc) ∧ acc.length < sizeLine ∧ Nx1 (upd H7 D (.lst (acc ++ [y]))) else Nx1 H6) := by
  refine ⟨fun i m H => m = n1 - i ∧ i ≤ n1 ∧ Pv i H, ⟨n1, by simp, Nat.zero_le _, h0⟩, ?_⟩
  rintro i m H ⟨rfl, hi, p⟩
  have q := hG i H hi p
  by_cases hlt : i < n1
  · exact .inr ⟨w.goes i H hlt q, Pv (i + 1), fun H' p' => ⟨n1 - (i + 1), by omega, rfl, hlt, p'⟩, fun x H' y => hs i x H H' hlt p (w.yields i H x H' hlt q y)⟩
  · have e : i = n1 := by omega
    subst e
    exact .inl ⟨w.stops H q, hd H p⟩
/-- a dict comprehension -/
theorem dc_it (w : Walk J n G Y) {g : TG} {tt : TT} {tk tv : TE} {vs : List Nat} {σ : L2.St} {H1 : Hp} {D : Addr} {Qd : Hp → Prop} (Pv : Nat → Hp → Prop) (h0 : Pv 0 (upd H1 D (.dK []))) (hG : ∀ i H, i ≤ n → Pv i H → G H)
    (hs : ∀ i x H H', i < n → Pv i H → Y i H x H' → g x (wipe σ vs) H' fun σ2 H2 => wipe σ2 vs = wipe σ vs ∧ tt σ2 H2 fun b H3 =>
      if b = true then tk σ2 H3 fun y H4 => tv σ2 H4 fun z H5 => ∃ kvs k, y = kV k ∧ H5 D = some (.dK kvs) ∧ kvs.length < sizeLine ∧ Pv (i + 1) (upd H5 D (.dK (putK kvs k z))) else Pv (i + 1) H3) (hd : ∀ H, Pv n H → Qd H) :
    ∃ W : Nat → Nat → Hp → Prop, (∃ m, W 0 m (upd H1 D (.dK []))) ∧ ∀ i m H, W i m H →
      (J.stop i H ∧ Qd H) ∨ (J.go i H ∧ ∃ Nx : Hp → Prop, (∀ H', Nx H' → ∃ m', m' < m ∧ W (i + 1) m' H') ∧ ∀ x H', J.yld i H x H' → g x (wipe σ vs) H' fun σ2 H2 => wipe σ2 vs = wipe σ vs ∧ tt σ2 H2 fun b H3 =>
        if b = true then tk σ2 H3 fun y H4 => tv σ2 H4 fun z H5 => ∃ kvs k, y = kV k ∧ H5 D = some (.dK kvs) ∧ kvs.length < sizeLine ∧ Nx (upd H5 D (.dK (putK kvs k z))) else Nx H3) := by
  refine ⟨fun i m H => m = n - i ∧ i ≤ n ∧ Pv i H, ⟨n, by simp, Nat.zero_le _, h0⟩, ?_⟩
  rintro i m H ⟨rfl, hi, p⟩
  have q := hG i H hi p
  by_cases hlt : i < n
  · exact .inr ⟨w.goes i H hlt q, Pv (i + 1), fun H' p' => ⟨n - (i + 1), by omega, rfl, hlt, p'⟩, fun x H' y => hs i x H H' hlt p (w.yields i H x H' hlt q y)⟩
  · have e : i = n := by omega
    subst e
    exact .inl ⟨w.stops H q, hd H p⟩
end
section
variable {σ : L2.St} {H : Hp} {Q : VK} {wi wi1 : TI} {g g1 : TG} {tt tt1 : TT} {te tk tv : TE} {vs vs1 : List Nat}
theorem g_lc2 (q : wi σ H fun J H1 => ∀ D, H1 D = none → ∃ W : Nat → Nat → Hp → Prop, (∃ m, W 0 m (upd H1 D (.lst []))) ∧ ∀ i m H, W i m H →
      (J.stop i H ∧ Q (.ref D) H) ∨ (J.go i H ∧ ∃ Nx : Hp → Prop, (∀ H', Nx H' → ∃ m', m' < m ∧ W (i + 1) m' H') ∧ ∀ x H', J.yld i H x H' → g x (wipe σ vs) H' fun σ2 H2 => wipe σ2 vs = wipe σ vs ∧ tt σ2 H2 fun b H3 =>
        if b = true then wi1 σ2 H3 fun J1 H4 => ∃ W1 : Nat → Nat → Hp → Prop, (∃ m, W1 0 m H4) ∧ ∀ j k H, W1 j k H →
          (J1.stop j H ∧ Nx H) ∨ (J1.go j H ∧ ∃ Nx1 : Hp → Prop, (∀ H', Nx1 H' → ∃ k', k' < k ∧ W1 (j + 1) k' H') ∧ ∀ x H', J1.yld j H x H' → g1 x (wipe σ2 vs1) H' fun σ3 H5 => wipe σ3 vs1 = wipe σ2 vs1 ∧ tt1 σ3 H5 fun b H6 =>
            if b = true then te σ3 H6 fun y H7 => ∃ acc, H7 D = some (.lst acc) ∧ acc.length < sizeLine ∧ Nx1 (upd H7 D (.lst (acc ++ [y]))) else Nx1 H6)
        else Nx H3)) : tLc2 wi g tt wi1 g1 tt1 te vs vs1 σ H Q := q
theorem g_dc (q : wi σ H fun J H1 => ∀ D, H1 D = none → ∃ W : Nat → Nat → Hp → Prop, (∃ m, W 0 m (upd H1 D (.dK []))) ∧ ∀ i m H, W i m H →
      (J.stop i H ∧ Q (.ref D) H) ∨ (J.go i H ∧ ∃ Nx : Hp → Prop, (∀ H', Nx H' → ∃ m', m' < m ∧ W (i + 1) m' H') ∧ ∀ x H', J.yld i H x H' → g x (wipe σ vs) H' fun σ2 H2 => wipe σ2 vs = wipe σ vs ∧ tt σ2 H2 fun b H3 =>
        if b = true then tk σ2 H3 fun y H4 => tv σ2 H4 fun z H5 => ∃ kvs k, y = kV k ∧ H5 D = some (.dK kvs) ∧ kvs.length < sizeLine ∧ Nx (upd H5 D (.dK (putK kvs k z))) else Nx H3)) : tDc wi g tt tk tv vs σ H Q := q
theorem g_din {ty td : TE} (q : ty σ H fun y H1 => td σ H1 fun x H2 => ∃ a o, x = .ref a ∧ DGet H2 a y o ∧ Q (.bl o.isSome) H2) : tDIn ty td σ H Q := q
theorem g_dinS {p : Addr} {kvs : List (Key × V)} {z : Str} {A : Bool → Prop} (h : H p = some (.dK kvs)) (q : A (valV kvs (Sum.inr z)).isSome) : ∃ a o, V.ref p = .ref a ∧ DGet H a (.str z) o ∧ A o.isSome := ⟨p, _, rfl, DGet.k (k := (Sum.inr z : Key)) h, q⟩
end
/-! ### sets of texts as dicts of True -/
def kvT (ws : List Str) : List (Key × V) := ws.map fun x => ((Sum.inr x : Key), V.bl true)
def addL (ws : List Str) (x : Str) : List Str := if x ∈ ws then ws else ws ++ [x]
def onceA (acc ws : List Str) : List Str := ws.foldl addL acc
theorem kvT_any (ws : List Str) (x : Str) : ((kvT ws).any fun kv => decide (kv.1 = (Sum.inr x : Key))) = decide (x ∈ ws) := by
  induction ws with
  | nil => rfl
  | cons y r ih =>
    show (decide ((Sum.inr y : Key) = Sum.inr x) || (kvT r).any _) = _
    rw [ih]
    by_cases h : y = x
    · subst h; simp
    · have h1 : decide ((Sum.inr y : Key) = Sum.inr x) = false := decide_eq_false fun e => h (Sum.inr.inj e)
      rw [h1]
      simp [Ne.symm h]
theorem putK_T (ws : List Str) (x : Str) : putK (kvT ws) (Sum.inr x) (.bl true) = kvT (addL ws x) := by
  unfold putK addL
  rw [kvT_any]
  by_cases h : x ∈ ws
  · rw [if_pos (decide_eq_true h), if_pos h]
    unfold kvT
    rw [List.map_map]
    refine List.map_congr_left fun y _ => ?_
    show (if (Sum.inr y : Key) = Sum.inr x then _ else _) = _
    split <;> rfl
  · rw [if_neg (by rw [decide_eq_false h]; exact Bool.false_ne_true), if_neg h]
    unfold kvT
    rw [List.map_append]
    rfl
theorem kvT_val (ws : List Str) (x : Str) : (valV (kvT ws) (Sum.inr x)).isSome = decide (x ∈ ws) := by
  induction ws with
  | nil => rfl
  | cons y r ih =>
    by_cases h : y = x
    · subst h
      rw [show valV (kvT (y :: r)) (Sum.inr y) = some (V.bl true) from valV_pos rfl]
      simp
    · rw [show valV (kvT (y :: r)) (Sum.inr x) = valV (kvT r) (Sum.inr x) from valV_neg fun e => h (Sum.inr.inj e), ih]
      simp [Ne.symm h]
theorem addL_len (ws : List Str) (x : Str) : (addL ws x).length ≤ ws.length + 1 := by
  unfold addL
  split
  · omega
  · rw [List.length_append]; exact Nat.le_refl _
theorem addL_mem {ws : List Str} {x y : Str} : y ∈ addL ws x ↔ y ∈ ws ∨ y = x := by
  unfold addL
  split
  · exact ⟨.inl, fun h => h.elim id fun e => e ▸ by assumption⟩
  · simp
end SL

set_option Elab.async false
set_option linter.all false
set_option maxRecDepth 100000
set_option maxHeartbeats 2000000
/-! # SL9: own exception classes: made, their fields, isinstance, calls of a class's __init__ by the class's name -/
namespace SL
open PySem PySem.Spec PyProof.Rows L2
/-! ### what a class says -/
/-- an own exception class over ValueError, some steps below it -/
structure EcC (K : PySem.W.Frag) (C : Addr) : Prop where
  oe : OexC K C
  xf : XfC K C
  xc : ExcC K C
def oexB (K : PySem.W.Frag) (C : Addr) : Bool := match K.lookup C with
  | some ⟨.type "type", _, .cls cd, sl⟩ => (match cd.mro, sl.toList with
    | .ref C' :: bm, [_, _, _, _, some (.builtin n), _] => decide (C' = C) && (decide (n = "ValueError.__new__") && (!cd.hasDel && (cd.hasDict && PySem.HandSPX.refsVE bm)))
    | _, _ => false)
  | _ => false
def ecB (K : PySem.W.Frag) (C : Addr) : Bool := oexB K C && (decide (PySem.W.findIn K (.ref C) "__setattr__" = some (some (.builtin "object.__setattr__"))) && (decide (PySem.W.subIn K (.ref C) (.type "BaseException") = some true) &&
  (decide (PySem.W.typeIn K (.ref C) = some (.type "type")) && (PySem.W.keepIn K (.ref C) && (decide (PySem.W.findIn K (.ref C) "__getattribute__" = some (some (.builtin "BaseException.__getattribute__"))) &&
  (decide (PySem.W.findIn K (.ref C) "__getattr__" = some none) && (PySem.W.hasDictIn K C && (decide (PySem.W.findIn K (.ref C) "__class__" = some (some (.builtin "object.__class__"))) &&
  (decide (PySem.W.specialIn K (.builtin "object.__class__") "__get__" = some (some (.builtin "getset_descriptor.__get__"))) && (decide (PySem.W.takesIn K (.builtin "object.__class__") = some true) && decide (PySem.W.mroIn K C (.type "object") = some true)))))))))))
theorem oexB_ok {K : PySem.W.Frag} {C : Addr} (h : oexB K C = true) : ∃ nm q N bs bm sn sub ab col dd k0 k1 k2 k3 k5, K.lookup C = some (excClassObj nm q C N bs bm true sn sub ab col dd k0 k1 k2 k3 k5 "ValueError.__new__") ∧ PySem.HandSPX.refsVE bm = true := by
  unfold oexB at h
  split at h
  · rename_i dd cd sl ho
    split at h
    · rename_i C' bm k0 k1 k2 k3 n k5 hm hs
      simp only [Bool.and_eq_true, decide_eq_true_eq, Bool.not_eq_true'] at h
      obtain ⟨rfl, rfl, hdel, hd, hr⟩ := h
      obtain ⟨nm, bs, mro, ns, qn, hdt, sn, sub, ab, col, del⟩ := cd
      dsimp only at hm hdel hd
      subst hm hdel hd
      have hsl : sl = #[k0, k1, k2, k3, some (.builtin "ValueError.__new__"), k5] := by
        obtain ⟨l⟩ := sl
        simp only at hs
        rw [hs]
      subst hsl
      exact ⟨nm, qn, ns, bs, bm, sn, sub, ab, col, dd, k0, k1, k2, k3, k5, ho, hr⟩
    · cases h
  · cases h
theorem ecB_ok {K : PySem.W.Frag} {C : Addr} (h : ecB K C = true) : EcC K C := by
  unfold ecB at h
  simp only [Bool.and_eq_true, decide_eq_true_eq] at h
  obtain ⟨h1, h2, h3, h4, h5, h6, h7, h8, h9, h10, h11, h12⟩ := h
  exact ⟨⟨oexB_ok h1, h2, h3, h4, h5⟩, ⟨h6, h7, h3, h8⟩, ⟨h6, h7, h3, h8, h9, h10, h11, h12⟩⟩
/-- the class object C's own or inherited __init__ is the def at fI; it may be asked for by C.__init__ -/
structure EcI (K : PySem.W.Frag) (C fI : Addr) : Prop where
  ini : PySem.W.findIn K (.ref C) "__init__" = some (some (.ref fI))
  ty : PySem.W.typeIn K (.ref fI) = some (.type "function")
  ga : PySem.W.specialIn K (.ref C) "__getattribute__" = some (some (.builtin "type.__getattribute__"))
  rd : PySem.W.readsIn K C (.type "type") = true
  fd : PySem.W.findCls K (.ref C) (.type "type") "__init__" = some (.val (.ref fI))
  kp : PySem.W.keepIn K (.ref fI) = true
def eciB (K : PySem.W.Frag) (C fI : Addr) : Bool := decide (PySem.W.findIn K (.ref C) "__init__" = some (some (.ref fI))) && (decide (PySem.W.typeIn K (.ref fI) = some (.type "function")) &&
  (decide (PySem.W.specialIn K (.ref C) "__getattribute__" = some (some (.builtin "type.__getattribute__"))) && (PySem.W.readsIn K C (.type "type") && ((match PySem.W.findCls K (.ref C) (.type "type") "__init__" with
    | some (.val (.ref f)) => decide (f = fI)
    | _ => false) && PySem.W.keepIn K (.ref fI)))))
theorem eciB_ok {K : PySem.W.Frag} {C fI : Addr} (h : eciB K C fI = true) : EcI K C fI := by
  unfold eciB at h
  simp only [Bool.and_eq_true, decide_eq_true_eq] at h
  obtain ⟨h1, h2, h3, h4, h5, h6⟩ := h
  refine ⟨h1, h2, h3, h4, ?_, h6⟩
  split at h5
  · rename_i f e
    rw [e, of_decide_eq_true h5]
  · cases h5
/-- a class of the module by its name, with the promise of its __init__ -/
structure ClG (P : Program) (w : World) (K : PySem.W.Frag) (mg : Str → Option Value) (base : Heap) (k : Nat) (x : Str) (C : Addr) (sp : Sp) : Prop where
  m : mg x = some (.ref C)
  ec : EcC K C
  ex : ∃ (fI : Addr) (fd : FuncData) (ps : List Str), FnG P w K mg base CX0 k fI fd ps sp ∧ EcI K C fI ∧ Binds K fd ps []
section
variable {X : Cx} {k j : Nat} {x : Str} {C : Addr} {sp : Sp} {p p1 p2 pos : Pos} {e : Expr} {es : List Expr} {t ta : TA}
/-- C.__init__(self, ..) -/
theorem pe_fini {pl : Sem Bool} (c : ClG X.prog X.w X.K X.mg X.base k x C sp) (hr : RoomG j X.A) (hg : Gl X x) (ha : PA X (e :: es) t) (hk : k ≤ j := by first | decide | omega)
    (hdb : (x == ("__debug__" : Str)) = false := by decide)
    (hc : eval (.Call (.Attribute (.Name x p1) "__init__" p2) (e :: es) [] pos) X.env = (do
      let ov ← eval (.Name x p1) X.env
      standAt p2.atName
      let (f, first) ← holding [ov] (getMethod ov "__init__" pl)
      callWith pos f first (backTo pos (starEach (e :: es) X.env)) (backToKw pos (keywordEach [] X.env))) := by rfl)
    (hst : starEach (e :: es) X.env = (false, eval e X.env) :: starEach es X.env := by rfl) (hnp : (backTo pos (starEach es X.env)).any (·.1) = false := by rfl) :
    PE X (.Call (.Attribute (.Name x p1) "__init__" p2) (e :: es) [] pos) (tCall sp [] E0 t) := by
  obtain ⟨fI, fd, ps, F, ci, b⟩ := c.ex
  refine ⟨fun pins s σ H Q I h => ?_⟩
  refine PySem.W.methodCall_KW (ld_glob I hg c.m ?_ hdb) hc
  refine PySem.W.method_cls I.kIn ci.ga (PySem.W.cls_value I.kIn ci.rd ci.fd rfl ?_)
  have I2 := I.tok (s.toks + 1)
  refine PySem.W.callWith_K (h₀ := X.base) I2.ok.mod.kin ci.kp (thn (ha.run pos pins _ σ H _ I2 h) fun us s1 z => ?_) hst hnp
  obtain ⟨vs, H1, I1, r, q⟩ := z
  exact ⟨I1.kIn, run_fng F (hr.mono hk) b .nil pass0 I1 r q⟩
theorem RoomG.make {k : Nat} {A : Around} (hr : RoomG (k + 1) A) (C : Addr) (us : List Value) (kw : List (Str × Value)) : RoomG k (A.under (.builtin "type.__call__" ⟨.ref C :: us, kw⟩)) := ⟨hr.rm.make C us kw, hr.gd⟩
/-! ### making one -/
def spMk (C : Addr) (sp : Sp) (vs : List V) (H1 : Hp) (Q : VK) : Prop := vs.length ≤ 1000 ∧ ∀ a, H1 a = none → sp (.ref a :: vs) (upd H1 a (exo a C none)) (fun v H2 => v = .non ∧ Q (.ref a) H2) E0
theorem mkE_ok (c : ClG X.prog X.w X.K X.mg X.base k x C sp) (hr : RoomG j X.A) (hk : k + 1 ≤ j) {pins : List (Addr × Obj)} {σ : L2.St} {H1 : Hp} {s1 : Shared} {Q : VK} {vs : List V} {us : List Value} (I1 : Inv X pins σ H1 s1) (r1 : Vals vs us) (q : spMk C sp vs H1 Q) :
    wpAny (model X.prog X.w) X.A (call (.ref C) us) (EP X pins σ Q) X.xe s1 := by
  obtain ⟨fI, fd, ps, F1, ci, hb⟩ := c.ex
  have T := c.ec.oe
  have hr := hr.mono hk
  obtain ⟨nm, q', N, bs, bm, sn, sub, ab, col, dd, k0, k1, k2, k3, k5, hC, hbm⟩ := T.cls
  obtain ⟨hz, q1⟩ := q
  obtain ⟨hp, g, dr, tk, os⟩ := s1
  have hsz : hp.objs.size ≤ hp.objs.size + 1 := Nat.le_succ _
  have hn : H1 (hp.objs.size + 1) = none := I1.hok.fresh hsz
  have hq := q1 (hp.objs.size + 1) hn
  have kk : ∀ b o, hp.get? b = some o → ((hp.push (PySem.W.kdv_tup us)).push (PySem.HandSPX.excO C hp.objs.size)).get? b = some o := fun b o e => Heap.get?_push_of_some _ (Heap.get?_push_of_some _ e)
  have hget : ((hp.push (PySem.W.kdv_tup us)).push (PySem.HandSPX.excO C hp.objs.size)).get? (hp.objs.size + 1) = some (PySem.HandSPX.excO C hp.objs.size) := by heap_get
  have I2 : Inv X pins σ (upd H1 (hp.objs.size + 1) (exo (hp.objs.size + 1) C none)) ⟨(hp.push (PySem.W.kdv_tup us)).push (PySem.HandSPX.excO C hp.objs.size), g, dr, tk, os⟩ :=
    I1.laid (t' := tk) (a := hp.objs.size + 1) (o := exo (hp.objs.size + 1) C none) (h' := (hp.push (PySem.W.kdv_tup us)).push (PySem.HandSPX.excO C hp.objs.size)) kk hsz (exo_ok hget)
  have r2 : Vals (V.ref (hp.objs.size + 1) :: vs) (Value.ref (hp.objs.size + 1) :: us) := .cons rfl r1
  have hl : (Value.ref (hp.objs.size + 1) :: us ++ []).length = ps.length := by
    have e := r2.length
    rw [F1.len _ _ _ _ hq] at e
    rw [List.append_nil]
    exact e.symm
  have hus : us.length ≤ sizeLine := by
    rw [← Paired.length r1, sizeLine_eq]
    omega
  have b2 := hb ⟨(hp.push (PySem.W.kdv_tup us)).push (PySem.HandSPX.excO C hp.objs.size), g, dr, tk, os⟩ (Value.ref (hp.objs.size + 1) :: us) I2.kIn hl
  rw [List.append_nil] at b2
  refine wpAny_call (PySem.HandSPX.call_own F.excBase_ValueError (fun Y => PySem.HandSPX.refsVE_contains Y bm hbm) (I1.kIn _ _ hC) (PySem.W.looks_findIn I1.kIn ci.ini) (fun self => PySem.W.bind_fn I1.kIn self ci.ty) hus
    (codeAny_mono (F1.go _ X.stack _ _ ⟨Value.ref (hp.objs.size + 1) :: us, []⟩ (Value.ref (hp.objs.size + 1) :: us) _ _ E0 (hr.make C us []) (I2.env0.make C us []) b2 r2 hq) fun r s' hq' => ?_))
  cases r with
  | error er => exact hq'.elim
  | ok fl =>
    cases fl with
    | ret u =>
      obtain ⟨v, H2, J, rv, ev, q2⟩ := I2.after hq'
      subst ev
      exact ⟨rv, V.ref (hp.objs.size + 1), H2, J, (show L2.RelV (V.ref (hp.objs.size + 1)) (Value.ref (hp.objs.size + 1)) from rfl), q2⟩
    | next => exact False.elim hq'
    | brk => exact False.elim hq'
    | cont => exact False.elim hq'
/-- C(e, ..), as a value -/
def tMkE (C : Addr) (sp : Sp) (ta : TA) : TE := fun σ H Q => ta σ H fun vs H1 => spMk C sp vs H1 Q
theorem pe_mkE (c : ClG X.prog X.w X.K X.mg X.base k x C sp) (hr : RoomG j X.A) (hg : Gl X x) (ha : PA X (e :: es) ta) (hk : k + 1 ≤ j := by first | decide | omega)
    (hdb : (x == ("__debug__" : Str)) = false := by decide) (hst : starEach (e :: es) X.env = (false, eval e X.env) :: starEach es X.env := by rfl) (hnp : (backTo pos (starEach es X.env)).any (·.1) = false := by rfl) :
    PE X (.Call (.Name x p) (e :: es) [] pos) (tMkE C sp ta) := by
  refine ⟨fun pins s σ H Q I h => ?_⟩
  refine wpAny_Call_Name_kw (ld_glob I hg c.m ?_ hdb)
  refine PySem.W.callWith_K (h₀ := X.base) I.ok.mod.kin c.ec.oe.kC (thn (ha.run pos pins s σ H _ I h) fun us s1 ⟨vs, H1, I1, r1, q1⟩ => ⟨I1.kIn, ?_⟩) hst hnp
  exact mkE_ok c hr hk I1 r1 q1
theorem pe_mkE0 (c : ClG X.prog X.w X.K X.mg X.base k x C sp) (hr : RoomG j X.A) (hg : Gl X x) (hk : k + 1 ≤ j := by first | decide | omega) (hdb : (x == ("__debug__" : Str)) = false := by decide) :
    PE X (.Call (.Name x p) [] [] pos) (tMkE C sp tNil) := by
  refine ⟨fun pins s σ H Q I h => ?_⟩
  refine wpAny_Call_Name_kw (ld_glob I hg c.m ?_ hdb)
  refine PySem.W.callWith_K0 I.kIn c.ec.oe.kC ?_
  exact mkE_ok c hr hk I .nil h
/-! ### fields, isinstance -/
/-- e.n of an exception at hand -/
def tXat (K : PySem.W.Frag) (n : Str) (te : TE) : TE := fun σ H Q => te σ H fun x H1 => ∃ (a C d : Addr) (fs : List (Str × V)) (v : V), x = .ref a ∧ EcC K C ∧ PySem.W.findIn K (.ref C) n = some none ∧ H1 a = some (exo a C (some d)) ∧ H1 d = some (exd d fs) ∧ fs.lookup n = some v ∧ Q v H1
theorem exo_inst {P : Program} {w : World} {H : Hp} {h : Heap} {a C d : Addr} {fs : List (Str × V)} (hok : HOk P w H h) (ha : H a = some (exo a C (some d))) (hd : H d = some (exd d fs)) :
    ∃ (ox od : Obj) (mA : Str → Option Value), PySem.W.InstAt h a ox C (some od) ∧ (∀ n, PySem.W.lookIn n od = some (mA n)) ∧ ∀ n, RelO (fs.lookup n) (mA n) := by
  obtain ⟨t1, ho⟩ := exo_at hok ha
  obtain ⟨mA, hns, rel⟩ := exd_at hok hd
  obtain ⟨od, hod, hl⟩ := lookIn_ns hns
  exact ⟨_, od, mA, ⟨ho, rfl, rfl, hod⟩, hl, rel⟩
theorem pe_xat {X : Cx} {e : Expr} {te : TE} {pos : Pos} {n : Str} (he : PE X e te) (hb : attributeBase e n X.env (eval e X.env) = eval e X.env := by rfl) : PE X (.Attribute e n pos) (tXat X.K n te) := by
  refine ⟨fun pins s σ H Q I h => ?_⟩
  refine attr_of hb (thn (he.run pins s σ H _ I h) fun u s1 hh => ?_)
  obtain ⟨x, H1, I1, rx, a, C, d, fs, v, ex, T, hno, ea, ed, l, q⟩ := hh
  subst ex
  obtain rfl : u = Value.ref a := rx
  obtain ⟨ox, od, mA, J, hl, rel⟩ := exo_inst I1.hok ea ed
  obtain ⟨u, hu, ru⟩ := RelO.some_of (v := v) (o := mA n) (by rw [← l]; exact rel n)
  exact HandSPX.exc_get I1.kIn J T.xf.ga T.xf.gg T.xf.exC (PySem.W.findObj_own T.xf.hdC hno rfl (by rw [hl, hu])) (handed_of ru) ⟨v, H1, I1.tok _, ru, q⟩
end
end SL
namespace PySem.W
open PySem PySem.Spec PySem.Calls PyProof.Rows
section
variable {prog : Program} {w : World} {A : Around} {E : Value → Shared → Prop} {s : Shared} {K : Frag} {x D : Addr} {ox : Obj} {od : Option Obj}
theorem sl_dataN {C : Addr} {name : Str} {a g : Value} (hc : (clsIn K C).isSome = true) (ha : findIn K (.ref C) name = some (some a)) (hg : specialIn K a "__get__" = some (some g)) (ht : takesIn K a = some true) : findObj K C od name = some (.bind g a) := by
  obtain ⟨cd, hc⟩ := Option.isSome_iff_exists.mp hc
  unfold findObj
  rw [hc, Option.bind_some, ha, Option.bind_some]
  simp [hg, ht]
theorem sl_classE {Q : Option Value → Shared → Prop} (C : L2.ExcC K D) (X : K.In s.heap) (I : InstAt s.heap x ox D od) (h : Q (some (.ref D)) { s with toks := s.toks + 1 }) : wpAny (model prog w) A (getAttr? (.ref x) "__class__") Q E s := by
  have hf : findObj K D od "__class__" = some (.bind (.builtin "getset_descriptor.__get__") (.builtin "object.__class__")) := sl_dataN (by obtain ⟨cd, hc, _⟩ := any_some C.hd; rw [hc]; rfl) C.ha C.hn C.ht
  obtain ⟨hp, g, d, t, os⟩ := s
  have L0 := I.type (M := model prog w)
  have L1 := looks_findIn (M := model prog w) X C.hg
  have L2 := looks_findIn (M := model prog w) X C.hk
  have L3 := looks_find (M := model prog w) X I hf
  have sub : Looks (model prog w) hp (isInstance (.ref x) (.type "BaseException")) true := L0.andThen (looks_subIn X C.hs)
  have hx0 : (false && onTheHeap (Value.builtin "BaseException.__getattribute__")) = false := rfl
  have hx2 : (Value.builtin "BaseException.__getattribute__" == Value.builtin "object.__getattribute__") = false := by decide +kernel
  have hx1 : (onTheHeap (Value.ref D) && Value.builtin "BaseException.__getattribute__" == Value.builtin "object.__getattribute__") = false := by rw [hx2]; rfl
  unfold getAttr? getAttrBy? getAttrBy
  refine wpAny_bind (wpAny_mkText (wpAny_bind (wpAny_attempt (wpAny_holding (wpAny_bind (L0.at (wpAny_bind (L1.at ?_))))))))
  show wpAny _ _ (if (onTheHeap (Value.ref D) && Value.builtin "BaseException.__getattribute__" == Value.builtin "object.__getattribute__") = true then _ else _) _ _ _
  rw [hx1, if_neg Bool.false_ne_true]
  unfold getAttrByItsOwn hookBefore
  refine wpAny_bind ?_
  rw [if_pos (show onTheHeap (Value.ref D) = true from rfl)]
  refine L2.at ?_
  refine wpAny_bind (wpAny_attempt (wpAny_holding ?_))
  unfold callGetattribute
  rw [hx0, if_neg Bool.false_ne_true]
  unfold boundAndCalled
  rw [PySem.F.excAttr_ValueError.ga.bind (.ref x)]
  refine wpAny_bind (wpAny_pure ?_)
  show wpAny _ _ (call (.builtin "BaseException.__getattribute__") [.ref x, .str "__class__" t]) _ _ _
  refine wpAny_call (codeAny_call_builtin PySem.F.excAttr_ValueError.ga.plain PySem.F.entry_bexc_ga ?_)
  refine @check_slot (model prog w) _ _ ⟨hp, g, d, t + 1, os⟩ "BaseException.__getattribute__" "BaseException" "__getattribute__" (.ref x) [.str "__class__" t] [] _ (by decide +kernel) (by decide +kernel) sub (PySem.F.args_bexc_ga (.ref x) (.str "__class__" t)) ?_
  unfold Builtin.«object.__getattribute__»
  refine wpAny_bind (wpAny_of_eq (a := ((Value.ref x : Value), [Value.str "__class__" t])) (by first | rfl | (simp only [slotArgs]; rfl)) ?_)
  refine wpAny_bind (wpAny_pure (wpAny_bind (L0.at (wpAny_bind (L3.at ?_)))))
  show wpAny _ _ (holding [Value.builtin "object.__class__"] (call (.builtin "getset_descriptor.__get__") [.builtin "object.__class__", .ref x, .ref D]) >>= ret) _ _ _
  refine wpAny_bind (wpAny_holding (wpAny_call (class_get (s := ⟨hp, g, d, t + 1, os⟩) (ox := ox) (od := od) X I C.hm ?_)))
  refine wpAny_pure ?_
  show wpAny _ _ (handedOut (.ref D)) _ _ _
  rw [handedOut_of (v := .ref D) rfl]
  first
    | exact wpAny_pure (wpAny_pure h)
    | exact wpAny_pure h
    | exact wpAny_pure (wpAny_bind (wpAny_pure (wpAny_pure h)))
theorem sl_kitx (C : L2.ExcC K D) : KitX K (.ref x) (.ref D) (fun h => InstAt h x ox D od) where
  ty := fun _ _ _ I => I.type
  it := fun _ _ X _ => by
    obtain ⟨cdD, hcD, _⟩ := any_some C.hd
    unfold clsIn at hcD
    split at hcD
    · rename_i c' d' cd' sl' ho
      intro A' Q' E' s' k q
      unfold isType loadHead
      exact wpAny_bind (wpAny_loadPart (k _ _ (X _ _ ho)) (wpAny_pure q))
    · cases hcD
  ne := fun h tp dd its n sl X htp => by
    obtain ⟨cdD, hcD, _⟩ := any_some C.hd
    refine Bool.eq_false_iff.mpr fun q => ?_
    have e : D = tp := Value.ref.inj (beq_iff_eq.mp q)
    subst e
    unfold clsIn at hcD
    split at hcD
    · rename_i c' d' cd' sl' ho
      have z := (X _ _ ho).symm.trans htp
      cases z
    · cases hcD
  ca := fun X I k => sl_classE C X I k
end
end PySem.W
namespace SL
open PySem PySem.Spec PyProof.Rows L2
/-- isinstance(e, c), e an exception at hand -/
def rIsX (K : PySem.W.Frag) : List V → Hp → VK → Prop := fun xs H Q => ∃ (a C d : Addr) (fs : List (Str × V)) (c : V) (cv : Value) (b : Bool), xs = [.ref a, c] ∧ EcC K C ∧ H a = some (exo a C (some d)) ∧ H d = some (exd d fs) ∧ (∀ u, RelV c u → u = cv) ∧ PySem.W.kitOne K (.ref C) cv = some b ∧ Q (.bl b) H
theorem call_isX {X : Cx} : CallR X (.builtin "isinstance") (rIsX X.K) := by
  intro pins s σ H xs us Q I r h
  obtain ⟨a, C, d, fs, c, cv, b, rfl, T, ea, ed, hcv, e, q⟩ := h
  cases r with
  | cons rx rr =>
    cases rr with
    | cons rt rr =>
      cases rr
      cases rx
      have ec := hcv _ rt
      subst ec
      obtain ⟨ox, od, mA, J, _, _⟩ := exo_inst I.hok ea ed
      exact PySem.W.kia_one (PySem.W.sl_kitx T.xc) I.kIn J e (fun z => nomatch z) fun tk => ⟨.bl b, H, I.kept (t' := tk) fun _ _ z => z, rfl, q⟩
/-- .. e the exception that the suite holds -/
def rIsS (K : PySem.W.Frag) (a : Addr) (cls : Value) (d : Option Addr) : List V → Hp → VK → Prop := fun xs H Q => ∃ (C dd : Addr) (fs : List (Str × V)) (c : V) (cv : Value) (b : Bool), xs = [.ref a, c] ∧ cls = .ref C ∧ d = some dd ∧ H dd = some (.xd fs) ∧ EcC K C ∧ (∀ u, RelV c u → u = cv) ∧ PySem.W.kitOne K (.ref C) cv = some b ∧ Q (.bl b) H
theorem call_isS {X : Cx} {a : Addr} {oe : Obj} {cls : Value} {d : Option Addr} {pn : List (Addr × Obj)} (hz : Zc cls d oe) (hf : ∃ vs, oe.data = .fields vs) : CallR (X.suite a ((a, oe) :: pn)) (.builtin "isinstance") (rIsS X.K a cls d) := by
  intro pins s σ H xs us Q I r h
  obtain ⟨C, dd, fs, c, cv, b, rfl, rfl, rfl, hd, T, hcv, e, q⟩ := h
  cases r with
  | cons rx rr =>
    cases rr with
    | cons rt rr =>
      cases rr
      cases rx
      have ec := hcv _ rt
      subst ec
      obtain ⟨hget, _⟩ := I.pin (a, oe) (List.mem_append.mpr (.inl List.mem_cons_self))
      obtain ⟨vs, hv⟩ := hf
      have hx : ObjOk X.prog X.w H s.heap dd (.xd fs) := I.hok dd _ hd
      obtain ⟨mA, hns, hr⟩ := hx
      obtain ⟨od, ho, hl⟩ := lookIn_ns hns
      have J : PySem.W.InstAt s.heap a oe C (some od) := ⟨hget, hz.1, by unfold PySem.W.notCls; rw [hv] <;> rfl, by rw [hz.2]; exact ho⟩
      exact PySem.W.kia_one (PySem.W.sl_kitx T.xc) I.kIn J e (fun z => nomatch z) fun tk => ⟨.bl b, H, I.kept (t' := tk) fun _ _ z => z, rfl, q⟩
section
variable {X : Cx} {k j : Nat} {x : Str} {C : Addr} {sp : Sp} {p p1 p2 pos : Pos} {e : Expr} {es : List Expr} {t ta : TA}
/-! ### raise C(e, ..) -/
def tMkX (C : Addr) (sp : Sp) (ta : TA) : L2.St → Hp → XK → Prop := fun σ H Q => ta σ H fun vs H1 => vs.length ≤ 1000 ∧ ∀ a, H1 a = none → sp (.ref a :: vs) (upd H1 a (exo a C none))
  (fun v H2 => v = .non ∧ ∃ (d : Addr) (fs : List (Str × V)), H2 a = some (exo a C (some d)) ∧ H2 d = some (exd d fs) ∧ H1 d = none ∧ Q (.ref C) (some d) (upd (del H2 a) d (.xd fs))) E0
theorem mkX_ok (c : ClG X.prog X.w X.K X.mg X.base k x C sp) (hr : RoomG j X.A) (hk : k + 1 ≤ j) {pins : List (Addr × Obj)} {σ : L2.St} {H1 : Hp} {s1 : Shared} {Q : XK} {vs : List V} {us : List Value} (I1 : Inv X pins σ H1 s1) (r1 : Vals vs us)
    (q : vs.length ≤ 1000 ∧ ∀ a, H1 a = none → sp (.ref a :: vs) (upd H1 a (exo a C none)) (fun v H2 => v = .non ∧ ∃ (d : Addr) (fs : List (Str × V)), H2 a = some (exo a C (some d)) ∧ H2 d = some (exd d fs) ∧ H1 d = none ∧ Q (.ref C) (some d) (upd (del H2 a) d (.xd fs))) E0) :
    wpAny (model X.prog X.w) X.A (call (.ref C) us) (MkP X pins σ Q) X.xe s1 := by
  obtain ⟨fI, fd, ps, F1, ci, hb⟩ := c.ex
  have T := c.ec.oe
  have hr := hr.mono hk
  obtain ⟨nm, q', N, bs, bm, sn, sub, ab, col, dd, k0, k1, k2, k3, k5, hC, hbm⟩ := T.cls
  obtain ⟨hz, q1⟩ := q
  obtain ⟨hp, g, dr, tk, os⟩ := s1
  have hsz : hp.objs.size ≤ hp.objs.size + 1 := Nat.le_succ _
  have hn : H1 (hp.objs.size + 1) = none := I1.hok.fresh hsz
  have hq := q1 (hp.objs.size + 1) hn
  have kk : ∀ b o, hp.get? b = some o → ((hp.push (PySem.W.kdv_tup us)).push (PySem.HandSPX.excO C hp.objs.size)).get? b = some o := fun b o e => Heap.get?_push_of_some _ (Heap.get?_push_of_some _ e)
  have hget : ((hp.push (PySem.W.kdv_tup us)).push (PySem.HandSPX.excO C hp.objs.size)).get? (hp.objs.size + 1) = some (PySem.HandSPX.excO C hp.objs.size) := by heap_get
  have I2 : Inv X pins σ (upd H1 (hp.objs.size + 1) (exo (hp.objs.size + 1) C none)) ⟨(hp.push (PySem.W.kdv_tup us)).push (PySem.HandSPX.excO C hp.objs.size), g, dr, tk, os⟩ :=
    I1.laid (t' := tk) (a := hp.objs.size + 1) (o := exo (hp.objs.size + 1) C none) (h' := (hp.push (PySem.W.kdv_tup us)).push (PySem.HandSPX.excO C hp.objs.size)) kk hsz (exo_ok hget)
  have r2 : Vals (V.ref (hp.objs.size + 1) :: vs) (Value.ref (hp.objs.size + 1) :: us) := .cons rfl r1
  have hl : (Value.ref (hp.objs.size + 1) :: us ++ []).length = ps.length := by
    have e := r2.length
    rw [F1.len _ _ _ _ hq] at e
    rw [List.append_nil]
    exact e.symm
  have hus : us.length ≤ sizeLine := by
    rw [← Paired.length r1, sizeLine_eq]
    omega
  have b2 := hb ⟨(hp.push (PySem.W.kdv_tup us)).push (PySem.HandSPX.excO C hp.objs.size), g, dr, tk, os⟩ (Value.ref (hp.objs.size + 1) :: us) I2.kIn hl
  rw [List.append_nil] at b2
  refine wpAny_call (PySem.HandSPX.call_own F.excBase_ValueError (fun Y => PySem.HandSPX.refsVE_contains Y bm hbm) (I1.kIn _ _ hC) (PySem.W.looks_findIn I1.kIn ci.ini) (fun self => PySem.W.bind_fn I1.kIn self ci.ty) hus
    (codeAny_mono (F1.go _ X.stack _ _ ⟨Value.ref (hp.objs.size + 1) :: us, []⟩ (Value.ref (hp.objs.size + 1) :: us) _ _ E0 (hr.make C us []) (I2.env0.make C us []) b2 r2 hq) fun r s' hq' => ?_))
  cases r with
  | error er => exact hq'.elim
  | ok fl =>
    cases fl with
    | ret u =>
      obtain ⟨v, H2, os2, bare2, un2, hok2, rv, ev, d, fs, ea, ed, hd1, q2⟩ := hq'
      subst ev
      obtain ⟨h2, g2, d2, t2, os'⟩ := s'
      exact ⟨rv, mk_end (raises_own T.exC T.tyC) I1 hsz kk un2 hok2 os2 bare2 ea ed hd1 q2⟩
    | next => exact False.elim hq'
    | brk => exact False.elim hq'
    | cont => exact False.elim hq'
theorem pmk_mkX (c : ClG X.prog X.w X.K X.mg X.base k x C sp) (hr : RoomG j X.A) (hg : Gl X x) (ha : PA X (e :: es) ta) (hk : k + 1 ≤ j := by first | decide | omega)
    (hdb : (x == ("__debug__" : Str)) = false := by decide) (hst : starEach (e :: es) X.env = (false, eval e X.env) :: starEach es X.env := by rfl) (hnp : (backTo pos (starEach es X.env)).any (·.1) = false := by rfl) :
    PMk X (.Call (.Name x p) (e :: es) [] pos) (tMkX C sp ta) := by
  intro pins s σ H Q I h
  refine wpAny_Call_Name_kw (ld_glob I hg c.m ?_ hdb)
  refine PySem.W.callWith_K (h₀ := X.base) I.ok.mod.kin c.ec.oe.kC (thn (ha.run pos pins s σ H _ I h) fun us s1 ⟨vs, H1, I1, r1, q1⟩ => ⟨I1.kIn, ?_⟩) hst hnp
  exact mkX_ok c hr hk I1 r1 q1
end
/-! ### defs that let exceptions out -/
structure CalX (P : Program) (w : World) (K : PySem.W.Frag) (mg : Str → Option Value) (base : Heap) (k : Nat) (x : Str) (sp : Sp) : Prop where
  ex : ∃ (f : Addr) (fd : FuncData) (ps : List Str), FnG P w K mg base (L2.CX P w) k f fd ps sp ∧ mg x = some (.ref f) ∧ PySem.W.keepIn K (.ref f) = true ∧ Binds K fd ps []
theorem calX_of {P : Program} {w : World} {K : PySem.W.Frag} {mg : Str → Option Value} {base : Heap} {k : Nat} {x : Str} {sp : Sp} {f : Addr} {fd : FuncData} {ps : List Str} (F : FnG P w K mg base (L2.CX P w) k f fd ps sp) (m : mg x = some (.ref f)) (kp : PySem.W.keepIn K (.ref f) = true) (b : Binds K fd ps []) : CalX P w K mg base k x sp := ⟨f, fd, ps, F, m, kp, b⟩
section
variable {X : Cx} {k j : Nat} {x : Str} {sp : Sp} {p pos : Pos} {e : Expr} {es : List Expr} {t : TA} {W : WX}
theorem pe_calX (c : CalX X.prog X.w X.K X.mg X.base k x sp) (tk : Takes X W) (hr : RoomG j X.A) (hg : Gl X x) (ha : PA X (e :: es) t) (hk : k ≤ j := by first | decide | omega)
    (hdb : (x == ("__debug__" : Str)) = false := by decide) (hst : starEach (e :: es) X.env = (false, eval e X.env) :: starEach es X.env := by rfl) (hnp : (backTo pos (starEach es X.env)).any (·.1) = false := by rfl) :
    PE X (.Call (.Name x p) (e :: es) [] pos) (tCallS sp (WE W) t) := by
  obtain ⟨f, fd, ps, F, hm, kp, b⟩ := c.ex
  constructor
  intro pins s σ H Q I h
  refine wpAny_Call_Name_kw (ld_glob I hg hm (PySem.W.callWith_K (h₀ := X.base) I.ok.mod.kin kp (thn (ha.run pos pins s σ H _ I h) fun us s1 z => ?_) hst hnp) hdb)
  obtain ⟨vs, H1, I1, r, q⟩ := z
  refine ⟨I1.kIn, ?_⟩
  have ln : us.length = ps.length := r.length.symm.trans (F.len _ _ _ _ q)
  have b2 := b s1 us I1.kIn (by rw [List.append_nil]; exact ln)
  rw [List.append_nil] at b2
  refine wpAny_call (codeAny_mono (F.go X.A X.stack s1 H1 ⟨us, []⟩ us vs Q (WE W σ) (hr.mono hk) I1.env0 b2 r q) fun res s2 hq => ?_)
  cases res with
  | ok fl =>
    cases fl with
    | ret u => exact I1.after hq
    | _ => exact hq.elim
  | error z => exact passAt tk σ pins H1 s1 z s2 I1 hq
end
end SL
namespace SL
open PySem PySem.Spec PyProof.Rows L2
def tXs (K : PySem.W.Frag) (a : Addr) (cls : Value) (d : Option Addr) (n : Str) (te : TE) : TE := fun σ H Q => te σ H fun x H1 => x = .ref a ∧ ∃ (C dd : Addr) (fs : List (Str × V)) (v : V), cls = .ref C ∧ d = some dd ∧ EcC K C ∧ PySem.W.findIn K (.ref C) n = some none ∧ H1 dd = some (.xd fs) ∧ fs.lookup n = some v ∧ Q v H1
theorem pe_xs {X : Cx} {a : Addr} {oe : Obj} {cls : Value} {d : Option Addr} {pn : List (Addr × Obj)} {e : Expr} {te : TE} {pos : Pos} (n : Str)
    (hz : Zc cls d oe) (hf : ∃ vs, oe.data = .fields vs) (he : PE (X.suite a ((a, oe) :: pn)) e te) (hb : attributeBase e n X.env (eval e X.env) = eval e X.env := by rfl) :
    PE (X.suite a ((a, oe) :: pn)) (.Attribute e n pos) (tXs X.K a cls d n te) := by
  refine ⟨fun pins s σ H Q I h => ?_⟩
  refine attr_of hb (thn (he.run pins s σ H _ I h) fun u s1 hh => ?_)
  obtain ⟨x, H1, I1, rx, ex, C, dd, fs, v, ec, ed, T, hno, ea, l, q⟩ := hh
  subst ex
  obtain rfl : u = Value.ref a := rx
  subst ec
  subst ed
  obtain ⟨ha, _⟩ := I1.pin (a, oe) (List.mem_append_left _ List.mem_cons_self)
  obtain ⟨vs, hd⟩ := hf
  have hx : ObjOk X.prog X.w H1 s1.heap dd (.xd fs) := I1.hok dd _ ea
  obtain ⟨mA, hns, hr⟩ := hx
  obtain ⟨od, ho, hl⟩ := lookIn_ns hns
  obtain ⟨u, hu, ru⟩ := RelO.some_of (v := v) (o := mA n) (by rw [← l]; exact hr n)
  have J : PySem.W.InstAt s1.heap a oe C (some od) := ⟨ha, hz.1, by unfold PySem.W.notCls; rw [hd] <;> rfl, by rw [hz.2]; exact ho⟩
  exact HandSPX.exc_get I1.kIn J T.xf.ga T.xf.gg T.xf.exC (PySem.W.findObj_own T.xf.hdC hno rfl (by rw [hl, hu])) (handed_of ru) ⟨v, H1, I1.tok _, ru, q⟩
def tRs (t : L2.St → Hp → XK → Prop) (W : WX) : TS := fun _ σ H => t σ H fun cls d H' => W cls d σ H'
theorem ps_rs {X : Cx} {W : WX} {e : Expr} {t : L2.St → Hp → XK → Prop} {pos : Pos} (hc : X.calm = true) (tk : Takes X W) (he : PMk X e t) : PS X (.Raise (some e) none pos) (tRs t W) := ps_raise hc tk he
def tTry (K : PySem.W.Frag) (c : Value) (i : Nat) (tb : WX → TS) (ts : Addr → Value → Option Addr → TS) (Wout : WX) : TS := fun D σ H => tb (wAs K c i ts Wout D) D σ H
theorem ps_tryK {X : Cx} {K : PySem.W.Frag} {x n : Str} {c : Value} {i : Nat} {body suite : List Stmt} {b₀ : Stmt} {np pos pos' : Pos} {tb : WX → TS} {ts : Addr → Value → Option Addr → TS} {Wout : WX} (eK : X.K = K)
    (hs : X.stack = X.env :: X.outer) (hf : X.env.frame = some X.env.locals) (hN : X.N.Nodup) (hi : X.N[i]? = some n) (hln : X.env.kindOf n = some .local) (hc : Names X x c) (tk : Takes X Wout)
    (hb : ∀ (W : WX) (pn : List (Addr × Obj)) (xe : Value → Shared → Prop), Takes (X.tr pn xe) W → PassesOwn (model X.prog X.w) X.A X.env xe → PSs (X.tr pn xe) body (tb W))
    (hsu : ∀ (a : Addr) (oe : Obj) (cls : Value) (d : Option Addr) (pn : List (Addr × Obj)), Zc cls d oe → (∃ vs, oe.data = .fields vs) → PSs (X.suite a ((a, oe) :: pn)) (b₀ :: suite) (ts a cls d)) :
    PS X (.Try body [.ExceptHandler (some (.Name x np)) (some n) (b₀ :: suite) pos'] [] [] pos) (tTry K c i tb ts Wout) := by
  subst eK
  exact ps_try_as hs hf hN hi hln hc tk hb hsu
theorem find_VE (K : PySem.W.Frag) : PySem.W.findCls K (.type "ValueError") (.type "type") "__init__" = some (.val (.builtin "ValueError.__init__")) := by kernel_rfl
section
variable {X : Cx} {K : PySem.W.Frag} {e : Expr} {st : Stmt} {ta : TA} {te to : TE} {f : Str} {a : Addr} {cls : Value} {d : Option Addr} {σ : L2.St} {H : Hp} {Q : VK} {D : Ends}
theorem kVeI (q : X.K = K) (h : PE X e (tVeI X.K ta)) : PE X e (tVeI K ta) := q ▸ h
theorem kOst (q : X.K = K) (h : PS X st (tOst X.K f to te)) : PS X st (tOst K f to te) := q ▸ h
theorem kXat (q : X.K = K) (h : PE X e (tXat X.K f te)) : PE X e (tXat K f te) := q ▸ h
theorem kXs (q : X.K = K) (h : PE X e (tXs X.K a cls d f te)) : PE X e (tXs K a cls d f te) := q ▸ h
theorem g_vei (q : ta σ H fun vs H1 => ∃ (a C : Addr) (ws : List V), vs = .ref a :: ws ∧ ws.length ≤ 1000 ∧ OexC K C ∧ H1 a = some (exo a C none) ∧ Q .non H1) : tVeI K ta σ H Q := q
theorem g_ost (q : te σ H fun y H1 => to σ H1 fun x H2 => ∃ a C : Addr, x = .ref a ∧ OexC K C ∧ PySem.W.findIn K (.ref C) f = some none ∧
  ((H2 a = some (exo a C none) ∧ ∀ dx, H2 dx = none → dx ≠ a → D.nx σ (upd (upd H2 dx (exd dx [(f, y)])) a (exo a C (some dx)))) ∨
    ∃ (dx : Addr) (fs : List (Str × V)), H2 a = some (exo a C (some dx)) ∧ H2 dx = some (exd dx fs) ∧ fs.length ≤ 900 ∧ D.nx σ (upd H2 dx (exd dx ((f, y) :: fs))))) : tOst K f to te D σ H := q
theorem g_xat (q : te σ H fun x H1 => ∃ (a C d : Addr) (fs : List (Str × V)) (v : V), x = .ref a ∧ EcC K C ∧ PySem.W.findIn K (.ref C) f = some none ∧ H1 a = some (exo a C (some d)) ∧ H1 d = some (exd d fs) ∧ fs.lookup f = some v ∧ Q v H1) : tXat K f te σ H Q := q
theorem g_xs (q : te σ H fun x H1 => x = .ref a ∧ ∃ (C dd : Addr) (fs : List (Str × V)) (v : V), cls = .ref C ∧ d = some dd ∧ EcC K C ∧ PySem.W.findIn K (.ref C) f = some none ∧ H1 dd = some (.xd fs) ∧ fs.lookup f = some v ∧ Q v H1) : tXs K a cls d f te σ H Q := q
theorem g_mkE {C : Addr} {sp : Sp} (q : ta σ H fun vs H1 => spMk C sp vs H1 Q) : tMkE C sp ta σ H Q := q
theorem g_rs {t : L2.St → Hp → XK → Prop} {W : WX} (q : t σ H fun cls d H' => W cls d σ H') : tRs t W D σ H := q
theorem g_mkX {C : Addr} {sp : Sp} {Qx : XK} (q : ta σ H fun vs H1 => vs.length ≤ 1000 ∧ ∀ a, H1 a = none → sp (.ref a :: vs) (upd H1 a (exo a C none))
  (fun v H2 => v = .non ∧ ∃ (d : Addr) (fs : List (Str × V)), H2 a = some (exo a C (some d)) ∧ H2 d = some (exd d fs) ∧ H1 d = none ∧ Qx (.ref C) (some d) (upd (del H2 a) d (.xd fs))) E0) : tMkX C sp ta σ H Qx := q
theorem g_try {c : Value} {i : Nat} {tb : WX → TS} {ts : Addr → Value → Option Addr → TS} {Wout : WX} (q : tb (wAs K c i ts Wout D) D σ H) : tTry K c i tb ts Wout D σ H := q
theorem g_callS {sp : Sp} {E : L2.St → XK} (q : ta σ H fun vs H1 => sp vs H1 Q (E σ)) : tCallS sp E ta σ H Q := q
/-- the exception is of the class that the clause names -/
theorem g_wAs {c : Value} {i : Nat} {ts : Addr → Value → Option Addr → TS} {Wout : WX} (h : PySem.W.exmOne K cls c = some true) (q : ∀ a, H a = none → ts a cls d { nx := fun σ' H' => D.nx (σ'.set i none) H', rt := D.rt, bk := fun σ' H' => D.bk (σ'.set i none) H', ct := fun σ' H' => D.ct (σ'.set i none) H' } (σ.set i (some (.ref a))) H) :
    WE (wAs K c i ts Wout D) σ cls d H := ⟨true, h, fun _ => q, fun z => nomatch z⟩
end
/-- the def lets exceptions out: the body by its own context -/
theorem okX {P : Program} {w : World} {K : PySem.W.Frag} {mg : Str → Option Value} {base : Heap} {x qual : Str} {pr : Arguments} {bd : List Stmt} {sc : Scope} {dvs : List V} {kws : List (Str × V)} {f : Addr} {fd : FuncData} {N ps : List Str} {k : Nat} {sp : Sp} (F : FunD K x qual pr bd sc dvs kws f fd) (S : FnScope N ps sc) (hlen : ∀ vs H Q E, sp vs H Q E → vs.length = ps.length)
    (hb : ∀ (cdv : Value) (A : Around) (outer : List Env) (s : Shared) (H : Hp) (vs : List V) (Q : VK) (E : XK), RoomG k (A.deeper (envOfC qual sc s.heap.objs.size f cdv)) → sp vs H Q E →
      Takes (cxOf (L2.CX P w) P w K mg base N qual sc f cdv A outer s H E) (fun cls d _ H => E cls d H) →
      ∃ t, PSs (cxOf (L2.CX P w) P w K mg base N qual sc f cdv A outer s H E) bd t ∧ t { nx := fun _ H' => Q .non H', rt := Q } (start N vs) H) : FnG P w K mg base (L2.CX P w) (k + 1) f fd ps sp :=
  okG F S hlen fun cdv A outer s H vs Q E hr hsp => hb cdv A outer s H vs Q E hr hsp (takes_of rfl rfl rfl rfl)
/-! ### the inits' promises -/
/-- behind C(..)'s __init__: the exception at a has these fields -/
def Made (a C : Addr) (fs : List (Str × V)) (H : Hp) (Q : VK) : Prop := ∀ (d : Addr) (H' : Hp), H d = none → d ≠ a → Fr [a] H H' → H' a = some (exo a C (some d)) → H' d = some (exd d fs) → Q .non H'
def IniAt (K : PySem.W.Frag) (a C : Addr) (f : Str) (H : Hp) : Prop := OexC K C ∧ PySem.W.findIn K (.ref C) f = some none ∧ H a = some (exo a C none)
def spL (K : PySem.W.Frag) : Sp := fun vs H Q _ => ∃ (a C : Addr) (y : V), vs = [.ref a, y] ∧ IniAt K a C "word" H ∧ Made a C [("word", y)] H Q
def spI1 (K : PySem.W.Frag) (w f : Str) : Sp := fun vs H Q _ => ∃ (a C : Addr) (y : V), vs = [.ref a, y] ∧ IniAt K a C "word" H ∧ PySem.W.findIn K (.ref C) f = some none ∧ Made a C [(f, y), ("word", .str w)] H Q
def spI0 (K : PySem.W.Frag) (w : Str) : Sp := fun vs H Q _ => ∃ (a C : Addr), vs = [.ref a] ∧ IniAt K a C "word" H ∧ Made a C [("word", .str w)] H Q
theorem nofix_exo {e C : Addr} {d : Option Addr} : ¬ Fix (exo e C d) := fun z => z
theorem Fr.exd {H : Hp} {a d C : Addr} {o u : HO} (hd : H d = none) (ha : H a = some (exo a C none)) : Fr [a] H (upd (upd H d o) a u) := (Fr.new hd).trans (Fr.mut List.mem_cons_self (by rw [upd_ne (ne_of_none ha hd)]; exact ha) nofix_exo)
/-- C(..) as a value: its fields are those of the promise -/
theorem spMk_I1 {K : PySem.W.Frag} {C : Addr} {w f : Str} {y : V} {H : Hp} {Q : VK} (T : EcC K C) (h1 : PySem.W.findIn K (.ref C) "word" = some none) (h2 : PySem.W.findIn K (.ref C) f = some none)
    (q : ∀ (a d : Addr) (H' : Hp), H a = none → Fr [] H H' → H' a = some (exo a C (some d)) → H' d = some (exd d [(f, y), ("word", .str w)]) → Q (.ref a) H') : spMk C (spI1 K w f) [y] H Q :=
  ⟨Nat.le_of_ble_eq_true rfl, fun a ha => ⟨a, C, y, rfl, ⟨T.oe, h1, upd_same⟩, h2, fun d H' hd hne fr e1 e2 => ⟨rfl, q a d H' ha (fun b o hb _ => by
    have hb2 : b ≠ a := ne_of_none hb ha
    exact fr b o (by rw [upd_ne hb2]; exact hb) (.inl fun z => hb2 (List.mem_singleton.mp z))) e1 e2⟩⟩⟩
theorem spMk_I0 {K : PySem.W.Frag} {C : Addr} {w : Str} {H : Hp} {Q : VK} (T : EcC K C) (h1 : PySem.W.findIn K (.ref C) "word" = some none)
    (q : ∀ (a d : Addr) (H' : Hp), H a = none → Fr [] H H' → H' a = some (exo a C (some d)) → H' d = some (exd d [("word", .str w)]) → Q (.ref a) H') : spMk C (spI0 K w) [] H Q :=
  ⟨by decide, fun a ha => ⟨a, C, rfl, ⟨T.oe, h1, upd_same⟩, fun d H' hd hne fr e1 e2 => ⟨rfl, q a d H' ha (fun b o hb _ => by
    have hb2 : b ≠ a := ne_of_none hb ha
    exact fr b o (by rw [upd_ne hb2]; exact hb) (.inl fun z => hb2 (List.mem_singleton.mp z))) e1 e2⟩⟩⟩
/-- raise C(y): the clause's wish of it -/
theorem mkX_I1 {K : PySem.W.Frag} {C : Addr} {w f : Str} {y : V} {H : Hp} {Qx : XK} (T : EcC K C) (h1 : PySem.W.findIn K (.ref C) "word" = some none) (h2 : PySem.W.findIn K (.ref C) f = some none)
    (q : ∀ (d : Addr) (H' : Hp), Fr [] H H' → H' d = some (.xd [(f, y), ("word", .str w)]) → Qx (.ref C) (some d) H') :
    [y].length ≤ 1000 ∧ ∀ a, H a = none → spI1 K w f (.ref a :: [y]) (upd H a (exo a C none)) (fun v H2 => v = .non ∧ ∃ (d : Addr) (fs : List (Str × V)), H2 a = some (exo a C (some d)) ∧ H2 d = some (exd d fs) ∧ H d = none ∧ Qx (.ref C) (some d) (upd (del H2 a) d (.xd fs))) E0 :=
  ⟨Nat.le_of_ble_eq_true rfl, fun a ha => ⟨a, C, y, rfl, ⟨T.oe, h1, upd_same⟩, h2, fun d H' hd hne fr e1 e2 => ⟨rfl, d, _, e1, e2, by rw [upd_ne hne] at hd; exact hd, q d _ (fun b o hb _ => by
    have hb2 : b ≠ a := ne_of_none hb ha
    have hd2 : H d = none := by rw [upd_ne hne] at hd; exact hd
    rw [upd_ne (ne_of_none hb hd2), del_ne hb2]
    exact fr b o (by rw [upd_ne hb2]; exact hb) (.inl fun z => hb2 (List.mem_singleton.mp z))) upd_same⟩⟩⟩
end SL
namespace SL
open PySem PySem.Spec PyProof.Rows L2
section
variable {K : PySem.W.Frag} {σ : L2.St} {H : Hp} {Q : VK} {ta tb tc te : TE} {r r' : R2}
theorem g_chain (q : ta σ H fun x H1 => tb σ H1 fun y H2 => r x y H2 fun z H3 => ∃ k, z = .bl k ∧ (if k = true then tc σ H3 fun w' H4 => r' y w' H4 Q else Q (.bl false) H3)) : tChain r r' ta tb tc σ H Q := q
theorem g_rU {f : Int → V} {i : Int} (q : Q (f i) H) : rU f (.int i) H Q := ⟨i, rfl, q⟩
theorem g_istr {S : It → Hp → Prop} (q : te σ H fun v H1 => ∃ x, v = .str x ∧ S (Its x) H1) : iStr te σ H S := q
theorem g_leS {a b : Str} (q : Q (.bl (!decide (b.cps.toList < a.cps.toList))) H) : uLe (.str a) (.str b) H Q := q
end
end SL
namespace SL
open PySem PySem.Spec PyProof.Rows L2 He
/-! ### a Hook of the head: the table of statics too, and facts of one's own -/
def asY (g : Addr → Option Obj) (n : Nat) : List Addr := He.asD g n ++ [cStatics]
structure SaysY (fa : List Fa) (fn : List DefD) (ts : List Tab) (ex : PySem.W.Frag → Bool) (w : World) (K : PySem.W.Frag) : Prop where
  t : SaysT fa fn ts w K
  more : ex K = true
def obsY (n : Nat) (fa : List Fa) (fn : List DefD) (ts : List Tab) (ex : PySem.W.Frag → Bool) (g : Addr → Option Obj) : AlX := (obsT fa fn ts (frG g (asY g n)), ex (frG g (asY g n)))
def hookY (n : Nat) (fa : List Fa) (fn : List DefD) (ts : List Tab) (ex : PySem.W.Frag → Bool) : PySem.W.Hook where
  α := AlX
  obs := fun s => obsY n fa fn ts ex s.heap.get?
  val := fun w => (valT fn ts w, true)
  says := fun w h => ∃ K : PySem.W.Frag, K.In h ∧ SaysY fa fn ts ex w K
  of := fun _ _ e => ⟨_, frG_in, ⟨congrArg (fun z : AlX => z.1) e, congrArg (fun z : AlX => z.2) e⟩⟩
  keeps := fun _ _ _ ⟨K, hK, c⟩ k => ⟨K, PySem.W.Frag.In.keeps hK k, c⟩
theorem obsY_eq {n : Nat} {fa : List Fa} {fn : List DefD} {ts : List Tab} {ex : PySem.W.Frag → Bool} {g : Addr → Option Obj} {s : Shared} (h : ∀ a, g a = s.heap.get? a) : obsY n fa fn ts ex g = (hookY n fa fn ts ex).obs s := by
  have e : g = s.heap.get? := funext h
  rw [e] <;> rfl
end SL

set_option Elab.async false
set_option linter.all false
set_option maxRecDepth 100000
set_option maxHeartbeats 2000000
/-! # SL10: enumerate(tuple), min of texts, dict comprehensions with two fors -/
namespace SL
open PySem PySem.Spec PyProof.Rows L2
/-! ### enumerate(tuple) -/
theorem meets_enum1 {v : Value} {o : Obj} {H : Heap → Prop} (B : Begins v o H) :
    Meets (Builtin.«enumerate.__new__» ⟨[.type "enumerate", v], []⟩) (fun _ R s => H s.heap ∧
      R (.ok (.ret (.ref (s.heap.push o).objs.size))) { s with heap := (s.heap.push o).push { cls := .type "enumerate", data := .fields #[.none, .bool false, .ref s.heap.objs.size, rawInt 0, .none, .none] } }) :=
  .of_wp fun prog w A R s h => by
    obtain ⟨hp, g, d, tk, os⟩ := s
    obtain ⟨h1, h⟩ := h
    have hsub := sub_enumerate
    have q1 : ∀ {A' : Around} {E : Value → Shared → Prop} {Q : Value → Shared → Prop}, Q (.ref hp.objs.size) ⟨hp.push o, g, d, tk, os⟩ → wpAny (model prog w) A' (pyIter v) Q E ⟨hp, g, d, tk, os⟩ :=
      fun q => B.iter prog w _ _ ⟨hp, g, d, tk, os⟩ _ h1 q
    wp_walk using q1
    refine wpAny_stack_any fun st => wpAny_pure ?_
    split
    · rename_i c _ _ _ _ _
      cases (c == Value.type "enumerate")
      · wp_walk using q1
        exact ⟨_, rfl, h⟩
      · wp_walk using q1
        exact ⟨_, rfl, h⟩
    · wp_walk using q1
      exact ⟨_, rfl, h⟩
section
variable {prog : Program} {w : World} {A : Around} {E : Value → Shared → Prop} {s : Shared}
theorem enum1_call {v : Value} {o : Obj} {H : Heap → Prop} {Q : Value → Shared → Prop} (B : Begins v o H) (h1 : H s.heap)
    (h : ∀ h', IsEnum h' (s.heap.objs.size + 1) s.heap.objs.size 0 .none → h'.get? s.heap.objs.size = some o → (∀ b o, s.heap.get? b = some o → h'.get? b = some o) → Q (.ref (s.heap.objs.size + 1)) { s with heap := h' }) :
    wpAny (model prog w) A (call (.type "enumerate") [v]) Q E s := by
  refine callType_new F.called_enumerate (by decide) (F.typeCall_enumerate_1 _) (F.newCall_enumerate_1 _) (fun obj => F.args_object_init_2 obj _) F.entry_enumerate_new (meets_enum1 B) ⟨h1, ?_⟩
  have hz : (s.heap.push o).objs.size = s.heap.objs.size + 1 := Heap.size_push ..
  show _ ∧ _
  rw [hz]
  have he := Heap.get?_push_size (s.heap.push o) (o := { cls := .type "enumerate", data := .fields #[.none, .bool false, .ref s.heap.objs.size, rawInt 0, .none, .none] }) rfl
  rw [hz] at he
  exact ⟨⟨_, he, rfl⟩, h _ he (Heap.get?_push_of_some _ (Heap.get?_push_size _ B.free)) fun b o x => Heap.get?_push_of_some _ (Heap.get?_push_of_some _ x)⟩
end
def IteT (K : PySem.W.Frag) (a : Addr) : It :=
  ⟨fun i H => ∃ (xs : List V) (x : V), SqT K H a xs ∧ xs[i]? = some x, fun i H v H' => ∃ T x, v = .ref T ∧ H T = none ∧ H' = upd H T (.tup [.int (i : Nat), x]) ∧ ∀ xs, SqT K H a xs → xs[i]? = some x, fun i H => ∃ xs : List V, SqT K H a xs ∧ xs.length ≤ i⟩
theorem turn_enumT {P : Program} {w : World} {K : PySem.W.Frag} {elts : List Expr} {kk : Nat} {tpos : Pos} (a e it : Addr) :
    Turn P w K (.Tuple elts kk tpos) (IteT K a) [e, it] e (fun i h => (∃ old, IsEnum h e it ((i : Nat) : Int) old) ∧ h.IsTupleIter it a i ∧ e ≠ it ∧ a ≠ it ∧ e ≠ a) where
  mem := by simp
  obj := fun i h st b hb => by
    obtain ⟨⟨old, he⟩, ⟨o, ho, hc, hd⟩, _⟩ := st
    have e' : b = e ∨ b = it := by simpa using hb
    rcases e' with z | z
    · rw [z]; exact ⟨_, he, fun v q => nomatch q⟩
    · rw [z]; exact ⟨o, ho, fun v q => by rw [hd] at q; cases q⟩
  keep := fun i h h' st k => let ⟨⟨old, he⟩, hi, hne⟩ := st; ⟨⟨old, k e (by simp) _ he⟩, hi.at fun o q => k it (by simp) o q, hne⟩
  item := by
    intro X hP hw hK hc i pins s σ H E I hf st hg
    subst hP hw hK
    obtain ⟨⟨old, he⟩, hit, hne, hai, hea⟩ := st
    obtain ⟨xs, x, hq, hx⟩ := hg
    obtain ⟨its, rv, p, hz⟩ := I.tuple hq
    obtain ⟨u, hu, ru⟩ := rv.get hx
    have hel : e < s.heap.objs.size := Heap.lt_size he
    have hil : it < s.heap.objs.size := by obtain ⟨_, q, _⟩ := hit; exact Heap.lt_size q
    have hlt : i < its.toArray.size := by
      have := (List.getElem?_eq_some_iff.mp hu).1
      simpa using this
    refine wpAny_pyNext_enum_itemD (Draws.tuple (A := X.A.in1) (I.ok.hd hc) it a hai its.toArray) he ⟨hit, p⟩ hlt hne (by simp [hne, hea]) fun x' h' tk hx' ho st' hT hsz hk => ?_
    have exu : x' = u := by
      have h1 : its[i]? = some x' := by simpa using hx'
      rw [hu] at h1
      exact (Option.some.inj h1).symm
    subst exu
    refine ⟨_, rfl, wpAny_letOwnedTupleGo_enum (s := { s with heap := h', toks := tk + 1 }) ho fun h'' he' sb => ?_⟩
    have hT2 : h''.get? s.heap.objs.size = some { cls := .type "tuple", data := .seq #[.int i tk, x'] } := (sb.2 _ (Nat.ne_of_gt hel)).trans hT
    have new : ObjOk X.prog X.w (upd H s.heap.objs.size (.tup [.int (i : Nat), x])) h'' s.heap.objs.size (.tup [.int (i : Nat), x]) :=
      ⟨by show 2 ≤ sizeLine; decide, [.int i tk, x'], .cons ⟨_, rfl⟩ (.cons ru .nil), ⟨_, hT2, rfl, _, rfl⟩⟩
    have I1 : Inv X pins σ (upd H s.heap.objs.size (.tup [.int (i : Nat), x])) { s with heap := h'', toks := tk + 1 } :=
      I.turnedNew (ch := [e, it]) (fun b ob hb q => (sb.2 b (fun z => hb (by simp [z]))).trans (hk b ob (fun z => hb (by simp [z])) (fun z => hb (by simp [z])) q)) hf (Nat.le_refl _) new
    refine ⟨.ref s.heap.objs.size, _, I1, rfl, ⟨_, x, rfl, I.hok.fresh (Nat.le_refl _), rfl, fun ys hy => by rw [I.tuple_inj hy hq]; exact hx⟩, ⟨⟨x', ?_⟩, st'.1.at fun o q => (sb.2 it (Ne.symm hne)).trans q, hne, hai, hea⟩, fun b hb => ?_⟩
    · have e1 : ((i + 1 : Nat) : Int) = (i : Int) + 1 := by omega
      rw [e1]; exact he'
    · have hb' : b < s.heap.objs.size := by
        have e' : b = e ∨ b = it := by simpa using hb
        rcases e' with z | z
        · rw [z]; exact hel
        · rw [z]; exact hil
      rw [upd_ne (Nat.ne_of_lt hb')]
      exact (hf b hb).1
  done := by
    intro X hP hw hK hc i pins s σ H E I hf st hg
    subst hP hw hK
    obtain ⟨⟨old, he⟩, hit, hne, hai, hea⟩ := st
    obtain ⟨xs, hq, hx⟩ := hg
    obtain ⟨its, rv, p, hz⟩ := I.tuple hq
    obtain ⟨f0, f1, f2, f3, f4, f5⟩ := hf it (by simp)
    have hl := rv.length
    have hend : its.toArray[i]? = none := by simp; omega
    have D : Draws X.prog X.w X.A.in1 it [it, a] i (fun _ _ => True) (fun j h => j = i ∧ h.IsTupleIter it a i ∧ h.IsTuple a its.toArray) := {
      live := fun _ _ st => let ⟨o, ho, _⟩ := st.2.1; ⟨o, ho⟩
      frame := fun _ _ _ st hk => ⟨st.1, st.2.1.at fun o e => hk it (by simp) o e, st.2.2.at fun o e => hk a (by simp) o e⟩
      item := fun j s Q E hj st hQ => absurd hj (by rw [st.1]; exact Nat.lt_irrefl _)
      done := fun s Q E st hE => wpAny_nextOf_tuple_end (I.ok.hd hc) st.2.1 st.2.2 hend hE }
    exact wpAny_pyNext_enum_endD D he ⟨rfl, hit, p⟩ fun h' eb => ⟨rfl, I.turned (t' := s.toks) (fun b o hb q => eb b o hb q) f0 f1 f3 f4 f5⟩
  self := fun A i s Q E st h => let ⟨⟨_, he⟩, _⟩ := st; wpAny_pyIter_enum he h
def iEnumT (K : PySem.W.Frag) (ta : TA) : TI := fun σ H R => ta σ H fun vs H1 => ∃ a xs, vs = [.ref a] ∧ SqT K H1 a xs ∧ R (IteT K a) H1
theorem pi_enumT {X : Cx} {K : PySem.W.Frag} {e : Expr} {ta : TA} {p pos tpos : Pos} {elts : List Expr} {kk : Nat} (eK : X.K = K) (hg : Gl X "enumerate") (hm : X.mg "enumerate" = none) (ha : PA X [e] ta) (hs : starEach [e] X.env = [(false, eval e X.env)] := by rfl) :
    PI X (.Tuple elts kk tpos) (.Call (.Name "enumerate" p) [e] [] pos) (iEnumT K ta) := by
  subst eK
  refine ⟨fun pins s σ H R I h => ?_⟩
  refine Call_ (ld_blt I hg hm boot_enumerate (PyProof.Rows.callWith_type1 (thn (ha.run pos pins s σ H _ I h) fun us s1 ⟨vs, H1, I1, r1, q1⟩ => ?_) hs rfl))
  obtain ⟨a, xs, ex, hq, q⟩ := q1
  subst ex
  cases r1 with
  | cons r rr =>
    cases rr
    cases r
    obtain ⟨its, rv, p', hz⟩ := I1.tuple hq
    have hal : a < s1.heap.objs.size := by obtain ⟨_, z, _⟩ := p'; exact Heap.lt_size z
    refine enum1_call (begins_tuple a its.toArray) p' fun h' he hit hk => wpAny_pyIter_enum he ?_
    have I2 : Inv X pins σ H1 { s1 with heap := h' } := I1.kept (t' := s1.toks) hk
    refine ⟨s1.heap.objs.size + 1, [s1.heap.objs.size + 1, s1.heap.objs.size], _, _, H1, rfl, I2, turn_enumT a (s1.heap.objs.size + 1) s1.heap.objs.size, ⟨⟨.none, he⟩, ⟨_, hit, rfl, rfl⟩, Nat.succ_ne_self _, Nat.ne_of_lt hal, Nat.ne_of_gt (Nat.lt_succ_of_lt hal)⟩, fun b hb => ?_, q⟩
    have e' : b = s1.heap.objs.size + 1 ∨ b = s1.heap.objs.size := by simpa using hb
    have hle : s1.heap.objs.size ≤ b := by
      rcases e' with z | z
      · rw [z]; exact Nat.le_add_right _ _
      · rw [z]; exact Nat.le_refl _
    exact I1.fpOk hle (I1.hok.fresh hle)
theorem walk_enumT {K : PySem.W.Frag} {a : Addr} {xs : List V} : Walk (IteT K a) xs.length (fun H => SqT K H a xs) (YPair (fun i => some (.int (i : Nat))) (fun i => xs[i]?)) := by
  refine ⟨fun i _ hi q => ⟨xs, xs[i], q, by simp [hi]⟩, fun _ q => ⟨xs, q, Nat.le_refl _⟩, fun i H v H' _ q y => ?_⟩
  obtain ⟨T, x, h1, h2, h3, h4⟩ := y
  exact ⟨T, .int (i : Nat), x, h1, h2, h3, rfl, h4 xs q⟩
/-! ### min of texts -/
def rMinS (K : PySem.W.Frag) : List V → Hp → VK → Prop := fun vs H Q => ∃ (a : Addr) (z : Str) (zs : List Str), vs = [V.ref a] ∧ SqL K H a ((z :: zs).map V.str) ∧ ∀ m, m ∈ z :: zs → (∀ y ∈ z :: zs, ¬ y.cps.toList < m.cps.toList) → Q (.str m) H
theorem min_strs : ∀ (zs : List Str) (z : Str), ∃ m, W.minD (.str z) (zs.map .str) = .str m ∧ m ∈ z :: zs ∧ ∀ y ∈ z :: zs, ¬ y.cps.toList < m.cps.toList
  | [], z => ⟨z, rfl, List.mem_cons_self, fun y hy => by rw [List.mem_singleton.mp hy]; exact List.lt_irrefl _⟩
  | w :: r, z => by
    have key : W.minD (.str z) ((w :: r).map .str) = W.minD (if W.dataLt (.str w) (.str z) then .str w else .str z) (r.map .str) := rfl
    by_cases c : w.cps.toList < z.cps.toList
    · obtain ⟨m, h1, h2, h3⟩ := min_strs r w
      refine ⟨m, ?_, List.mem_cons_of_mem _ h2, fun y hy => ?_⟩
      · rw [key, W.dataLt_str, if_pos (decide_eq_true c)]
        exact h1
      · rcases List.mem_cons.mp hy with rfl | hy
        · exact fun q => h3 w List.mem_cons_self (List.lt_trans c q)
        · exact h3 y hy
    · obtain ⟨m, h1, h2, h3⟩ := min_strs r z
      refine ⟨m, ?_, ?_, fun y hy => ?_⟩
      · rw [key, W.dataLt_str, if_neg (by simpa using c)]
        exact h1
      · rcases List.mem_cons.mp h2 with rfl | h2
        · exact List.mem_cons_self
        · exact List.mem_cons_of_mem _ (List.mem_cons_of_mem _ h2)
      · rcases List.mem_cons.mp hy with rfl | hy
        · exact h3 y List.mem_cons_self
        · rcases List.mem_cons.mp hy with rfl | hy
          · intro q
            rcases List.le_total z.cps.toList y.cps.toList with t | t
            · exact h3 z List.mem_cons_self (List.lt_of_le_of_lt t q)
            · exact c (Decidable.byContradiction fun n => by
                have e := List.le_antisymm t (List.not_lt.mp n)
                rw [e] at q
                exact h3 z List.mem_cons_self q)
          · exact h3 y (List.mem_cons_of_mem _ hy)
theorem cr_minS {X : Cx} (hc : X.calm = true) (hu : X.A.units + 64 < cLine) : CallR X (.builtin "min") (rMinS X.K) := by
  intro pins s σ H vs us Q I r h
  obtain ⟨a, z, zs, rfl, hs, q⟩ := h
  obtain ⟨its, rv, hl, _⟩ := I.list hs
  rw [Vals.ref1 r]
  have hd : ∀ ws : List Str, DpAll X.K H (ws.map V.str) (ws.map PyData.str) := fun ws => by
    induction ws with
    | nil => exact .nil
    | cons x r ih => exact .cons (.str x) ih
  obtain ⟨as, hR⟩ := Dp.readsAll I _ _ _ (hd (z :: zs)) rv
  have hdep : PyData.depthAll ((z :: zs).map PyData.str) = 0 := by
    induction (z :: zs) with
    | nil => simp only [List.map_nil, PyData.depthAll]
    | cons x r ih => simp only [List.map_cons, PyData.depthAll, PyData.depth, ih, Nat.max_self]
  obtain ⟨m, h1, h2, h3⟩ := min_strs zs z
  refine W.min_list_data (x := .str z) (xs := zs.map .str) (I.ok.hd hc) hl.isList (by simpa using hR) ?_ (by
    have := hdep
    rw [List.map_cons] at this
    rw [this]
    omega) fun i v h' tk bs hv hr hk => ?_
  · have key : ∀ x ∈ PyData.str z :: zs.map PyData.str, ∃ w, x = .str w := fun x hx => by
      rcases List.mem_cons.mp hx with rfl | hx
      · exact ⟨_, rfl⟩
      · obtain ⟨w, _, rfl⟩ := List.mem_map.mp hx
        exact ⟨w, rfl⟩
    refine ⟨fun x hx y hy => ?_, fun x hx => ?_⟩
    · obtain ⟨w1, rfl⟩ := key x hx
      obtain ⟨w2, rfl⟩ := key y hy
      rfl
    · obtain ⟨w1, rfl⟩ := key x hx
      exact fun z => nomatch z
  · rw [h1] at hr
    cases hr with
    | str x t => exact ⟨.str m, H, I.kept hk, ⟨t, rfl⟩, q m h2 h3⟩
end SL
namespace L2
open PySem PySem.Spec PyProof.Rows
theorem compTurn2D_out (kx vx t0 i0 t1 i1 : Expr) (ifs0 ifs1 : List Expr) (scope : Scope) (pos : Pos) (it acc : Value) (env : Env) :
    compTurn (.DictComp kx vx [⟨t0, i0, ifs0, 0⟩, ⟨t1, i1, ifs1, 0⟩] scope pos) 0 it acc env = (do
      standAt i0.pos
      match ← pyNext it with
      | none => pure (.done .next)
      | some v =>
        letOwnedTupleGo t0 it v
        assign t0 env v
        let mut ok := true
        for c in ifs0 do
          if ok then ok ← isTrue c env (eval c env)
        if ok then
          let x ← eval i1 env
          standAt i1.pos
          let x ← foldedSetIterable i1 env x
          let _ ← runOwn (.compStart (.DictComp kx vx [⟨t0, i0, ifs0, 0⟩, ⟨t1, i1, ifs1, 0⟩] scope pos) 1 (← holding [x] (pyIter x)) acc env) env
        again (.compLoop (.DictComp kx vx [⟨t0, i0, ifs0, 0⟩, ⟨t1, i1, ifs1, 0⟩] scope pos) 0 it acc env)) := by rfl
theorem compTurn2D_in (kx vx t0 i0 t1 i1 : Expr) (ifs0 ifs1 : List Expr) (scope : Scope) (pos : Pos) (it : Value) (acc : Addr) (env : Env) :
    compTurn (.DictComp kx vx [⟨t0, i0, ifs0, 0⟩, ⟨t1, i1, ifs1, 0⟩] scope pos) 1 it (.ref acc) env = (do
      standAt i1.pos
      match ← pyNext it with
      | none => pure (.done .next)
      | some v =>
        letOwnedTupleGo t1 it v
        assign t1 env v
        let mut ok := true
        for c in ifs1 do
          if ok then ok ← isTrue c env (eval c env)
        if ok then
          (do
            let kv ← eval kx env
            let vv ← holding [kv] (eval vx env)
            standAt { kx.pos with endLine := vx.pos.endLine, endCol := vx.pos.endCol }
            holding [kv, vv] (dictSet acc kv vv))
        again (.compLoop (.DictComp kx vx [⟨t0, i0, ifs0, 0⟩, ⟨t1, i1, ifs1, 0⟩] scope pos) 1 it (.ref acc) env)) := by rfl

section
variable {prog : Program} {w : World} {A : Around} {R : Result → Shared → Prop} {s : Shared} {kx vx t0 i0 t1 i1 : Expr} {ifs0 ifs1 : List Expr} {scope : Scope} {pos : Pos} {it acc : Value} {env : Env}
/-- the loop of the first clause -/
theorem compLoop2D_out (hs : ∀ x, foldedSetIterable i1 env x = pure x) (I : Nat → Shared → Prop)
    (turn : ∀ n s, I n s → wpAny (model prog w) A (pyNext it) (fun r s₁ => match r with
      | none => R (.ok .next) s₁
      | some v => wpAny (model prog w) A (letOwnedTupleGo t0 it v) (fun _ s₁' => wpAny (model prog w) A (assign t0 env v) (fun _ s₂ =>
          wpAny (model prog w) A (forIn ifs0 true fun c r => if r = true then do let ok ← isTrue c env (eval c env); pure (ForInStep.yield ok) else pure (ForInStep.yield r)) (fun ok s₃ =>
            if ok = true then wpAny (model prog w) A (eval i1 env) (fun x s₄ => wpAny (model prog w) A (pyIter x) (fun it1 s₅ =>
              codeAny (model prog w) A (.compStart (.DictComp kx vx [⟨t0, i0, ifs0, 0⟩, ⟨t1, i1, ifs1, 0⟩] scope pos) 1 it1 acc env) (fun r s' => match r with
                | .ok _ => ∃ m, m < n ∧ I m s'
                | .error _ => False) s₅) (notedBy (model prog w) A env fun e s' => R (.error e) s') s₄) (notedBy (model prog w) A env fun e s' => R (.error e) s') s₃
            else ∃ m, m < n ∧ I m s₃) (notedBy (model prog w) A env fun e s' => R (.error e) s') s₂) (notedBy (model prog w) A env fun e s' => R (.error e) s') s₁') (notedBy (model prog w) A env fun e s' => R (.error e) s') s₁) (notedBy (model prog w) A env fun e s' => R (.error e) s') s)
    (n : Nat) (h : I n s) :
    codeAny (model prog w) A (.compLoop (.DictComp kx vx [⟨t0, i0, ifs0, 0⟩, ⟨t1, i1, ifs1, 0⟩] scope pos) 0 it acc env) R s := by
  refine codeAny_loop rfl I (fun n s hI => ?_) n h
  show wpAny _ A ((compTurn (.DictComp kx vx [⟨t0, i0, ifs0, 0⟩, ⟨t1, i1, ifs1, 0⟩] scope pos) 0 it acc env).onRaise (fun x => do noteFrame x env; theTreesLotGoes x)) _ _ s
  refine wpAny_noted ?_
  rw [compTurn2D_out]
  refine wpAny_bind (wpAny_standAt (wpAny_bind (wpAny_mono (turn n s hI) (fun r s₁ h₁ => ?_) fun _ _ h' => h')))
  cases r with
  | none => exact wpAny_pure h₁
  | some v =>
    refine wpAny_bind (wpAny_mono h₁ (fun _ s₁' h₁' => ?_) fun _ _ h' => h')
    refine wpAny_bind (wpAny_mono h₁' (fun _ s₂ h₂ => wpAny_bind (wpAny_mono h₂ (fun ok s₃ h₃ => ?_) fun _ _ h' => h')) fun _ _ h' => h')
    cases ok with
    | false => exact wpAny_pure ⟨rfl, h₃⟩
    | true =>
      refine wpAny_bind (wpAny_mono h₃ (fun x s₄ h₄ => ?_) fun _ _ h' => h')
      refine wpAny_bind (wpAny_standAt (wpAny_bind (wpAny_of_eq (hs x) (wpAny_bind (wpAny_holding (wpAny_mono h₄ (fun it1 s₅ h₅ => ?_) fun _ _ h' => h'))))))
      refine wpAny_bind (wpAny_runOwn ?_)
      rw [Around.mark_none]
      refine codeAny_mono h₅ fun r s' hr => ?_
      cases r with
      | ok f =>
        first
          | exact wpAny_pure ⟨rfl, hr⟩
          | exact wpAny_bind (wpAny_pure (wpAny_pure ⟨rfl, hr⟩))
      | error e => exact hr.elim
/-- the loop of the second -/
theorem compLoop2D_in {D : Addr} (I : Nat → Shared → Prop)
    (turn : ∀ n s, I n s → wpAny (model prog w) A (pyNext it) (fun r s₁ => match r with
      | none => R (.ok .next) s₁
      | some v => wpAny (model prog w) A (letOwnedTupleGo t1 it v) (fun _ s₁' => wpAny (model prog w) A (assign t1 env v) (fun _ s₂ =>
          wpAny (model prog w) A (forIn ifs1 true fun c r => if r = true then do let ok ← isTrue c env (eval c env); pure (ForInStep.yield ok) else pure (ForInStep.yield r)) (fun ok s₃ =>
            if ok = true then wpAny (model prog w) A (eval kx env) (fun kv s₄ => wpAny (model prog w) A (eval vx env) (fun vv s₅ =>
              wpAny (model prog w) A (dictSet D kv vv) (fun _ s₆ => ∃ m, m < n ∧ I m s₆) (notedBy (model prog w) A env fun e s' => R (.error e) s') s₅) (notedBy (model prog w) A env fun e s' => R (.error e) s') s₄) (notedBy (model prog w) A env fun e s' => R (.error e) s') s₃
            else ∃ m, m < n ∧ I m s₃) (notedBy (model prog w) A env fun e s' => R (.error e) s') s₂) (notedBy (model prog w) A env fun e s' => R (.error e) s') s₁') (notedBy (model prog w) A env fun e s' => R (.error e) s') s₁) (notedBy (model prog w) A env fun e s' => R (.error e) s') s)
    (n : Nat) (h : I n s) :
    codeAny (model prog w) A (.compLoop (.DictComp kx vx [⟨t0, i0, ifs0, 0⟩, ⟨t1, i1, ifs1, 0⟩] scope pos) 1 it (.ref D) env) R s := by
  refine codeAny_loop rfl I (fun n s hI => ?_) n h
  show wpAny _ A ((compTurn (.DictComp kx vx [⟨t0, i0, ifs0, 0⟩, ⟨t1, i1, ifs1, 0⟩] scope pos) 1 it (.ref D) env).onRaise (fun x => do noteFrame x env; theTreesLotGoes x)) _ _ s
  refine wpAny_noted ?_
  rw [compTurn2D_in]
  refine wpAny_bind (wpAny_standAt (wpAny_bind (wpAny_mono (turn n s hI) (fun r s₁ h₁ => ?_) fun _ _ h' => h')))
  cases r with
  | none => exact wpAny_pure h₁
  | some v =>
    refine wpAny_bind (wpAny_mono h₁ (fun _ s₁' h₁' => ?_) fun _ _ h' => h')
    refine wpAny_bind (wpAny_mono h₁' (fun _ s₂ h₂ => wpAny_bind (wpAny_mono h₂ (fun ok s₃ h₃ => ?_) fun _ _ h' => h')) fun _ _ h' => h')
    cases ok with
    | false => exact wpAny_pure ⟨rfl, h₃⟩
    | true =>
      exact wpAny_bind (wpAny_bind (wpAny_mono h₃ (fun kv s₄ h₄ => wpAny_bind (wpAny_holding (wpAny_mono h₄ (fun vv s₅ h₅ => wpAny_bind (wpAny_standAt (wpAny_holding (wpAny_mono h₅ (fun _ s₆ h₆ => wpAny_pure ⟨rfl, h₆⟩) fun _ _ h' => h')))) fun _ _ h' => h'))) fun _ _ h' => h'))
/-- the second clause's start -/
theorem compStart1D_ok (h0 : codeAny (model prog w) A (.compLoop (.DictComp kx vx [⟨t0, i0, ifs0, 0⟩, ⟨t1, i1, ifs1, 0⟩] scope pos) 1 it acc env) R s)
    (h : wpAny (model prog w) A (pyIter it) (fun it' s' => codeAny (model prog w) A (.compLoop (.DictComp kx vx [⟨t0, i0, ifs0, 0⟩, ⟨t1, i1, ifs1, 0⟩] scope pos) 1 it' acc env) R s')
      (notedBy (model prog w) A env fun x s' => R (.error x) s') s) :
    codeAny (model prog w) A (.compStart (.DictComp kx vx [⟨t0, i0, ifs0, 0⟩, ⟨t1, i1, ifs1, 0⟩] scope pos) 1 it acc env) R s := by
  refine codeAny_of_tree ?_
  show wpAny _ _ ((compStart (.DictComp kx vx [⟨t0, i0, ifs0, 0⟩, ⟨t1, i1, ifs1, 0⟩] scope pos) 1 it acc env).onRaise (fun x => do noteFrame x env; standAt theWindowsPlace)) _ _ s
  refine wpAny_notedAt ?_
  unfold compStart
  show wpAny _ _ (ask >>= _) _ _ s
  refine wpAny_bind (wpAny_askSetting (wpAny_ite ?_))
  split
  · first
      | exact wpAny_bind (wpAny_pure (wpAny_pure (And.intro rfl h0)))
      | exact wpAny_pure (And.intro rfl h0)
  · first
      | exact wpAny_bind (wpAny_rule (wpAny_bind (wpAny_standAt (wpAny_bind (wpAny_mono h (fun it' s' h' => wpAny_pure (And.intro rfl h')) fun _ _ x => x)))))
      | (refine wpAny_bind (wpAny_rule ?_); show wpAny _ _ (standAt i1.pos >>= _) _ _ s; exact wpAny_bind (wpAny_standAt (wpAny_bind (wpAny_mono h (fun it' s' h' => wpAny_pure (And.intro rfl h')) fun _ _ x => x))))
end
section
variable {X : Cx}
/-- {kx: vx for tg in iter if .. for tg1 in iter1 if ..}: behind the first clause's store and tests the second source's own loop, from which Nx is reached. vs: the block's names; vs1: those of the second target -/
def tDc2 (wi : TI) (g : TG) (tt : TT) (wi1 : TI) (g1 : TG) (tt1 : TT) (tk tv : TE) (vs vs1 : List Nat) : TE := fun σ H Q => wi σ H fun J H1 => ∀ D, H1 D = none → ∃ W : Nat → Nat → Hp → Prop, (∃ m, W 0 m (upd H1 D (.dK []))) ∧ ∀ i m H, W i m H →
  (J.stop i H ∧ Q (.ref D) H) ∨ (J.go i H ∧ ∃ Nx : Hp → Prop, (∀ H', Nx H' → ∃ m', m' < m ∧ W (i + 1) m' H') ∧ ∀ x H', J.yld i H x H' → g x (wipe σ vs) H' fun σ2 H2 => wipe σ2 vs = wipe σ vs ∧ tt σ2 H2 fun b H3 =>
    if b = true then wi1 σ2 H3 fun J1 H4 => ∃ W1 : Nat → Nat → Hp → Prop, (∃ m, W1 0 m H4) ∧ ∀ j k H, W1 j k H →
      (J1.stop j H ∧ Nx H) ∨ (J1.go j H ∧ ∃ Nx1 : Hp → Prop, (∀ H', Nx1 H' → ∃ k', k' < k ∧ W1 (j + 1) k' H') ∧ ∀ x H', J1.yld j H x H' → g1 x (wipe σ2 vs1) H' fun σ3 H5 => wipe σ3 vs1 = wipe σ2 vs1 ∧ tt1 σ3 H5 fun b H6 =>
        if b = true then tk σ3 H6 fun y H7 => tv σ3 H7 fun z H8 => ∃ kvs k, y = kV k ∧ H8 D = some (.dK kvs) ∧ kvs.length < sizeLine ∧ Nx1 (upd H8 D (.dK (putK kvs k z))) else Nx1 H6)
    else Nx H3)
theorem dc2_core {pins : List (Addr × Obj)} {s : Shared} {σ : St} {H : Hp} {Q : VK} {kx vx tg iter tg1 iter1 : Expr} {ifs ifs1 : List Expr} {scope : Scope} {own : List (Str × Nat)} {vs1 : List Nat} {pos pos' : Pos} {wi wi1 : TI} {g g1 : TG} {tt tt1 : TT} {tk tv : TE} {use : Option (Value → Sem Unit)} {Qf : Value → Shared → Prop}
    (hc : X.calm = true) (hN : X.N.Nodup) (I : Inv X pins σ H s) (hi : PI X tg iter wi) (ok : BlkOk X.N X.env.scope scope own) (hv : ∀ i ∈ vs1, i ∈ own.map (·.2))
    (hg : ∀ (s : Shared) (H : Hp) (C : Addr) (cl : List (Str × Addr)) (fp : List Addr), PG (X.blk s H scope (compEnvC scope cl C X.env) fp) tg g) (ht : ∀ (s : Shared) (H : Hp) (C : Addr) (cl : List (Str × Addr)) (fp : List Addr), PTs (X.blk s H scope (compEnvC scope cl C X.env) fp) ifs tt)
    (hk : ∀ (s : Shared) (H : Hp) (C : Addr) (cl : List (Str × Addr)) (fp : List Addr), PE (X.blk s H scope (compEnvC scope cl C X.env) fp) kx tk) (he : ∀ (s : Shared) (H : Hp) (C : Addr) (cl : List (Str × Addr)) (fp : List Addr), PE (X.blk s H scope (compEnvC scope cl C X.env) fp) vx tv) (hs : ∀ x, foldedSetIterable iter X.env x = pure x)
    (hi1 : ∀ (s : Shared) (H : Hp) (C : Addr) (cl : List (Str × Addr)) (fp : List Addr), PI (X.blk s H scope (compEnvC scope cl C X.env) fp) tg1 iter1 wi1)
    (hg1 : ∀ (s : Shared) (H : Hp) (C : Addr) (cl : List (Str × Addr)) (fp : List Addr), PG (X.blk s H scope (compEnvC scope cl C X.env) fp) tg1 g1)
    (ht1 : ∀ (s : Shared) (H : Hp) (C : Addr) (cl : List (Str × Addr)) (fp : List Addr), PTs (X.blk s H scope (compEnvC scope cl C X.env) fp) ifs1 tt1)
    (hs1 : ∀ env x, foldedSetIterable iter1 env x = pure x)
    (h : tDc2 wi g tt wi1 g1 tt1 tk tv (own.map (·.2)) vs1 σ H Q)
    (hRR : ∀ D C s' m H', Inv X pins σ H' s' → Q (.ref D) H' → s'.heap.Ns C m → FpOk X pins H' C → compPost (model X.prog X.w) X.A X.xe use Qf (.ref D) C (.ok .next) s') :
    wpAny (model X.prog X.w) X.A (comprehension (.DictComp kx vx [⟨tg, iter, ifs, 0⟩, ⟨tg1, iter1, ifs1, 0⟩] scope pos) scope X.env pos' newDict false (eval iter X.env) use) Qf X.xe s := by
  have hfree : ∀ y ∈ scope.names, y.2 = .free → ∃ c, X.env.cells.lookup y.1 = some c := fun y hy e => by
    rcases ok.free y hy e with k | k
    · exact I.ok.has _ (.inl k)
    · exact I.ok.has _ (.inr k)
  refine wpAny_comprehension_free (use := use) rfl hs (closure_ok hfree) ok.kind (fun y hy e => by rw [ok.uniq y hy, e])
    (thn (hi.run pins s σ H _ I h) fun xv s1 hx => thn hx fun itv s2 h2 => ?_)
  obtain ⟨it, fp, tn, J, H2, e, I2, T, st2, f2, q⟩ := h2
  subst e
  refine wpAny_newObj_type (newEnv_comp ?_)
  generalize hD : s2.heap.objs.size = D
  have hDn : H2 D = none := I2.hok.fresh (Nat.le_of_eq hD)
  obtain ⟨W, ⟨m0, w0⟩, turn⟩ := q D hDn
  -- the new list
  generalize hs3 : ({ s2 with heap := s2.heap.push { cls := .type "dict", data := .dict #[] } } : Shared) = s3
  have I3 : Inv X pins σ (upd H2 D (.dK [])) s3 := by
    rw [← hs3]
    refine I2.laid (t' := s2.toks) (fun b o e => Heap.get?_push_of_some _ e) (Nat.le_of_eq hD) ?_
    rw [← hD]
    exact dk_empty s2.heap I2.big
  have h3 : s3.heap = s2.heap.push { cls := .type "dict", data := .dict #[] } := by rw [← hs3]
  have sz : ∀ b ∈ fp, b < s2.heap.objs.size := fun b hb => by
    obtain ⟨o, e, _⟩ := T.obj _ _ st2 b hb
    exact Heap.lt_size e
  have f3 : ∀ b ∈ fp, FpOk X pins (upd H2 D (.dK [])) b ∧ b < s3.heap.objs.size := fun b hb => by
    have hlt := sz b hb
    refine ⟨⟨?_, (f2 b hb).2⟩, by rw [h3, Heap.size_push]; exact Nat.lt_succ_of_lt hlt⟩
    rw [upd_ne (by rw [← hD]; exact Nat.ne_of_lt hlt)]
    exact (f2 b hb).1
  have st3 : tn 0 s3.heap := T.keep _ _ _ st2 fun b _ o e => by rw [h3]; exact Heap.get?_push_of_some _ e
  have I4 := block_start I3 ok hN f3
  have pg := hg s3 (upd H2 D (.dK [])) s3.heap.objs.size (cellsFrom (s3.heap.objs.size + 1) scope.names (cloFrom X.env.cells scope.names [])) fp
  have pt := ht s3 (upd H2 D (.dK [])) s3.heap.objs.size (cellsFrom (s3.heap.objs.size + 1) scope.names (cloFrom X.env.cells scope.names [])) fp
  have pk := hk s3 (upd H2 D (.dK [])) s3.heap.objs.size (cellsFrom (s3.heap.objs.size + 1) scope.names (cloFrom X.env.cells scope.names [])) fp
  have pe := he s3 (upd H2 D (.dK [])) s3.heap.objs.size (cellsFrom (s3.heap.objs.size + 1) scope.names (cloFrom X.env.cells scope.names [])) fp
  have pi1 := hi1 s3 (upd H2 D (.dK [])) s3.heap.objs.size (cellsFrom (s3.heap.objs.size + 1) scope.names (cloFrom X.env.cells scope.names [])) fp
  have pg1 := hg1 s3 (upd H2 D (.dK [])) s3.heap.objs.size (cellsFrom (s3.heap.objs.size + 1) scope.names (cloFrom X.env.cells scope.names [])) fp
  have pt1 := ht1 s3 (upd H2 D (.dK [])) s3.heap.objs.size (cellsFrom (s3.heap.objs.size + 1) scope.names (cloFrom X.env.cells scope.names [])) fp
  show codeAny _ _ (.compStart (.DictComp kx vx [⟨tg, iter, ifs, 0⟩, ⟨tg1, iter1, ifs1, 0⟩] scope pos) 0 (.ref it) (.ref D) (compEnvC scope (cellsFrom (s3.heap.objs.size + 1) scope.names (cloFrom X.env.cells scope.names [])) s3.heap.objs.size X.env)) (compPost (model X.prog X.w) X.A X.xe use Qf (.ref D) s3.heap.objs.size) { s3 with heap := pushCells (s3.heap.push { cls := .type "dict", data := .dict #[] }) scope.names }
  have nfp : ∀ b ∈ fp, (upd H2 D (.dK [])) b = none := fun b hb => (f3 b hb).1.1
  generalize hce : compEnvC scope (cellsFrom (s3.heap.objs.size + 1) scope.names (cloFrom X.env.cells scope.names [])) s3.heap.objs.size X.env = ce at I4 pg pt pk pe pi1 pg1 pt1 ⊢
  have cL : ce.locals = s3.heap.objs.size := by subst hce; rfl
  generalize hH3 : upd H2 D (.dK []) = H3 at I3 I4 pg pt pk pe pi1 pg1 pt1 w0 nfp f3
  generalize hs4 : ({ s3 with heap := pushCells (s3.heap.push { cls := .type "dict", data := .dict #[] }) scope.names } : Shared) = s4 at I4 ⊢
  have st4 : tn 0 s4.heap := T.keep _ _ _ st3 fun b _ o e => by rw [← hs4]; exact pushCells_keeps _ _ _ _ (Heap.get?_push_of_some _ e)
  have stat : ∀ {σ' : St} {H' : Hp} {s' : Shared}, Inv (X.blk s3 H3 scope ce fp) [] σ' H' s' → (∀ b ∈ fp, H' b = none) → ∀ b ∈ fp, FpOk (X.blk s3 H3 scope ce fp) [] H' b := fun {σ' H' s'} I' hn b hb =>
    ⟨hn b hb, (I'.ok.exf b hb).1, I'.ok.exfs b hb, .inl hb, fun x c e => (I'.ok.exf b hb).2 x c e, fun p hp => absurd (show p ∈ ([] : List (Addr × Obj)) ++ [] from hp) (by simp)⟩
  have loop : codeAny (model X.prog X.w) X.A (.compLoop (.DictComp kx vx [⟨tg, iter, ifs, 0⟩, ⟨tg1, iter1, ifs1, 0⟩] scope pos) 0 (.ref it) (.ref D) ce) (compPost (model X.prog X.w) X.A X.xe use Qf (.ref D) s3.heap.objs.size) s4 := by
    refine compLoop2D_out (hs1 ce) (fun n s' => ∃ i H', Inv (X.blk s3 H3 scope ce fp) [] (wipe σ (own.map (·.2))) H' s' ∧ tn i s'.heap ∧ (∀ b ∈ fp, H' b = none) ∧ W i n H') ?_ m0 ⟨0, H3, I4, st4, nfp, w0⟩
    rintro n s5 ⟨i, H5, I5, st5, n5, w5⟩
    rcases turn i n H5 w5 with ⟨stop, qq⟩ | ⟨go, Nx, hNx, step⟩
    · have td := T.done (X.blk s3 H3 scope ce fp) rfl rfl rfl hc i [] s5 _ H5 (fun _ _ => False) I5 (stat I5 n5) st5 stop
      refine thnF td fun r s6 ⟨hr, I6⟩ => ?_
      subst hr
      -- back in the def's context
      have I7 : Inv X pins σ H5 s6 := I3.call' (ch := fp) I6.os I6.base I6.hok I6.bare fun b hb => ⟨(f3 b hb).1.2.2.2.1, (f3 b hb).1.2.1, (f3 b hb).1.2.2.2.2.1, (f3 b hb).1.2.2.2.2.2⟩
      have nC : H5 s3.heap.objs.size = none := by
        have z : H5 ce.locals = none := I6.free
        rw [cL] at z
        exact z
      obtain ⟨m, hn, _⟩ := I6.loc
      have hn : s6.heap.Ns ce.locals m := hn
      rw [cL] at hn
      exact hRR D s3.heap.objs.size s6 m H5 I7 qq hn (I3.fpOk (Nat.le_refl _) nC)
    · have ti := T.item (X.blk s3 H3 scope ce fp) rfl rfl rfl hc i [] s5 _ H5 (fun _ _ => False) I5 (stat I5 n5) st5 go
      refine thnF ti fun r s6 ⟨u, hr, h6⟩ => ?_
      subst hr
      refine thnF h6 fun _ s7 ⟨x, H7, I7, r7, y7, st7, n7⟩ => ?_
      have I7' := I7.pinned (stat I7 n7) (T.obj _ _ st7)
      refine thnF (pg.run _ s7 _ H7 x u _ I7' r7 (step x H7 y7)) fun _ s8 ⟨σ8, H8, I8, hw8, q8⟩ => ?_
      refine thnF (pt.run _ s8 σ8 H8 _ I8 q8) fun b s9 ⟨H9, I9, q9⟩ => ?_
      -- the turn's end, from any slots that know what the block knew at its start
      have fin : ∀ {σ9 : St} {s' : Shared} {H' : Hp}, Inv (X.blk s3 H3 scope ce fp) ([] ++ pinsAt fp s7.heap) σ9 H' s' → (wipe σ (own.map (·.2))).length = σ9.length → (∀ (j : Nat) v, (wipe σ (own.map (·.2)))[j]? = some (some v) → σ9[j]? = some (some v)) → Nx H' →
          ∃ m, m < n ∧ ∃ i H', Inv (X.blk s3 H3 scope ce fp) [] (wipe σ (own.map (·.2))) H' s' ∧ tn i s'.heap ∧ (∀ b ∈ fp, H' b = none) ∧ W i m H' := fun {σ9 s' H'} I' hl hk nx => by
        obtain ⟨m', hm, w'⟩ := hNx H' nx
        have pin' : ∀ b ∈ fp, ∀ o, s7.heap.get? b = some o → s'.heap.get? b = some o ∧ H' b = none := fun b hb o e =>
          let z := I'.pin (b, o) (List.mem_append_right _ (List.mem_append_right _ (mem_pinsAt hb e)))
          ⟨z.1, z.2.1⟩
        refine ⟨m', hm, i + 1, H', (I'.unpinned (pins := [])).weak hl hk, T.keep _ _ _ st7 fun b hb o e => (pin' b hb o e).1, fun b hb => ?_, w'⟩
        obtain ⟨o, e, _⟩ := T.obj _ _ st7 b hb
        exact (pin' b hb o e).2
      have hl8 : (wipe σ (own.map (·.2))).length = σ8.length := by rw [← hw8, wipe_length]
      have hk8 : ∀ (j : Nat) v, (wipe σ (own.map (·.2)))[j]? = some (some v) → σ8[j]? = some (some v) := fun j v e => by
        rw [← hw8] at e
        exact (wipe_some e).1
      have hk9 : ∀ (j : Nat) v, (wipe σ (own.map (·.2)))[j]? = some (some v) → (wipe σ8 vs1)[j]? = some (some v) := fun j v e => by
        rw [← hw8] at e
        obtain ⟨e1, e2⟩ := wipe_some e
        rw [wipe_out fun z => e2 (hv j z)]
        exact e1
      cases b with
      | false =>
        simp only [Bool.false_eq_true, if_false] at q9 ⊢
        exact fin I9 hl8 hk8 q9
      | true =>
        simp only [if_true] at q9 ⊢
        refine thnF (pi1.run _ s9 σ8 H9 _ I9 q9) fun xv s10 hx => thnF hx fun itv s11 h11 => ?_
        obtain ⟨it1, fp1, tn1, J1, H11, e1, I11, T1, st11, f11, W1, ⟨m1, w1⟩, turn1⟩ := h11
        subst e1
        -- the inner loop
        have stat1 : ∀ {H' : Hp}, (∀ b ∈ fp1, H' b = none) → ∀ b ∈ fp1, FpOk (X.blk s3 H3 scope ce fp) ([] ++ pinsAt fp s7.heap) H' b := fun hn b hb => ⟨hn b hb, (f11 b hb).2⟩
        have loop1 : codeAny (model X.prog X.w) X.A (.compLoop (.DictComp kx vx [⟨tg, iter, ifs, 0⟩, ⟨tg1, iter1, ifs1, 0⟩] scope pos) 1 (.ref it1) (.ref D) ce)
            (fun r s' => match r with
              | .ok _ => ∃ m, m < n ∧ ∃ i H', Inv (X.blk s3 H3 scope ce fp) [] (wipe σ (own.map (·.2))) H' s' ∧ tn i s'.heap ∧ (∀ b ∈ fp, H' b = none) ∧ W i m H'
              | .error _ => False) s11 := by
          refine compLoop2D_in (fun k s' => ∃ j H', Inv (X.blk s3 H3 scope ce fp) ([] ++ pinsAt fp s7.heap) (wipe σ8 vs1) H' s' ∧ tn1 j s'.heap ∧ (∀ b ∈ fp1, H' b = none) ∧ W1 j k H') ?_ m1 ⟨0, H11, I11.weak (wipe_length _ _) (fun j v e => (wipe_some e).1), st11, fun b hb => (f11 b hb).1, w1⟩
          rintro k s12 ⟨j, H12, I12, st12, n12, w12⟩
          rcases turn1 j k H12 w12 with ⟨stop1, nx1⟩ | ⟨go1, Nx1, hNx1, step1⟩
          · refine thnF (T1.done (X.blk s3 H3 scope ce fp) rfl rfl rfl hc j _ s12 (wipe σ8 vs1) H12 (fun _ _ => False) I12 (stat1 n12) st12 stop1) fun r s13 ⟨hr, I13⟩ => ?_
            subst hr
            exact fin I13 (hl8.trans (wipe_length σ8 vs1).symm) hk9 nx1
          · refine thnF (T1.item (X.blk s3 H3 scope ce fp) rfl rfl rfl hc j _ s12 (wipe σ8 vs1) H12 (fun _ _ => False) I12 (stat1 n12) st12 go1) fun r s13 ⟨u1, hr, h13⟩ => ?_
            subst hr
            refine thnF h13 fun _ s14 ⟨x1, H14, I14, r14, y14, st14, n14⟩ => ?_
            have I14' := I14.pinned (stat1 n14) (T1.obj _ _ st14)
            refine thnF (pg1.run _ s14 (wipe σ8 vs1) H14 x1 u1 _ I14' r14 (step1 x1 H14 y14)) fun _ s15 ⟨σ15, H15, I15, hw15, q15⟩ => ?_
            refine thnF (pt1.run _ s15 σ15 H15 _ I15 q15) fun b1 s16 ⟨H16, I16, q16⟩ => ?_
            have fin1 : ∀ {s' : Shared} {H' : Hp}, Inv (X.blk s3 H3 scope ce fp) (([] ++ pinsAt fp s7.heap) ++ pinsAt fp1 s14.heap) σ15 H' s' → Nx1 H' → ∃ m, m < k ∧ ∃ j H', Inv (X.blk s3 H3 scope ce fp) ([] ++ pinsAt fp s7.heap) (wipe σ8 vs1) H' s' ∧ tn1 j s'.heap ∧ (∀ b ∈ fp1, H' b = none) ∧ W1 j m H' := fun {s' H'} I' nx => by
              obtain ⟨m', hm, w'⟩ := hNx1 H' nx
              have pin' : ∀ b ∈ fp1, ∀ o, s14.heap.get? b = some o → s'.heap.get? b = some o ∧ H' b = none := fun b hb o e =>
                let z := I'.pin (b, o) (List.mem_append_right _ (List.mem_append_right _ (mem_pinsAt hb e)))
                ⟨z.1, z.2.1⟩
              refine ⟨m', hm, j + 1, H', I'.unpinned.weak (by rw [← hw15, wipe_length]) (fun j v e => by rw [← hw15] at e; exact (wipe_some e).1), T1.keep _ _ _ st14 fun b hb o e => (pin' b hb o e).1, fun b hb => ?_, w'⟩
              obtain ⟨o, e, _⟩ := T1.obj _ _ st14 b hb
              exact (pin' b hb o e).2
            cases b1 with
            | false =>
              simp only [Bool.false_eq_true, if_false] at q16 ⊢
              exact fin1 I16 q16
            | true =>
              simp only [if_true] at q16 ⊢
              refine thnF (pk.run _ s16 σ15 H16 _ I16 q16) fun z s17 ⟨yk, H17, I17, r17, q17⟩ => ?_
              refine thnF (pe.run _ s17 σ15 H17 _ I17 q17) fun z2 s18 ⟨yv, H18, I18, r18, kvs, k, ek, hD18, hz18, nx⟩ => ?_
              subst ek
              exact d_dictSet (X := X.blk s3 H3 scope ce fp) I18 hD18 hz18 r17 r18 fun s19 I19 => fin1 I19 nx
        exact compStart1D_ok loop1 (T1.self X.A 0 _ _ _ st11 loop1)
  exact codeAny_compStart_dict loop (T.self X.A 0 _ _ _ st4 loop)
/-- as a value -/
theorem pe_dc2 {kx vx tg iter tg1 iter1 : Expr} {ifs ifs1 : List Expr} {scope : Scope} {own : List (Str × Nat)} {vs1 : List Nat} {pos : Pos} {wi wi1 : TI} {g g1 : TG} {tt tt1 : TT} {tk tv : TE} (hc : X.calm = true) (hN : X.N.Nodup) (hi : PI X tg iter wi) (ok : BlkOk X.N X.env.scope scope own) (hv : ∀ i ∈ vs1, i ∈ own.map (·.2))
    (hg : ∀ (s : Shared) (H : Hp) (C : Addr) (cl : List (Str × Addr)) (fp : List Addr), PG (X.blk s H scope (compEnvC scope cl C X.env) fp) tg g) (ht : ∀ (s : Shared) (H : Hp) (C : Addr) (cl : List (Str × Addr)) (fp : List Addr), PTs (X.blk s H scope (compEnvC scope cl C X.env) fp) ifs tt)
    (hi1 : ∀ (s : Shared) (H : Hp) (C : Addr) (cl : List (Str × Addr)) (fp : List Addr), PI (X.blk s H scope (compEnvC scope cl C X.env) fp) tg1 iter1 wi1)
    (hg1 : ∀ (s : Shared) (H : Hp) (C : Addr) (cl : List (Str × Addr)) (fp : List Addr), PG (X.blk s H scope (compEnvC scope cl C X.env) fp) tg1 g1) (ht1 : ∀ (s : Shared) (H : Hp) (C : Addr) (cl : List (Str × Addr)) (fp : List Addr), PTs (X.blk s H scope (compEnvC scope cl C X.env) fp) ifs1 tt1)
    (hk : ∀ (s : Shared) (H : Hp) (C : Addr) (cl : List (Str × Addr)) (fp : List Addr), PE (X.blk s H scope (compEnvC scope cl C X.env) fp) kx tk) (he : ∀ (s : Shared) (H : Hp) (C : Addr) (cl : List (Str × Addr)) (fp : List Addr), PE (X.blk s H scope (compEnvC scope cl C X.env) fp) vx tv) (hs : ∀ x, foldedSetIterable iter X.env x = pure x := by intro _; rfl) (hs1 : ∀ env x, foldedSetIterable iter1 env x = pure x := by intro _ _; rfl) :
    PE X (.DictComp kx vx [⟨tg, iter, ifs, 0⟩, ⟨tg1, iter1, ifs1, 0⟩] scope pos) (tDc2 wi g tt wi1 g1 tt1 tk tv (own.map (·.2)) vs1) := by
  refine ⟨fun pins s σ H Q I h => ?_⟩
  rw [arm_eval_DictComp]
  refine dc2_core hc hN I hi ok hv hg ht hk he hs hi1 hg1 ht1 hs1 h fun D C s' m H' I' q hn f => ⟨m, hn, fun h'' sb => ?_⟩
  obtain ⟨f0, f1, f2, f3, f4, f5⟩ := f
  exact ⟨.ref D, H', I'.turned (t' := s'.toks) (fun b o hb e => (sb.2 b hb).trans e) f0 f1 f3 f4 f5, rfl, q⟩
end
end L2
namespace SL
open PySem PySem.Spec PyProof.Rows L2
section
variable {J J1 : It} {n n1 : Nat} {G G1 : Hp → Prop} {Y Y1 : Nat → Hp → V → Hp → Prop} {K : PySem.W.Frag}
theorem dc2_out (w : Walk J n G Y) {g g1 : TG} {tt tt1 : TT} {wi1 : TI} {tk tv : TE} {vs vs1 : List Nat} {σ : L2.St} {H1 : Hp} {D : Addr} {Qd : Hp → Prop} (Pv : Nat → Hp → Prop) (h0 : Pv 0 (upd H1 D (.dK []))) (hG : ∀ i H, i ≤ n → Pv i H → G H)
    (hs : ∀ i x H H', i < n → Pv i H → Y i H x H' → g x (wipe σ vs) H' fun σ2 H2 => wipe σ2 vs = wipe σ vs ∧ tt σ2 H2 fun b H3 =>
      if b = true then wi1 σ2 H3 fun J1 H4 => ∃ W1 : Nat → Nat → Hp → Prop, (∃ m, W1 0 m H4) ∧ ∀ j k H, W1 j k H →
        (J1.stop j H ∧ Pv (i + 1) H) ∨ (J1.go j H ∧ ∃ Nx1 : Hp → Prop, (∀ H', Nx1 H' → ∃ k', k' < k ∧ W1 (j + 1) k' H') ∧ ∀ x H', J1.yld j H x H' → g1 x (wipe σ2 vs1) H' fun σ3 H5 => wipe σ3 vs1 = wipe σ2 vs1 ∧ tt1 σ3 H5 fun b H6 =>
          if b = true then tk σ3 H6 fun y H7 => tv σ3 H7 fun z H8 => ∃ kvs k, y = kV k ∧ H8 D = some (.dK kvs) ∧ kvs.length < sizeLine ∧ Nx1 (upd H8 D (.dK (putK kvs k z))) else Nx1 H6)
      else Pv (i + 1) H3) (hd : ∀ H, Pv n H → Qd H) :
    ∃ W : Nat → Nat → Hp → Prop, (∃ m, W 0 m (upd H1 D (.dK []))) ∧ ∀ i m H, W i m H →
      (J.stop i H ∧ Qd H) ∨ (J.go i H ∧ ∃ Nx : Hp → Prop, (∀ H', Nx H' → ∃ m', m' < m ∧ W (i + 1) m' H') ∧ ∀ x H', J.yld i H x H' → g x (wipe σ vs) H' fun σ2 H2 => wipe σ2 vs = wipe σ vs ∧ tt σ2 H2 fun b H3 =>
        if b = true then wi1 σ2 H3 fun J1 H4 => ∃ W1 : Nat → Nat → Hp → Prop, (∃ m, W1 0 m H4) ∧ ∀ j k H, W1 j k H →
          (J1.stop j H ∧ Nx H) ∨ (J1.go j H ∧ ∃ Nx1 : Hp → Prop, (∀ H', Nx1 H' → ∃ k', k' < k ∧ W1 (j + 1) k' H') ∧ ∀ x H', J1.yld j H x H' → g1 x (wipe σ2 vs1) H' fun σ3 H5 => wipe σ3 vs1 = wipe σ2 vs1 ∧ tt1 σ3 H5 fun b H6 =>
            if b = true then tk σ3 H6 fun y H7 => tv σ3 H7 fun z H8 => ∃ kvs k, y = kV k ∧ H8 D = some (.dK kvs) ∧ kvs.length < sizeLine ∧ Nx1 (upd H8 D (.dK (putK kvs k z))) else Nx1 H6)
        else Nx H3) := by
  refine ⟨fun i m H => m = n - i ∧ i ≤ n ∧ Pv i H, ⟨n, by simp, Nat.zero_le _, h0⟩, ?_⟩
  rintro i m H ⟨rfl, hi, p⟩
  have q := hG i H hi p
  by_cases hlt : i < n
  · exact .inr ⟨w.goes i H hlt q, Pv (i + 1), fun H' p' => ⟨n - (i + 1), by omega, rfl, hlt, p'⟩, fun x H' y => hs i x H H' hlt p (w.yields i H x H' hlt q y)⟩
  · have e : i = n := by omega
    subst e
    exact .inl ⟨w.stops H q, hd H p⟩
/-- .. the inner one -/
theorem dc2_in (w : Walk J1 n1 G1 Y1) {g1 : TG} {tt1 : TT} {tk tv : TE} {vs1 : List Nat} {σ2 : L2.St} {H4 : Hp} {D : Addr} {Nx : Hp → Prop} (Pv : Nat → Hp → Prop) (h0 : Pv 0 H4) (hG : ∀ i H, i ≤ n1 → Pv i H → G1 H)
    (hs : ∀ i x H H', i < n1 → Pv i H → Y1 i H x H' → g1 x (wipe σ2 vs1) H' fun σ3 H5 => wipe σ3 vs1 = wipe σ2 vs1 ∧ tt1 σ3 H5 fun b H6 =>
      if b = true then tk σ3 H6 fun y H7 => tv σ3 H7 fun z H8 => ∃ kvs k, y = kV k ∧ H8 D = some (.dK kvs) ∧ kvs.length < sizeLine ∧ Pv (i + 1) (upd H8 D (.dK (putK kvs k z))) else Pv (i + 1) H6) (hd : ∀ H, Pv n1 H → Nx H) :
    ∃ W1 : Nat → Nat → Hp → Prop, (∃ m, W1 0 m H4) ∧ ∀ j k H, W1 j k H →
      (J1.stop j H ∧ Nx H) ∨ (J1.go j H ∧ ∃ Nx1 : Hp → Prop, (∀ H', Nx1 H' → ∃ k', k' < k ∧ W1 (j + 1) k' H') ∧ ∀ x H', J1.yld j H x H' → g1 x (wipe σ2 vs1) H' fun σ3 H5 => wipe σ3 vs1 = wipe σ2 vs1 ∧ tt1 σ3 H5 fun b H6 =>
        if b = true then tk σ3 H6 fun y H7 => tv σ3 H7 fun z H8 => ∃ kvs k, y = kV k ∧ H8 D = some (.dK kvs) ∧ kvs.length < sizeLine ∧ Nx1 (upd H8 D (.dK (putK kvs k z))) else Nx1 H6) := by
  refine ⟨fun i m H => m = n1 - i ∧ i ≤ n1 ∧ Pv i H, ⟨n1, by simp, Nat.zero_le _, h0⟩, ?_⟩
  rintro i m H ⟨rfl, hi, p⟩
  have q := hG i H hi p
  by_cases hlt : i < n1
  · exact .inr ⟨w.goes i H hlt q, Pv (i + 1), fun H' p' => ⟨n1 - (i + 1), by omega, rfl, hlt, p'⟩, fun x H' y => hs i x H H' hlt p (w.yields i H x H' hlt q y)⟩
  · have e : i = n1 := by omega
    subst e
    exact .inl ⟨w.stops H q, hd H p⟩
end
section
variable {σ : L2.St} {H : Hp} {Q : VK} {wi wi1 : TI} {g g1 : TG} {tt tt1 : TT} {te tk tv : TE} {vs vs1 : List Nat}
theorem g_dc2 (q : wi σ H fun J H1 => ∀ D, H1 D = none → ∃ W : Nat → Nat → Hp → Prop, (∃ m, W 0 m (upd H1 D (.dK []))) ∧ ∀ i m H, W i m H →
      (J.stop i H ∧ Q (.ref D) H) ∨ (J.go i H ∧ ∃ Nx : Hp → Prop, (∀ H', Nx H' → ∃ m', m' < m ∧ W (i + 1) m' H') ∧ ∀ x H', J.yld i H x H' → g x (wipe σ vs) H' fun σ2 H2 => wipe σ2 vs = wipe σ vs ∧ tt σ2 H2 fun b H3 =>
        if b = true then wi1 σ2 H3 fun J1 H4 => ∃ W1 : Nat → Nat → Hp → Prop, (∃ m, W1 0 m H4) ∧ ∀ j k H, W1 j k H →
          (J1.stop j H ∧ Nx H) ∨ (J1.go j H ∧ ∃ Nx1 : Hp → Prop, (∀ H', Nx1 H' → ∃ k', k' < k ∧ W1 (j + 1) k' H') ∧ ∀ x H', J1.yld j H x H' → g1 x (wipe σ2 vs1) H' fun σ3 H5 => wipe σ3 vs1 = wipe σ2 vs1 ∧ tt1 σ3 H5 fun b H6 =>
            if b = true then tk σ3 H6 fun y H7 => tv σ3 H7 fun z H8 => ∃ kvs k, y = kV k ∧ H8 D = some (.dK kvs) ∧ kvs.length < sizeLine ∧ Nx1 (upd H8 D (.dK (putK kvs k z))) else Nx1 H6)
        else Nx H3)) : tDc2 wi g tt wi1 g1 tt1 tk tv vs vs1 σ H Q := q
theorem g_ienT {K : PySem.W.Frag} {R : It → Hp → Prop} {ta : TA} (q : ta σ H fun vs H1 => ∃ a xs, vs = [.ref a] ∧ SqT K H1 a xs ∧ R (IteT K a) H1) : iEnumT K ta σ H R := q
end
end SL

set_option Elab.async false
set_option linter.all false
set_option maxRecDepth 100000
set_option maxHeartbeats 2000000
/-! # SL11: sorted(xs, key=f), f a def whose keys are alike data -/
namespace SL
open PySem PySem.Spec PySem.W PyProof.Rows
/-! ### keys that are tuples, some of them empty -/
section
variable {prog : Program} {w : World} {A : Around} {s : Shared}
def hasFirst : PyData → Bool
  | .tuple (_ :: _) => true
  | _ => false
theorem firsts_of {M : Model} {E : Value → Shared → Prop} : ∀ {vs : List Value} {ds : List PyData}, EachIs (fun v d => ∃ as, Reads s.heap v d as) vs ds → (∀ d ∈ ds, ∃ xs, d = .tuple xs) →
    ∃ fs : List (Option Value), fs.map (·.isSome) = ds.map hasFirst ∧ ∀ {Q : List (Option Value) → Shared → Prop}, Q fs s → wpAny M A (vs.mapM firstOfTuple') Q E s
  | _, _, .nil, _ => ⟨[], rfl, fun {Q} h => by rw [List.mapM_nil]; exact wpAny_pure h⟩
  | v :: vs, d :: ds, .cons ⟨as, r⟩ t, ht => by
    obtain ⟨fs, h1, h2⟩ := firsts_of (M := M) (E := E) t fun d hd => ht d (List.mem_cons_of_mem _ hd)
    obtain ⟨xs, rfl⟩ := ht d List.mem_cons_self
    cases r with
    | @tuple a o its n _ _ ho hc hd hr =>
      refine ⟨its[0]? :: fs, ?_, fun {Q} h => ?_⟩
      · rw [List.map_cons, List.map_cons, h1]
        congr 1
        have e : its[0]? = its.toList[0]? := by rw [Array.getElem?_toList]
        rw [e]
        generalize its.toList = l at hr ⊢
        cases hr with
        | nil => rfl
        | cons r1 r2 => rfl
      · rw [List.mapM_cons]
        refine wpAny_bind ?_
        rw [kas_first_eq]
        refine wpAny_bind (Looks.here (show Looks M s.heap (typeOf (.ref a)) o.cls from (Looks.ld ho).andThen .now) ?_)
        rw [hc, if_neg (by first | decide | simp)]
        refine wpAny_bind (listItems_at ho hd (wpAny_pure ?_))
        exact wpAny_bind (h2 (Q := fun bs s' => wpAny M A (pure (its[0]? :: bs)) Q E s') (wpAny_pure h))
/-- two tuples, by tuple's own __lt__ -/
theorem oneLt_tup {f : Bool} {xs ys : List PyData} {a b : Value} {as bs : List Addr} {E : Value → Shared → Prop} {Q : Bool → Shared → Prop} (ra : Reads s.heap a (.tuple xs) as) (rb : Reads s.heap b (.tuple ys) bs) (h : alike (.tuple xs) (.tuple ys) = true)
    (hu : A.units + min (PyData.tuple xs).depth (PyData.tuple ys).depth < cLine) (hq : Q (dataLt (.tuple xs) (.tuple ys)) s) : wpAny (model prog w) A (oneLt' f a b) Q E s := by
  cases f with
  | false => exact oneLt_alike (fun z => nomatch z) ra rb h (fun z => nomatch z) hu hq
  | true =>
    have hal : alikeAll xs ys = true := by simpa [alike] using h
    cases ra with
    | @tuple l o vs n _ as₁ h1 h2 h3 h4 =>
      cases rb with
      | @tuple l' o' vs' n' _ bs₁ k1 k2 k3 k4 =>
        have n1 : vs.size = xs.length := by simpa using SeqAt.ReadsAll.length _ _ _ h4
        have n2 : vs'.size = ys.length := by simpa using SeqAt.ReadsAll.length _ _ _ k4
        rw [dataLt_tuple, ← firstLt_toks xs ys hal, ← n1, ← n2] at hq
        rw [oneLt'_eq]
        simp only [if_true]
        refine wpAny_bind (wpAny_cRoomFor (SeqAt.room_here hu) ?_)
        obtain ⟨cls, dd, data, sl⟩ := o
        obtain ⟨cls2, dd2, data2, sl2⟩ := o'
        simp only at h2 h3 k2 k3
        subst h2 h3 k2 k3
        refine wpAny_bind (wpAny_callSpecialIfBound?_slot (T := "tuple") ⟨_, h1, rfl⟩ F.slot_tuple_lt (call_meets F.slot_tuple_lt ⟨_, h1, rfl⟩ F.entry_tuple_lt (F.args_tuple_lt_2 _ _)
          (SeqAt.tuple_ltAt l l' vs vs' n n' dd dd2 sl sl2 (SeqAt.pairEq xs ys) (fun j => dataLt (xs.getD j .none) (ys.getD j .none))) ⟨h1, k1, fun j j1 j2 => ?_, fun j j1 j2 hj => ?_, wpAny_truthy_bool hq⟩))
        · have := eqAt_alikeAll xs ys A.in1 s vs.toList vs'.toList _ _ h4 k4 hal (SeqAt.room_in hu) j (by simpa using j1) (by simpa using j2)
          simpa using this
        · have := rcLt_alikeAll xs ys A.in1 s vs.toList vs'.toList _ _ h4 k4 hal (SeqAt.room_in hu) j (by simpa using j1) (by simpa using j2) hj
          simpa using this
theorem sortsAt_tups {vs : List Value} {ds : List PyData} (e : EachIs (fun v d => ∃ as, Reads s.heap v d as) vs ds) (hal : AllAlike ds) (ht : ∀ d ∈ ds, ∃ xs, d = .tuple xs) (hu : ∀ d, d ∈ ds → A.units + d.depth < cLine) : SortsAt prog w A s (dataKind s.heap ds) vs := by
  by_cases hall : ds.map hasFirst = ds.map fun _ => true
  · refine SortsAt.data e hal (.inl fun d hd => ?_) hu
    obtain ⟨xs, rfl⟩ := ht d hd
    have := List.map_inj_left.mp hall _ hd
    cases xs with
    | nil => cases this
    | cons x r => exact ⟨x, r, rfl⟩
  · have lt : ∀ f : Bool, ∀ (E : Value → Shared → Prop) (x y : Value) (a b : (dataKind s.heap ds).α) {Q : Bool → Shared → Prop}, (dataKind s.heap ds).keyOf x = some a → (dataKind s.heap ds).keyOf y = some b → Q ((dataKind s.heap ds).blt a b) s → wpAny (model prog w) A (oneLt' f x y) Q E s := by
      intro f E x y a b Q ha hb hq
      obtain ⟨d, as, hd, ra, rfl⟩ := dataKind_inv ha
      obtain ⟨d', as', hd', rb, rfl⟩ := dataKind_inv hb
      obtain ⟨xs, rfl⟩ := ht d hd
      obtain ⟨ys, rfl⟩ := ht d' hd'
      exact oneLt_tup ra rb (hal _ hd _ hd') (Nat.lt_of_le_of_lt (Nat.add_le_add_left (Nat.min_le_left _ _) _) (hu _ hd)) hq
    refine ⟨fun v hv => ?_, ?_⟩
    · obtain ⟨d, hd, as, r⟩ := e.left v hv
      exact ⟨_, dataKind_some hal hd r⟩
    · have looks : ∀ v ∈ vs, Looks (model prog w) s.heap (typeOf v) (.type "tuple") := fun v hv => by
        obtain ⟨d, hd, as, r⟩ := e.left v hv
        obtain ⟨xs, rfl⟩ := ht d hd
        exact looks_reads r
      have kind : ∀ (E : Value → Shared → Prop) {Q : SortKind → Shared → Prop}, 2 ≤ vs.length → Q (if hasFirst (ds.headD .none) = true then general' else oneType') s → wpAny (model prog w) A (keyKind' vs.toArray) Q E s := by
        intro E Q h2 hq
        obtain ⟨fs, f1, f2⟩ := firsts_of (M := model prog w) (A := A) (E := E) e ht
        rw [kat_kind_eq, List.mapM_toArray, map_eq_pure_bind]
        refine wpAny_bind (wpAny_bind (f2 (wpAny_pure ?_)))
        have hn : ¬ (fs.toArray.all fun x => x.isSome) = true := fun z => hall (by
          rw [← f1]
          refine List.ext_getElem (by rw [List.length_map, List.length_map]; have := congrArg List.length f1; rw [List.length_map, List.length_map] at this; exact this) fun i h1 h2 => ?_
          rw [List.getElem_map, List.getElem_map]
          rw [List.all_toArray, List.all_eq_true] at z
          exact z _ (List.getElem_mem _))
        rw [if_neg hn]
        have h0 : (fs.toArray[0]?.bind id).isSome = hasFirst (ds.headD .none) := by
          cases fs with
          | nil =>
            cases ds with
            | nil => rfl
            | cons d r => simp at f1
          | cons f r =>
            cases ds with
            | nil => simp at f1
            | cons d r2 =>
              have := List.cons.inj f1
              simp [← this.1]
        rw [h0]
        by_cases c : hasFirst (ds.headD .none) = true
        · rw [if_pos c] at hq ⊢
          exact wpAny_pure hq
        · rw [if_neg c] at hq ⊢
          rw [oneTypeOnly'_eq, List.mapM_toArray, map_eq_pure_bind]
          refine wpAny_bind (wpAny_bind (wpAny_bind (kas_mapM (r := Value.type "tuple") _ (fun v hv Q' hq => (looks v hv).here hq) (wpAny_pure ?_))))
          have hall2 : ((List.map (fun _ => Value.type "tuple") vs).toArray.all fun x => x == Value.type "tuple") = true := by
            simp only [List.all_toArray, List.all_map, List.all_eq_true]
            intro _ _
            rfl
          obtain ⟨v0, vr, rfl⟩ : ∃ v0 vr, vs = v0 :: vr := by
            cases vs with
            | nil => simp at h2
            | cons v0 vr => exact ⟨v0, vr, rfl⟩
          have h0 : (List.map (fun _ => Value.type "tuple") (v0 :: vr)).toArray[0]? = some (Value.type "tuple") := by simp
          rw [h0]
          simp only [hall2, if_true]
          exact wpAny_pure (wpAny_pure hq)
      by_cases c : hasFirst (ds.headD .none) = true
      · exact ⟨general', fun E x y a b Q ha hb hq => lt false E x y a b ha hb hq, fun h2 E Q hq => kind E h2 (by rw [if_pos c]; exact hq)⟩
      · exact ⟨oneType', fun E x y a b Q ha hb hq => by rw [keyLt'_oneType]; exact lt true E x y a b ha hb hq, fun h2 E Q hq => kind E h2 (by rw [if_neg c]; exact hq)⟩
end
open L2
/-- the things xs, sorted by their keys' data ds -/
def sortK (xs : List V) (ds : List PyData) : List V := ((xs.zip ds).mergeSort (dataLe false Prod.snd)).map Prod.fst
/-- a key function gives, of each thing, its data -/
def Keys (sp : Sp) (K : PySem.W.Frag) (H : Hp) (xs : List V) (ds : List PyData) : Prop :=
  ∀ (j : Nat) (x : V) (d : PyData), xs[j]? = some x → ds[j]? = some d → ∀ (H' : Hp) (Q : VK), SL.Fr [] H H' → (∀ y H2, SL.Fr [] H' H2 → Dp K H2 y d → Q y H2) → sp [x] H' Q E0
theorem vals_back {j : Nat} {u : Value} : ∀ {i : Nat} {xs : List V} {us : List Value}, Vals xs us → us[i]? = some u → ∃ x, xs[i]? = some x ∧ RelV x u
  | _, _, _, .nil, e => by simp at e
  | 0, _, _, .cons r _, e => by simp at e; subst e; exact ⟨_, rfl, r⟩
  | i + 1, _, _, .cons _ t, e => by
    obtain ⟨x, h1, h2⟩ := vals_back (j := j) (i := i) t (by simpa using e)
    exact ⟨x, by simpa using h1, h2⟩
theorem vals_each : ∀ {xs : List V} {us : List Value} {ds : List PyData}, Vals xs us → xs.length = ds.length → EachIs (fun u (b : V × PyData) => RelV b.1 u) us (xs.zip ds)
  | _, _, [], .nil, _ => .nil
  | _, _, _ :: _, .nil, h => by simp at h
  | _, _, [], .cons _ _, h => by simp at h
  | _, _, _ :: _, .cons r t, h => .cons r (vals_each t (by simpa using h))
theorem each_vals : ∀ {us : List Value} {bs : List (V × PyData)}, EachIs (fun u (b : V × PyData) => RelV b.1 u) us bs → Vals (bs.map Prod.fst) us
  | _, _, .nil => .nil
  | _, _, .cons r t => .cons r (each_vals t)
theorem dpa_snoc {K : PySem.W.Frag} {H : Hp} : ∀ {vs : List V} {ds : List PyData} {v : V} {d : PyData}, DpAll K H vs ds → Dp K H v d → DpAll K H (vs ++ [v]) (ds ++ [d])
  | _, _, _, _, .nil, h => .cons h .nil
  | _, _, _, _, .cons a b, h => .cons a (dpa_snoc b h)
theorem get?_freed (h : Heap) (a : Addr) : (h.update a fun o => { o with data := .freed }).get? a = none := by
  unfold Heap.get?
  rw [Heap.objs_update_self]
  cases h.objs[a]? with
  | none => rfl
  | some o => rfl
section
variable {X : Cx} {pins : List (Addr × Obj)} {σ : L2.St} {H : Hp} {s : Shared} {f : Addr} {fd : FuncData} {ps : List Str} {sp : Sp} {k : Nat}
theorem call_in2 {x : V} {u : Value} {Q : VK} (F : FnG X.prog X.w X.K X.mg X.base CX0 k f fd ps sp) (hr : RoomG (k + 2) X.A) (hb : Binds X.K fd ps []) (I : Inv X pins σ H s) (r : RelV x u) (h : sp [x] H Q E0) :
    wpAny (model X.prog X.w) X.A.in1.in1 (call (.ref f) [u]) (EP X pins σ Q) (fun _ _ => False) s := by
  have ln : [u].length = ps.length := F.len _ _ _ _ h
  refine wpAny_call (codeAny_mono (F.go X.A.in1.in1 X.stack s H ⟨[u], []⟩ [u] [x] Q E0 ⟨hr.rm.in1.in1, hr.gd⟩ I.env0.in1.in1 (hb s [u] I.kIn ln) (.cons r .nil) h) fun res s2 hq => ?_)
  cases res with
  | ok fl =>
    cases fl with
    | ret u => exact I.after hq
    | _ => exact hq.elim
  | error z => exact hq.elim
theorem sort_rest {a kS : Addr} {e1 : Nat} {its : List Value} {xs : List V} {ds : List PyData} {E : Value → Shared → Prop} {P : PySem.Fin → Shared → Prop} (F : FnG X.prog X.w X.K X.mg X.base CX0 k f fd ps sp) (hr : RoomG (k + 2) X.A) (hb : Binds X.K fd ps [])
    (I : Inv X (pins ++ [(a, seqObj "list" #[] e1), (kS, seqObj "list" #[] 0)]) σ H s) (fa : FpOk X pins H a) (fk : FpOk X pins H kS) (hne : kS ≠ a) (rv : Vals xs its) (hz : xs.length ≤ sizeLine) (hn : xs.length = ds.length)
    (hal : AllAlike ds) (hk : (∀ d ∈ ds, ∃ ys, d = .tuple ys) ∨ Sortable ds) (hd : ∀ d ∈ ds, d.depth ≤ 50) (hkey : Keys sp X.K H xs ds)
    (q : ∀ H' s', Inv X pins σ (upd H' a (.lst (sortK xs ds))) s' → SL.Fr [] H H' → H' a = none → P (.done (.ret .none)) s') : wpAny (model X.prog X.w) X.A.in1.in1 (ksk_rest a (.ref f) false its.toArray e1 (.ref kS)) P E s := by
  have hlen : its.length = xs.length := rv.length.symm
  unfold ksk_rest
  refine wpAny_bind (wpAny_rule ?_)
  first
    | rw [List.forIn_toArray]
    | (rw [← Array.forIn_toList]; simp only [List.toList_toArray])
    | rw [← Array.forIn_toList]
  refine wpAny_bind (ksk_fold (fun i s' => ∃ H' kA e kvs, Inv X (pins ++ [(a, seqObj "list" #[] e1), (kS, seqObj "list" kA e)]) σ H' s' ∧ SL.Fr [] H H' ∧ Vals kvs kA.toList ∧ DpAll X.K H' kvs (ds.take i)) its 0 s
    ⟨H, #[], 0, [], I, SL.Fr.refl, .nil, by rw [List.take_zero]; exact .nil⟩ ?step ?done)
  case step =>
    rintro j u s' hx ⟨H', kA, e, kvs, I', e', hv, hdp⟩
    simp only [Nat.zero_add] at hdp ⊢
    have hj : j < its.length := (List.getElem?_eq_some_iff.mp hx).1
    obtain ⟨x, hxs, rxu⟩ := vals_back (j := 0) rv hx
    obtain ⟨d, hdj⟩ : ∃ d, ds[j]? = some d := ⟨_, List.getElem?_eq_getElem (by omega)⟩
    refine wpAny_bind (wpAny_attempt (wpAny_mono (call_in2 F hr hb I' rxu (hkey j x d hxs hdj H' (fun y H2 => SL.Fr [] H' H2 ∧ Dp X.K H2 y d) e' fun y H2 a b => ⟨a, b⟩)) (fun v s2 hv2 => ?_) fun _ _ z => z.elim))
    obtain ⟨y, H2, I2, ry, e2, dy⟩ := hv2
    try dsimp only
    have pk := I2.pin (kS, seqObj "list" kA e) (by simp)
    have pa := I2.pin (a, seqObj "list" #[] e1) (by simp)
    have kl : kA.size = j := by
      have h1 : kvs.length = kA.size := by rw [hv.length, Array.length_toList]
      have h2 : kvs.length = (ds.take j).length := dpa_len hdp
      rw [List.length_take, Nat.min_eq_left (by omega)] at h2
      omega
    obtain ⟨c2, hc2⟩ : ∃ c2, (s2.heap.update kS (Obj.mapSeq (·.push v))).get? kS = some (seqObj "list" (kA.push v) c2) := ⟨_, get?_update_seq pk.1 (·.push v)⟩
    refine wpAny_bind (listUpdate_at pk.1 rfl ?_ (by omega) (by rw [Array.size_push]; omega))
    have I3 : Inv X pins σ H2 { s2 with heap := s2.heap.update kS (Obj.mapSeq (·.push v)), toks := s2.toks } := I2.unpinned.turnedL (ch := [kS]) (fun b o hb e => (Heap.get?_update_ne _ _ _ _ (fun z => hb (List.mem_singleton.mpr z))).trans e) (fun b hb => by rw [List.mem_singleton.mp hb]; exact ⟨pk.2.1, fk.2⟩)
    have I4 : Inv X (pins ++ [(a, seqObj "list" #[] e1), (kS, seqObj "list" (kA.push v) c2)]) σ H2 { s2 with heap := s2.heap.update kS (Obj.mapSeq (·.push v)), toks := s2.toks } := I3.pins_of fun p hp => by
      rcases List.mem_append.mp hp with hp | hp
      · exact I3.pin p (List.mem_append_right _ hp)
      · rcases List.mem_cons.mp hp with rfl | hp
        · exact ⟨(Heap.get?_update_ne _ _ _ _ (Ne.symm hne)).trans pa.1, pa.2.1, pa.2.2.1, pa.2.2.2.1, fun v z => nomatch z⟩
        · rw [List.mem_singleton.mp hp]
          exact ⟨hc2, pk.2.1, pk.2.2.1, pk.2.2.2.1, fun v z => nomatch z⟩
    refine wpAny_pure ⟨rfl, H2, kA.push v, c2, kvs ++ [y], I4, e'.trans e2, ?_, ?_⟩
    · rw [Array.toList_push]
      exact Vals.append hv (.cons ry .nil)
    · rw [List.take_add_one, hdj]
      exact dpa_snoc (dpa_same e2.same hdp) dy
  case done =>
    rintro s' ⟨H', kA, e, kvs, I', e', hv, hdp⟩
    have e3 : ds.take (0 + its.length) = ds := List.take_of_length_le (by omega)
    rw [e3] at hdp
    have pk := I'.pin (kS, seqObj "list" kA e) (by simp)
    have pa := I'.pin (a, seqObj "list" #[] e1) (by simp)
    have kl : kA.size = its.length := by
      have h1 : kvs.length = kA.size := by rw [hv.length, Array.length_toList]
      have h2 : kvs.length = ds.length := dpa_len hdp
      omega
    try dsimp only
    refine wpAny_bind (listItems_at pk.1 rfl ?_)
    obtain ⟨as, rds⟩ := Dp.readsAll I' ds kvs kA.toList hdp hv
    have each : EachIs (fun v d => ∃ as, Reads s'.heap v d as) kA.toList ds := readsAll_each id (by rw [List.map_id]; exact rds)
    have hu : ∀ d, d ∈ ds → X.A.in1.in1.units + d.depth < cLine := fun d hdm => by
      have h1 := hr.units
      have h2 := hd d hdm
      show X.A.units + 1 + 1 + d.depth < cLine
      omega
    have S : SortsAt X.prog X.w X.A.in1.in1 s' (dataKind s'.heap ds) kA.toList := hk.elim (fun z => sortsAt_tups each hal z hu) (fun z => SortsAt.data each hal z hu)
    have off : ∀ b, b ≠ kS → (s'.heap.update kS fun o => { o with data := .freed }).get? b = s'.heap.get? b := fun b hb => Heap.get?_update_ne _ _ _ _ hb
    refine keyH_end (h₁ := s'.heap.update kS fun o => { o with data := .freed }) (vs := its) (fun b o hb z => ?_) (get?_freed _ _) pk.1 pa.1 hne S kl (by omega) fun h' tk c kp' n' => ?_
    · by_cases hbk : b = kS
      · rw [hbk, get?_freed] at z
        cases z
      · rw [off b hbk] at z
        exact z
    · have hout : EachIs (fun u (b : V × PyData) => RelV b.1 u) (sortVals (dataKind s'.heap ds) false kA.toList its) ((xs.zip ds).mergeSort (dataLe false Prod.snd)) :=
        keyedOut_each (bs := xs.zip ds) Prod.snd ⟨s'.heap, kA.toList, by rw [List.map_snd_zip (Nat.le_of_eq hn.symm)]; exact hal, by rw [List.map_snd_zip (Nat.le_of_eq hn.symm)], by rw [List.map_snd_zip (Nat.le_of_eq hn.symm)]; exact each⟩ (vals_each rv hn)
      have I3 : Inv X pins σ H' { s' with heap := h', toks := tk } := I'.unpinned.turnedL (ch := [a, kS]) (fun b o hb z => kp' b o (fun y => hb (by simp [y])) ((off b (fun y => hb (by simp [y]))).trans z)) (fun b hb => by
        rcases List.mem_cons.mp hb with rfl | hb
        · exact ⟨pa.2.1, fa.2⟩
        · rw [List.mem_singleton.mp hb]; exact ⟨pk.2.1, fk.2⟩)
      have vo := each_vals hout
      have sl : (sortK xs ds).length ≤ sizeLine := by
        unfold sortK
        rw [List.length_map, List.length_mergeSort, List.length_zip]
        omega
      have I5 := I3.take (it := a) (h' := h') (t' := tk) (o := .lst (sortK xs ds)) (fun _ _ _ z => z) ⟨pa.2.1, fa.2⟩ ⟨sl, _, c, vo, n'⟩
      exact q H' _ I5 e' pa.2.1
theorem sortK_run {l : Addr} {xs : List V} {ds : List PyData} {Q : VK} (F : FnG X.prog X.w X.K X.mg X.base CX0 k f fd ps sp) (hr : RoomG (k + 2) X.A) (hb : Binds X.K fd ps []) (I : Inv X pins σ H s) (hl : SqL X.K H l xs) (hn : xs.length = ds.length)
    (hal : AllAlike ds) (hk : (∀ d ∈ ds, ∃ ys, d = .tuple ys) ∨ Sortable ds) (hd : ∀ d ∈ ds, d.depth ≤ 50) (hkey : Keys sp X.K H xs ds) (q : ∀ p H', SL.Fr [] H H' → H' p = none → Q (.ref p) (upd H' p (.lst (sortK xs ds)))) :
    wpAny (model X.prog X.w) X.A (call (.builtin "sorted") [.ref l] [(Str.ofString "key", .ref f)]) (EP X pins σ Q) X.xe s := by
  obtain ⟨its, rv, hp, hz⟩ := I.list hl
  have hlen : its.length = xs.length := rv.length.symm
  refine sorted_of_sort (vs := its) hp.isList (by omega) (ksk_s1 _ _) (fun _ => ksk_l1 _ _) fun E' => ?_
  rw [ksk_t1]
  have hcp := copyHeap_at s.heap its
  have fa : FpOk X pins H (s.heap.objs.size + 1) := I.fpOk (Nat.le_succ _) (I.hok.fresh (Nat.le_succ _))
  have I1 : Inv X pins σ H { s with heap := copyHeap s.heap its, toks := s.toks } := I.kept fun b u e => copyHeap_old e
  generalize s.heap.objs.size + 1 = a at *
  have I1 : Inv X pins σ H { s with heap := copyHeap s.heap its } := I1
  generalize copyHeap s.heap its = h1 at *
  obtain ⟨e1, ho1⟩ : ∃ e1, (h1.update a (Obj.mapSeq fun _ => (#[] : Array Value))).get? a = some (seqObj "list" #[] e1) := ⟨_, get?_update_seq hcp fun _ => #[]⟩
  unfold ksk_tree
  refine wpAny_bind (listItems_at hcp rfl ?_)
  refine wpAny_bind (listUpdate_at hcp rfl ?_ (by rw [List.size_toArray]; omega) (Nat.zero_le _))
  refine wpAny_bind (seqEpoch_at ho1 rfl ?_)
  have I2 : Inv X pins σ H { s with heap := h1.update a (Obj.mapSeq fun _ => (#[] : Array Value)), toks := s.toks } := Inv.turnedL (s := { s with heap := h1 }) I1 (ch := [a]) (fun b o hb e => (Heap.get?_update_ne _ _ _ _ (fun z => hb (List.mem_singleton.mpr z))).trans e) (fun b hb => by rw [List.mem_singleton.mp hb]; exact fa)
  have I2 : Inv X pins σ H { s with heap := h1.update a (Obj.mapSeq fun _ => (#[] : Array Value)) } := I2
  generalize h1.update a (Obj.mapSeq fun _ => (#[] : Array Value)) = h2 at *
  refine wpAny_bind (wpAny_newTuple ?_ (by show its.length ≤ _; omega))
  have I3 : Inv X pins σ H { s with heap := h2.push (seqObj "tuple" its.toArray 0), toks := s.toks } := I2.kept fun b u e => Heap.get?_push_of_some _ e
  have I3 : Inv X pins σ H { s with heap := h2.push (seqObj "tuple" its.toArray 0) } := I3
  have ho3 : (h2.push (seqObj "tuple" its.toArray 0)).get? a = some (seqObj "list" #[] e1) := Heap.get?_push_of_some _ ho1
  show wpAny (model X.prog X.w) X.A.in1.in1 _ _ _ { s with heap := h2.push (seqObj "tuple" its.toArray 0) }
  generalize h2.push (seqObj "tuple" its.toArray 0) = h3 at *
  refine wpAny_bind (wpAny_newList ?_ (Nat.zero_le _))
  refine wpAny_holding ?_
  have fk : FpOk X pins H h3.objs.size := I3.fpOk (Nat.le_refl _) (I3.hok.fresh (Nat.le_refl _))
  have I4 : Inv X pins σ H { s with heap := h3.push (seqObj "list" #[] 0), toks := s.toks } := I3.kept fun b u e => Heap.get?_push_of_some _ e
  have I5 : Inv X (pins ++ [(a, seqObj "list" #[] e1), (h3.objs.size, seqObj "list" #[] 0)]) σ H { s with heap := h3.push (seqObj "list" #[] 0) } := I4.pins_of fun p hp => by
    rcases List.mem_append.mp hp with hp | hp
    · exact I4.pin p (List.mem_append_right _ hp)
    · rcases List.mem_cons.mp hp with rfl | hp
      · exact ⟨Heap.get?_push_of_some _ ho3, fa.1, fa.2.1, fa.2.2.1, fun v z => nomatch z⟩
      · rw [List.mem_singleton.mp hp]
        exact ⟨Heap.get?_push_size _ rfl, fk.1, fk.2.1, fk.2.2.1, fun v z => nomatch z⟩
  refine sort_rest F hr hb I5 fa fk (fun z => absurd (Heap.lt_size ho3) (by rw [← z]; exact Nat.lt_irrefl _)) rv hz hn hal hk hd hkey fun H' s' I' e' hn' => ⟨rfl, .ref a, _, I', rfl, q a H' e' hn'⟩
/-- sorted(xs, key=f) -/
def rSortK (K : PySem.W.Frag) (f : Addr) (sp : Sp) : List V → List V → Hp → VK → Prop := fun vs zs H Q => ∃ (l : Addr) (xs : List V) (ds : List PyData), vs = [.ref l] ∧ zs = [.ref f] ∧ SqL K H l xs ∧ xs.length = ds.length ∧ AllAlike ds ∧ ((∀ d ∈ ds, ∃ ys, d = .tuple ys) ∨ Sortable ds) ∧ (∀ d ∈ ds, d.depth ≤ 50) ∧
  Keys sp K H xs ds ∧ ∀ p H', SL.Fr [] H H' → H' p = none → Q (.ref p) (upd H' p (.lst (sortK xs ds)))
theorem cr_sortK (F : FnG X.prog X.w X.K X.mg X.base CX0 k f fd ps sp) (hb : Binds X.K fd ps []) (hr : RoomG (k + 2) X.A) : CallRK X (.builtin "sorted") [Str.ofString "key"] (rSortK X.K f sp) := by
  intro pins s σ H vs zs us ws Q I r rz h
  obtain ⟨l, xs, ds, rfl, rfl, hl, hn, hal, hk, hd, hkey, q⟩ := h
  obtain rfl := Vals.ref1 r
  obtain ⟨w1, rfl, e1⟩ := vals1 rz
  obtain rfl : w1 = Value.ref f := e1
  exact sortK_run F hr hb I hl hn hal hk hd hkey q
end
/-- a def of the module, its address known -/
structure CalF (P : Program) (w : World) (K : PySem.W.Frag) (mg : Str → Option Value) (base : Heap) (k : Nat) (x : Str) (f : Addr) (sp : Sp) : Prop where
  m : mg x = some (.ref f)
  ex : ∃ (fd : FuncData) (ps : List Str), FnG P w K mg base CX0 k f fd ps sp ∧ PySem.W.keepIn K (.ref f) = true ∧ Binds K fd ps []
theorem CalF.g {P : Program} {w : World} {K : PySem.W.Frag} {mg : Str → Option Value} {base : Heap} {k : Nat} {x : Str} {f : Addr} {sp : Sp} (D : CalF P w K mg base k x f sp) : CalG P w K mg base k x sp := by
  obtain ⟨fd, ps, F, kp, b⟩ := D.ex
  exact ⟨f, fd, ps, F, D.m, kp, b⟩
theorem cr_sortF {X : Cx} {k : Nat} {x : Str} {f : Addr} {sp : Sp} (D : CalF X.prog X.w X.K X.mg X.base k x f sp) (hr : RoomG (k + 2) X.A) : CallRK X (.builtin "sorted") [Str.ofString "key"] (rSortK X.K f sp) := by
  obtain ⟨fd, ps, F, kp, b⟩ := D.ex
  exact cr_sortK F b hr
theorem kCallK {X : Cx} {K : PySem.W.Frag} {r : PySem.W.Frag → List V → List V → Hp → VK → Prop} {f : Value} {ks : List Str} (e : X.K = K) (h : CallRK X f ks (r X.K)) : CallRK X f ks (r K) := e ▸ h
theorem g_ckw {σ : L2.St} {H : Hp} {Q : VK} {r : List V → List V → Hp → VK → Prop} {t tk : TA} (q : t σ H fun vs H1 => tk σ H1 fun zs H2 => r vs zs H2 Q) : tCKw r t tk σ H Q := q
/-- the same order: the same list -/
theorem sortK_congr {α : Type} {f g : α → PyData} {xs : List V} {bs : List α} (h : ∀ a ∈ bs, ∀ b ∈ bs, dataLt (f a) (f b) = dataLt (g a) (g b)) : sortK xs (bs.map f) = sortK xs (bs.map g) := by
  have key : ∀ e : α → PyData, (∀ a ∈ bs, ∀ b ∈ bs, dataLt (f a) (f b) = dataLt (e a) (e b)) → sortK xs (bs.map e) = ((xs.zip bs).mergeSort (dataLe false fun z => f z.2)).map Prod.fst := fun e he => by
    unfold sortK
    rw [List.zip_map_right, ← List.map_mergeSort (r := dataLe false fun z => f z.2) (fun a ha b hb => ?_), List.map_map]
    · rfl
    · have h1 := (List.of_mem_zip ha).2
      have h2 := (List.of_mem_zip hb).2
      show (!dataLt (f b.2) (f a.2)) = !dataLt (e b.2) (e a.2)
      rw [he _ h2 _ h1]
  rw [key f fun _ _ _ _ => rfl, key g h]
theorem sortK_perm (xs : List V) (ds : List PyData) (h : xs.length = ds.length) : (sortK xs ds).Perm xs := by
  unfold sortK
  have p := (List.mergeSort_perm (xs.zip ds) (dataLe false Prod.snd)).map Prod.fst
  rwa [List.map_fst_zip (Nat.le_of_eq h)] at p
end SL

set_option Elab.async false
set_option linter.all false
set_option maxRecDepth 100000
set_option maxHeartbeats 4000000
namespace LW
open PySem PySem.Spec PyProof.Rows L2 SL
abbrev FnP (K : PySem.W.Frag) (x : Str) (st : Stmt) (f : Addr) (fd : FuncData) : Prop := FunD K x x (defArgs st) (defBody st) (defScope st) [] [] f fd
def topS (i : Nat) : Stmt := PySem.Challenge.pw_sightlore_k02_order_of_values_and_rows.main.body.getD i (.Pass ⟨0, 0, 0, 0⟩)
abbrev FnM (K : PySem.W.Frag) (q : Str) (st : Stmt) (f : Addr) (fd : FuncData) : Prop := FunD K "__init__" q (defArgs st) (defBody st) (defScope st) [] [] f fd
def methS (i j : Nat) : Stmt := match topS i with
  | .ClassDef _ _ _ body _ _ _ _ _ _ _ => body.getD j (.Pass ⟨0, 0, 0, 0⟩)
  | s => s

/-! the word «walk_at "st"»: one step of a reading -/
local macro_rules | `(tactic| walk_at "st") => `(tactic| first
  | with_reducible refine g_seq ?_
  | ((with_reducible show tVar _ _ _ _); refine g_var rfl ?_)
  | with_reducible refine g_c ?_
  | with_reducible refine g_op ?_
  | with_reducible refine g_asg ?_
  | with_reducible refine g_name ?_
  | with_reducible refine g_if ?_
  | with_reducible refine g_test ?_
  | with_reducible refine g_k ?_
  | with_reducible refine g_ret ?_
  | with_reducible refine g_next ?_
  | with_reducible refine g_cons ?_
  | with_reducible refine g_nil ?_
  | with_reducible refine g_call ?_
  | with_reducible refine g_cb ?_
  | with_reducible refine g_ckw ?_
  | with_reducible refine g_addI ?_
  | with_reducible refine g_subI ?_
  | with_reducible refine g_ltI ?_
  | with_reducible refine g_leI ?_
  | with_reducible refine g_gtI ?_
  | with_reducible refine g_geI ?_
  | with_reducible refine g_eqI ?_
  | with_reducible refine g_eqS ?_
  | with_reducible refine g_eqB ?_
  | with_reducible refine g_neI ?_
  | with_reducible refine g_neS ?_
  | with_reducible refine g_neB ?_
  | ((with_reducible refine g_mulI ?h0 ?_); (case h0 => first | exact mulR (by decide) (by decide) | exact mulL (by decide) (by decide) | exact mulR (by omega) (by omega) | exact mulL (by omega) (by omega)))
  | ((with_reducible refine g_modI ?h0 ?_); (case h0 => first | decide | omega))
  | ((with_reducible refine g_divI ?h0 ?_); (case h0 => first | exact divS (by decide) (by decide) | exact divS (by omega) (by omega)))
  | ((with_reducible refine g_powI ?h0 ?_); (case h0 => exact ⟨by decide +kernel, by decide +kernel, by decide +kernel⟩))
  | ((with_reducible show rIx _ (V.ref _) (V.int _) _ _); refine g_ixL (by first | assumption | exact SqL.of (by assumption)) (by exact rfl) ?_)
  | ((with_reducible show rIx _ (V.ref _) (V.int _) _ _); refine g_ixT (by first | assumption | exact SqT.of (by assumption)) (by exact rfl) ?_)
  | ((with_reducible show uLen _ [V.ref _] _ _); first | refine g_len (.inl (SqL.of (by assumption))) ?_ | refine g_len (.inl (by assumption)) ?_ | refine g_len (.inr (by assumption)) ?_ | refine g_len (.inr (SqT.of (by assumption))) ?_)
  | with_reducible refine g_dget ?_
  | with_reducible refine g_dput ?_
  | with_reducible refine g_bm ?_
  | with_reducible refine g_bm0 ?_
  | with_reducible refine g_tyS ?_
  | ((with_reducible show tyV _ "list" (V.ref _) _ ∧ _); refine g_tyL (by first | assumption | exact SqL.of (by assumption)) ?_)
  | with_reducible refine g_pairs ?_
  | with_reducible refine g_pairs0 ?_
  | with_reducible refine g_for ?_
  | with_reducible refine g_iR1 ?_
  | with_reducible refine g_iR2 ?_
  | with_reducible refine g_iL ?_
  | with_reducible refine g_iT ?_
  | with_reducible refine g_lc ?_
  | with_reducible refine g_lc2 ?_
  | with_reducible refine g_dc ?_
  | with_reducible refine g_din ?_
  | with_reducible refine g_listRg ?_
  | with_reducible refine g_rg1 ?_
  | with_reducible refine g_izA ?_
  | with_reducible refine g_iz ?_
  | ((with_reducible show gTup _ _ _ (V.ref _) _ _ _); first | refine g_gtup (SqT.of upd_same) rfl ?_ | refine g_gtup (by first | assumption | exact SqT.of (by assumption)) rfl ?_)
  | with_reducible refine g_gcons ?_
  | with_reducible refine g_gnil ?_
  | with_reducible refine g_yes ?_
  | with_reducible refine g_andT ?_
  | with_reducible refine g_orT ?_
  | with_reducible refine g_notT ?_
  | with_reducible refine g_truB ?_
  | with_reducible refine g_and ?_
  | with_reducible refine g_or ?_
  | with_reducible refine g_not ?_
  | with_reducible refine g_ifE ?_
  | with_reducible refine g_B ?_
  | with_reducible refine g_un ?_
  | with_reducible refine g_sub ?_
  | with_reducible refine g_drop ?_
  | with_reducible refine g_sl ?_
  | with_reducible refine g_noPart ?_
  | with_reducible refine g_part ?_
  | with_reducible refine g_ki ?_
  | with_reducible refine g_fs ?_
  | with_reducible refine g_js0 ?_
  | with_reducible refine g_js ?_
  | with_reducible refine g_fmt ?_
  | with_reducible refine g_is ?_
  | with_reducible refine g_isNot ?_
  | with_reducible refine g_chain ?_
  | with_reducible refine g_istr ?_
  | with_reducible refine g_rU ?_
  | with_reducible refine g_leS ?_
  | with_reducible refine g_vei ?_
  | with_reducible refine g_dc2 ?_
  | with_reducible refine g_ienT ?_
  | with_reducible refine g_ost ?_
  | with_reducible refine g_xat ?_
  | with_reducible refine g_xs ?_
  | with_reducible refine g_mkE ?_
  | with_reducible refine g_rs ?_
  | with_reducible refine g_mkX ?_
  | with_reducible refine g_try ?_
  | with_reducible refine g_callS ?_
  | (with_reducible refine g_tup ?_)
  | (with_reducible refine g_lst ?_)
  | ((with_reducible refine g_tt ?h0 ?_); (case h0 => decide +kernel))
  | ((with_reducible refine g_ff ?h0 ?_); (case h0 => decide +kernel)))
/-! a text's size -/
local macro_rules | `(tactic| walk_at "sz") => `(tactic| (refine le_of ?_; (try simp only [app_len, lit_q, lit_lp, lit_rp, lit_sp, lit_cs, lit_not, lit_is, lit_if, lit_e, lit_dot]); omega))
/-! a part of an f-string, a text -/
local macro_rules | `(tactic| walk_at "fs") => `(tactic| first
  | walk_at "st"
  | (refine g_fmtS ?hz ?_; (case hz => walk_at "sz"))
  | (refine g_jsS ?hz ?_; (case hz => walk_at "sz"))
  | (refine g_addS ?hz ?_; (case hz => walk_at "sz")))
/-! a step, but none into an if that has something behind it -/
local macro_rules | `(tactic| walk_at "if") => `(tactic| ((fail_if_success (with_reducible refine g_seqIf _ _ _ _ _ _ _ ?_)); walk_at "st"))

/-! ### sums -/
inductive SumE where
  | val (v : V) | var (x : Str) | op (s : Str) (a b : SumE)
/-- a sum stands at v -/
def SumAt (K : PySem.W.Frag) (H : Hp) : SumE → V → Prop
  | .val u, v => ∃ p, v = .ref p ∧ SqT K H p [.str "value", u]
  | .var x, v => ∃ p, v = .ref p ∧ SqT K H p [.str "var", .str x]
  | .op s a b, v => ∃ p y z, v = .ref p ∧ SqT K H p [.str s, y, z] ∧ SumAt K H a y ∧ SumAt K H b z
theorem SumAt.fr {K : PySem.W.Frag} {H H' : Hp} {M : List Addr} (e : Fr M H H') : ∀ {t : SumE} {v : V}, SumAt K H t v → SumAt K H' t v
  | .val _, _, ⟨p, h1, h2⟩ => ⟨p, h1, e.tup h2⟩
  | .var _, _, ⟨p, h1, h2⟩ => ⟨p, h1, e.tup h2⟩
  | .op _ _ _, _, ⟨p, y, z, h1, h2, h3, h4⟩ => ⟨p, y, z, h1, e.tup h2, SumAt.fr e h3, SumAt.fr e h4⟩
def SumE.deep : SumE → Nat
  | .op _ a b => max a.deep b.deep + 1
  | _ => 0
def isSg (s : Str) : Prop := s = "+" ∨ s = "-" ∨ s = "*"
theorem sg_ne {s : Str} (h : isSg s) : s ≠ "value" ∧ s ≠ "var" := by
  rcases h with rfl | rfl | rfl <;> exact ⟨by decide +kernel, by decide +kernel⟩

/-! ### things that are written: data, texts, bounds -/
inductive TermE where
  | any | s (e : SumE)
inductive PartE where
  | atom (no : Bool) (x : Str) (ts : List TermE) | lt (x : Str) (e : SumE) | test (s : Str) (a b : SumE)
inductive ArgE where
  | s (e : SumE) | fold (w : Str) (x : Option Str)
def SumE.d : SumE → PyData
  | .val u => .tuple [.str "value", scD u]
  | .var x => .tuple [.str "var", .str x]
  | .op s a b => .tuple [.str s, a.d, b.d]
def TermE.d : TermE → PyData
  | .any => .tuple [.str "any"]
  | .s e => e.d
def PartE.d : PartE → PyData
  | .atom no x ts => .tuple [.str (if no then "not" else "atom"), .str x, .tuple (ts.map TermE.d)]
  | .lt x e => .tuple [.str "let", .str x, e.d]
  | .test s a b => .tuple [.str "test", .str s, a.d, b.d]
def ArgE.d : ArgE → PyData
  | .s e => e.d
  | .fold w none => .tuple [.str "fold", .str w, .none]
  | .fold w (some x) => .tuple [.str "fold", .str w, .str x]
/-- a text of at most n signs -/
structure Tx (n : Nat) (t : Str) : Prop where
  len : t.length ≤ n
  ok : ∀ c ∈ t.cps.toList, c < 0x110000
theorem Tx.mono {m n : Nat} {t : Str} (h : Tx m t) (l : m ≤ n) : Tx n t := ⟨Nat.le_trans h.len l, h.ok⟩
theorem tl_app (a b : Str) : (a ++ b).cps.toList = a.cps.toList ++ b.cps.toList := Array.toList_append
theorem Tx.app {m n : Nat} {a b : Str} (h : Tx m a) (k : Tx n b) : Tx (m + n) (a ++ b) := ⟨by rw [app_len]; exact Nat.add_le_add h.len k.len, fun c hc => by
  rw [tl_app, List.mem_append] at hc
  exact hc.elim (h.ok c) (k.ok c)⟩
theorem empty_app (a : Str) : Str.empty ++ a = a := by
  show (⟨#[] ++ a.cps⟩ : Str) = a
  rw [Array.empty_append]
def txB (n : Nat) (t : Str) : Bool := decide (t.length ≤ n) && t.cps.toList.all (fun c => decide (c < 0x110000))
theorem Tx.lit {n : Nat} {t : Str} (h : txB n t = true) : Tx n t := by
  unfold txB at h
  simp only [Bool.and_eq_true, decide_eq_true_eq, List.all_eq_true] at h
  exact ⟨h.1, h.2⟩
theorem Tx.short {n : Nat} {t : Str} (h : Tx n t) (l : n ≤ 9000) : (reprText t).length ≤ sizeLine :=
  le_of (Nat.le_trans (StrLaws.reprText_len t fun c hc => Nat.lt_of_lt_of_le (h.ok c hc) (by decide)) (by have := h.len; omega))
theorem join_cons (y a b : Str) (r : List Str) : Txt.join y (a :: b :: r) = a ++ y ++ Txt.join y (b :: r) := by
  rw [TL.join_eq, TL.join_eq]
  rfl
theorem Tx.join {k m : Nat} {y : Str} (hy : Tx k y) : ∀ {ts : List Str}, (∀ t ∈ ts, Tx m t) → Tx (ts.length * (m + k)) (Txt.join y ts)
  | [], _ => by
    rw [TL.join_eq]
    exact ⟨Nat.zero_le _, fun c hc => nomatch hc⟩
  | [a], h => by
    rw [TL.join_eq]
    exact (h a List.mem_cons_self).mono (by simp)
  | a :: b :: r, h => by
    rw [join_cons]
    refine (((h a List.mem_cons_self).app hy).app (Tx.join hy fun t ht => h t (List.mem_cons_of_mem _ ht))).mono ?_
    simp only [List.length_cons, Nat.succ_mul]
    omega
/-! texts -/
def valT : V → Str
  | .bl b => if b then "yes" else "no"
  | .int i => toString i
  | .str x => "'" ++ x ++ "'"
  | _ => ""
def tightE : SumE → Nat
  | .op s _ _ => if s = "*" then 2 else 1
  | _ => 3
def wrapS (k : Nat) (e : SumE) (t : Str) : Str := if tightE e < k then "(" ++ t ++ ")" else t
def sumT : SumE → Str
  | .val u => valT u
  | .var x => x
  | .op s a b => wrapS (if s = "*" then 2 else 1) a (sumT a) ++ " " ++ s ++ " " ++ wrapS ((if s = "*" then 2 else 1) + 1) b (sumT b)
def termT : TermE → Str
  | .any => "_"
  | .s e => sumT e
def listT (ts : List Str) : Str := Txt.join ", " ts
def atomT (x : Str) (ts : List TermE) : Str := x ++ "(" ++ listT (ts.map termT) ++ ")"
def partT : PartE → Str
  | .atom no x ts => if no then "not " ++ atomT x ts else atomT x ts
  | .lt x e => x ++ " is " ++ sumT e
  | .test s a b => sumT a ++ " " ++ s ++ " " ++ sumT b
def argT : ArgE → Str
  | .s e => sumT e
  | .fold w none => w
  | .fold w (some x) => w ++ " " ++ x
def argsT (as : List ArgE) : Str := listT (as.map argT)
def partsT (ps : List PartE) : Str := listT (ps.map partT)
def ruleT (h : Str) (as : List ArgE) (ps : List PartE) : Str := if ps = [] then h ++ "(" ++ argsT as ++ ")" else h ++ "(" ++ argsT as ++ ")" ++ " if " ++ partsT ps
def questT (as : List ArgE) (ps : List PartE) : Str := argsT as ++ " if " ++ partsT ps
/-! what is small -/
def ValG (u : V) : Prop := (∃ i : Int, u = .int i ∧ i.natAbs < 10 ^ 30) ∨ (∃ b, u = .bl b) ∨ ∃ x, u = .str x ∧ Tx 12 x
inductive SumG : Nat → SumE → Prop
  | val {n : Nat} {u : V} : ValG u → SumG n (.val u)
  | var {n : Nat} {x : Str} : Tx 12 x → SumG n (.var x)
  | op {n : Nat} {s : Str} {a b : SumE} : isSg s → SumG n a → SumG n b → SumG (n + 1) (.op s a b)
theorem SumG.up {m n : Nat} {e : SumE} (h : SumG m e) (l : m ≤ n) : SumG n e := by
  induction h generalizing n with
  | val h => exact .val h
  | var h => exact .var h
  | op hs _ _ iha ihb =>
    obtain ⟨k, rfl⟩ : ∃ k, n = k + 1 := ⟨n - 1, by omega⟩
    exact .op hs (iha (by omega)) (ihb (by omega))
inductive TermG : TermE → Prop
  | any : TermG .any
  | s {e : SumE} : SumG 0 e → TermG (.s e)
inductive PartG : PartE → Prop
  | atom {no : Bool} {x : Str} {ts : List TermE} : Tx 44 x → ts.length ≤ 4 → (∀ t ∈ ts, TermG t) → PartG (.atom no x ts)
  | lt {x : Str} {e : SumE} : Tx 12 x → SumG 1 e → PartG (.lt x e)
  | test {s : Str} {a b : SumE} : Tx 2 s → SumG 1 a → SumG 1 b → PartG (.test s a b)
inductive ArgG : ArgE → Prop
  | s {e : SumE} : SumG 0 e → ArgG (.s e)
  | fold0 {w : Str} : Tx 5 w → ArgG (.fold w none)
  | fold {w x : Str} : Tx 5 w → Tx 12 x → ArgG (.fold w (some x))
theorem toStr_ofString (i : Int) : (toString i : Str) = Str.ofString (toString i) := rfl
theorem tx_int {i : Int} (h : i.natAbs < 10 ^ 30) : Tx 31 (toString i : Str) := by
  refine ⟨?_, fun c hc => ?_⟩
  · have e := int_text_length_le10 (k := 30) (by decide) h
    show (Str.ofString (toString i)).length ≤ 31
    rw [PySem.ofString_length]
    exact e
  · have hc2 : c ∈ (Str.ofString (toString i)).cps.toList := hc
    rw [PyProof.Rows.signs_ofString, List.mem_map] at hc2
    obtain ⟨ch, _, rfl⟩ := hc2
    rcases ch.valid with h | h
    · exact Nat.lt_trans h (by decide)
    · exact h.2
theorem ValG.tx {u : V} (h : ValG u) : Tx 31 (valT u) := by
  rcases h with ⟨i, rfl, h⟩ | ⟨b, rfl⟩ | ⟨x, rfl, h⟩
  · exact tx_int h
  · cases b
    · exact Tx.lit (by decide +kernel)
    · exact Tx.lit (by decide +kernel)
  · exact (((Tx.lit (n := 1) (by decide +kernel)).app h).app (Tx.lit (n := 1) (by decide +kernel))).mono (by decide)
theorem Tx.wrap {n k : Nat} {e : SumE} {t : Str} (h : Tx n t) : Tx (n + 2) (wrapS k e t) := by
  unfold wrapS
  split
  · exact (((Tx.lit (n := 1) (by decide +kernel)).app h).app (Tx.lit (n := 1) (by decide +kernel))).mono (by omega)
  · exact h.mono (by omega)
theorem isSg.tx {s : Str} (h : isSg s) : Tx 1 s := by
  rcases h with rfl | rfl | rfl <;> exact Tx.lit (by decide +kernel)
theorem SumG.tx {m : Nat} {e : SumE} (h : SumG m e) : Tx (48 * 2 ^ m - 7) (sumT e) := by
  induction h with
  | @val n u h => exact h.tx.mono (by have := Nat.one_le_two_pow (n := n); omega)
  | @var n x h => exact h.mono (by have := Nat.one_le_two_pow (n := n); omega)
  | @op n s a b hs _ _ iha ihb =>
    have l1 : Tx 1 (" " : Str) := Tx.lit (by decide +kernel)
    have p := Nat.one_le_two_pow (n := n)
    refine (((((iha.wrap).app l1).app hs.tx).app l1).app ihb.wrap).mono ?_
    rw [Nat.pow_succ]
    omega
theorem SumG.tx4 {m : Nat} {e : SumE} (h : SumG m e) (l : m ≤ 4) : Tx 761 (sumT e) := (h.up l).tx.mono (by decide)
theorem TermG.tx {t : TermE} (h : TermG t) : Tx 41 (termT t) := by
  cases h with
  | any => exact Tx.lit (by decide +kernel)
  | s h => exact h.tx.mono (by decide)
theorem txs_map {α : Type} {f : α → Str} {xs : List α} {n : Nat} (h : ∀ x ∈ xs, Tx n (f x)) : ∀ t ∈ xs.map f, Tx n t := fun t ht => by
  obtain ⟨x, hx, rfl⟩ := List.mem_map.mp ht
  exact h x hx
theorem Tx.list {α : Type} {f : α → Str} {xs : List α} {n k : Nat} (h : ∀ x ∈ xs, Tx n (f x)) (l : xs.length ≤ k) : Tx (k * (n + 2)) (listT (xs.map f)) := by
  refine (Tx.join (k := 2) (y := ", ") (Tx.lit (by decide +kernel)) (txs_map h)).mono ?_
  rw [List.length_map]
  exact Nat.mul_le_mul_right _ l
theorem join_len {α : Type} {f : α → Str} {xs : List α} {n k : Nat} (h : ∀ x ∈ xs, Tx n (f x)) (l : xs.length ≤ k) : (Txt.join ", " (xs.map f)).length ≤ k * (n + 2) := (Tx.list h l).len
theorem join_fits {α : Type} {f : α → Str} {xs : List α} {n k : Nat} (h : ∀ x ∈ xs, Tx n (f x)) (l : xs.length ≤ k) (hk : k * (n + 2) ≤ 16777216) : ((xs.map f).map (·.length)).sum + (xs.map f).length * (", " : Str).length ≤ 16777216 := by
  have z := sum_len (ts := xs.map f) (n := n) fun t ht => (txs_map h t ht).len
  have e : (", " : Str).length = 2 := by decide +kernel
  rw [List.length_map] at z ⊢
  rw [e]
  have z2 : xs.length * n + xs.length * 2 ≤ k * (n + 2) := by rw [← Nat.mul_add]; exact Nat.mul_le_mul_right _ l
  omega
theorem Tx.atom {x : Str} {ts : List TermE} (hx : Tx 44 x) (hl : ts.length ≤ 4) (h : ∀ t ∈ ts, TermG t) : Tx 218 (atomT x ts) :=
  (((hx.app (Tx.lit (n := 1) (by decide +kernel))).app (Tx.list (fun t ht => (h t ht).tx) hl)).app (Tx.lit (n := 1) (by decide +kernel))).mono (by decide)
theorem PartG.tx {p : PartE} (h : PartG p) : Tx 240 (partT p) := by
  cases h with
  | @atom no x ts hx hl h =>
    cases no
    · exact (Tx.atom hx hl h).mono (by decide)
    · exact ((Tx.lit (n := 4) (t := "not ") (by decide +kernel)).app (Tx.atom hx hl h)).mono (by decide)
  | lt hx he => exact ((hx.app (Tx.lit (n := 4) (by decide +kernel))).app he.tx).mono (by decide)
  | test hs ha hb => exact ((((ha.tx.app (Tx.lit (n := 1) (by decide +kernel))).app hs).app (Tx.lit (n := 1) (by decide +kernel))).app hb.tx).mono (by decide)
theorem ArgG.tx {a : ArgE} (h : ArgG a) : Tx 41 (argT a) := by
  cases h with
  | s h => exact h.tx.mono (by decide)
  | fold0 h => exact h.mono (by decide)
  | fold h hx => exact ((h.app (Tx.lit (n := 1) (by decide +kernel))).app hx).mono (by decide)
/-! heaps -/
theorem tda_map {α : Type} {K : PySem.W.Frag} {H : Hp} {f : α → PyData} : ∀ {xs : List α} {vs : List V}, TdAll K H vs (xs.map f) → vs.length = xs.length ∧ ∀ (i : Nat) (x : α), xs[i]? = some x → ∃ v, vs[i]? = some v ∧ Td K H v (f x)
  | [], vs, h => by cases h.nil_inv; exact ⟨rfl, fun i x e => by simp at e⟩
  | y :: r, vs, h => by
    obtain ⟨v, ws, rfl, h1, h2⟩ := TdAll.cons_inv (show TdAll K H vs (f y :: r.map f) from h)
    obtain ⟨k1, k2⟩ := tda_map h2
    refine ⟨by simp [k1], fun i x e => ?_⟩
    cases i with
    | zero =>
      simp only [List.getElem?_cons_zero, Option.some.injEq] at e
      subst e
      exact ⟨v, rfl, h1⟩
    | succ j =>
      simp only [List.getElem?_cons_succ] at e
      exact k2 j x e
theorem tda_of {α : Type} {K : PySem.W.Frag} {H : Hp} {f : α → PyData} : ∀ {xs : List α} {vs : List V}, vs.length = xs.length → (∀ (i : Nat) (x : α) (v : V), xs[i]? = some x → vs[i]? = some v → Td K H v (f x)) → TdAll K H vs (xs.map f)
  | [], [], _, _ => .nil
  | [], _ :: _, h, _ => by cases h
  | _ :: _, [], h, _ => by cases h
  | x :: r, v :: ws, h, k => .cons (k 0 x v rfl rfl) (tda_of (Nat.succ.inj h) fun i y u e1 e2 => k (i + 1) y u e1 e2)
/-- the first word of a sum -/
def headE : SumE → Str
  | .val _ => "value"
  | .var _ => "var"
  | .op s _ _ => s
def atomD (a : Bool × Str × List TermE) : PyData := (PartE.atom a.1 a.2.1 a.2.2).d
def atomG (a : Bool × Str × List TermE) : Prop := PartG (.atom a.1 a.2.1 a.2.2)
def argsD (as : List ArgE) : PyData := .tuple (as.map ArgE.d)
def partsD (ps : List PartE) : PyData := .tuple (ps.map PartE.d)
def argsG (as : List ArgE) : Prop := as.length ≤ 8 ∧ ∀ a ∈ as, ArgG a
def partsG (ps : List PartE) : Prop := ps.length ≤ 8 ∧ ∀ p ∈ ps, PartG p
theorem argsG.tx {as : List ArgE} (h : argsG as) : Tx 344 (argsT as) := Tx.list (fun a ha => (h.2 a ha).tx) h.1
theorem partsG.tx {ps : List PartE} (h : partsG ps) : Tx 1936 (partsT ps) := Tx.list (fun a ha => (h.2 a ha).tx) h.1
def ruleD (r : Str × List ArgE × List PartE) : PyData := .tuple [.str r.1, argsD r.2.1, partsD r.2.2]
def ruleG (r : Str × List ArgE × List PartE) : Prop := Tx 12 r.1 ∧ argsG r.2.1 ∧ partsG r.2.2
def questD (r : List ArgE × List PartE) : PyData := .tuple [argsD r.1, partsD r.2]
def questG (r : List ArgE × List PartE) : Prop := argsG r.1 ∧ partsG r.2
theorem td_head {K : PySem.W.Frag} {H : Hp} {e : SumE} {v : V} (h : Td K H v e.d) : ∃ p xs, v = .ref p ∧ SqT K H p (.str (headE e) :: xs) := by
  cases e with
  | val u =>
    obtain ⟨p, x, y, rfl, hp, hx, hy⟩ := Td.t2 (show Td K H v (.tuple [.str "value", scD u]) from h)
    cases hx.str_inv
    exact ⟨p, _, rfl, hp⟩
  | var u =>
    obtain ⟨p, x, y, rfl, hp, hx, hy⟩ := Td.t2 (show Td K H v (.tuple [.str "var", .str u]) from h)
    cases hx.str_inv
    exact ⟨p, _, rfl, hp⟩
  | op s a b =>
    obtain ⟨p, x, y, z, rfl, hp, hx, hy, hz⟩ := Td.t3 (show Td K H v (.tuple [.str s, a.d, b.d]) from h)
    cases hx.str_inv
    exact ⟨p, _, rfl, hp⟩
theorem td_val {K : PySem.W.Frag} {H : Hp} {u v : V} (hu : ValG u) (h : Td K H v (.tuple [.str "value", scD u])) : ∃ p, v = .ref p ∧ SqT K H p [.str "value", u] := by
  obtain ⟨p, x, y, rfl, hp, hx, hy⟩ := h.t2
  cases hx.str_inv
  rcases hu with ⟨i, rfl, _⟩ | ⟨b, rfl⟩ | ⟨x, rfl, _⟩
  · cases hy.int_inv; exact ⟨p, rfl, hp⟩
  · cases hy.bl_inv; exact ⟨p, rfl, hp⟩
  · cases hy.str_inv; exact ⟨p, rfl, hp⟩
theorem sum_deep {m : Nat} {e : SumE} (h : SumG m e) : e.deep ≤ m := by
  induction h with
  | val => exact Nat.zero_le _
  | var => exact Nat.zero_le _
  | op _ _ _ h1 h2 => exact Nat.succ_le_succ (Nat.max_le.mpr ⟨h1, h2⟩)
structure BiT (mg : Str → Option Value) : Prop where
  b_isinstance : mg "isinstance" = none
  b_bool : mg "bool" = none
  b_int : mg "int" = none
  b_str : mg "str" = none

/-! ### what the law draws -/
/-- the names of built-ins that the text leaves alone -/
structure Bi (mg : Str → Option Value) : Prop where
  b_len : mg "len" = none
  b_list : mg "list" = none
  b_range : mg "range" = none
def bagO (cs : Addr) (i r k : Int) : HO := .lst [.ref cs, .int i, .int r, .int k]
/-- a bag stands at b, its cells at cs -/
structure BagAt (H : Hp) (b cs : Addr) : Prop where
  ex : ∃ (cells : List Int) (i r k : Int), H b = some (bagO cs i r k) ∧ H cs = some (.lst (cells.map V.int)) ∧ 0 ≤ i
theorem BagAt.ne {H : Hp} {b cs : Addr} (h : BagAt H b cs) : cs ≠ b := by
  obtain ⟨cells, i, r, k, h1, h2, _⟩ := h.ex
  intro e
  rw [e, h1] at h2
  have h3 : [V.ref cs, .int i, .int r, .int k] = cells.map V.int := HO.lst.inj (Option.some.inj h2)
  cases cells with
  | nil => cases h3
  | cons c r => cases (List.cons.inj h3).1
theorem BagAt.fr {H H' : Hp} {b cs : Addr} {M : List Addr} (h : BagAt H b cs) (e : Fr M H H') (n1 : b ∉ M) (n2 : cs ∉ M) : BagAt H' b cs := by
  obtain ⟨cells, i, r, k, h1, h2, h3⟩ := h.ex
  exact ⟨cells, i, r, k, e.at h1 n1, e.at h2 n2, h3⟩
theorem BagAt.fr0 {H H' : Hp} {b cs : Addr} (h : BagAt H b cs) (e : Fr [] H H') : BagAt H' b cs := h.fr e (fun z => nomatch z) (fun z => nomatch z)
theorem BagAt.put {H : Hp} {b cs : Addr} (h : BagAt H b cs) {i r k : Int} (hi : 0 ≤ i) : BagAt (upd H b (bagO cs i r k)) b cs := by
  obtain ⟨cells, _, _, _, h1, h2, h3⟩ := h.ex
  exact ⟨cells, i, r, k, upd_same, by rw [upd_ne h.ne]; exact h2, hi⟩
theorem BagAt.frp {H : Hp} {b cs : Addr} (h : BagAt H b cs) {o : HO} : Fr [b] H (upd H b o) := by
  obtain ⟨cells, i, r, k, h1, h2, h3⟩ := h.ex
  exact Fr.mut (List.mem_singleton.mpr rfl) h1 nofix_lst
theorem BagAt.some {H : Hp} {b cs : Addr} (h : BagAt H b cs) {p : Addr} (hp : H p = none) : p ≠ b ∧ p ≠ cs := by
  obtain ⟨cells, i, r, k, h1, h2, h3⟩ := h.ex
  exact ⟨fun e => (by rw [e, h1] at hp; cases hp), fun e => (by rw [e, h2] at hp; cases hp)⟩
def spBag (K : PySem.W.Frag) : Sp := fun vs H Q _ => ∃ (a : Addr) (ns : List Int), vs = [.ref a] ∧ SqL K H a (ns.map V.int) ∧ ns.length ≤ 63 ∧
  ∀ b cs H', Fr [] H H' → H b = none → BagAt H' b cs → Q (.ref b) H'
def spPull : Sp := fun vs H Q _ => ∃ (b cs : Addr) (u : Int), vs = [.ref b, .int u] ∧ BagAt H b cs ∧ 0 < u ∧ u < 2 ^ 200 ∧
  ∀ d H', 0 ≤ d → d < u → BagAt H' b cs → Fr [b] H H' → Q (.int d) H'
abbrev s__law_bag : Stmt := topS 4
theorem sc__law_bag : FnScope ["_law_script", "_law_cells", "_law_knot", "_law_cell"] ["_law_script"] (defScope s__law_bag) := ⟨rfl, rfl, rfl, by decide +kernel, rfl, by decide +kernel, by decide +kernel⟩
abbrev s__law_pull : Stmt := topS 5
theorem sc__law_pull : FnScope ["_law_bag_here", "_law_upto", "_law_seed", "_law_fold", "_law_twist", "_law_drawn"] ["_law_bag_here", "_law_upto"] (defScope s__law_pull) := ⟨rfl, rfl, rfl, by decide +kernel, rfl, by decide +kernel, by decide +kernel⟩
section
variable {P : Program} {w : World} {K : PySem.W.Frag} {mg : Str → Option Value} {base : Heap}
theorem ok__law_bag {f : Addr} {fd : FuncData} (F : FnP K "_law_bag" s__law_bag f fd) (B : Bi mg) : FnG P w K mg base CX0 10 f fd ["_law_script"] (spBag K) := by
  refine okG F sc__law_bag (fun vs H Q E h => ?_) (fun cdv A outer s H vs Q E hr h => ?_)
  · obtain ⟨a, ns, rfl, _⟩ := h
    rfl
  obtain ⟨a, ns, rfl, hS, hl, q⟩ := h
  refine ⟨_, PSs.nox (pss_cons (ps_set (i := 1) sc__law_bag.nd rfl (.inl rfl) (pe_callTy (kCall (K := K) (r := uList) rfl callu_list) (by rfl) B.b_list (by decide +kernel) (pa_cons (pe_slice (kSl (K := K) (r := rSlL) rfl sl_list) (pv 0) po_none (po_some pe_int)) pa_nil)))
  (pss_cons (ps_set (i := 2) sc__law_bag.nd rfl (.inl rfl) (pe_op (kOp (K := K) (r := uAdd) rfl opu_add) pe_int (pe_callB (kCall (K := K) (r := uLen) rfl callu_len) (by rfl) B.b_len (by decide +kernel) (pa_cons (pv 1) pa_nil))))
  (pss_cons (ps_for PassesOwn.never rfl (pi_listK (K := K) rfl (pv 1)) (pg_name (i := 3) sc__law_bag.nd rfl (by first | exact Or.inl rfl | exact Or.inr rfl)) (pss_one (ps_set (i := 2) sc__law_bag.nd rfl (.inl rfl) (pe_op opu_mod (pe_op (kOp (K := K) (r := uAdd) rfl opu_add) (pe_op opu_mul (pv 2) pe_int) (pv 3)) pe_int))))
  (pss_one (ps_ret (pe_lst (pa_cons (pv 1) (pa_cons pe_int (pa_cons pe_int (pa_cons (pv 2) pa_nil)))))))))), rd_start (σ0 := [some (.ref a), none, none, none]) rfl ?_⟩
  repeat walk_at "st"
  refine g_slL hS fun p1 hp1 => ?_
  repeat walk_at "st"
  refine g_list (.inl (SqL.of upd_same)) fun p2 hp2 => ?_
  have ec : cutV (ns.map V.int) none (some 63) = ns.map V.int := by
    have z := cut0 (ns.map V.int) 63
    rw [List.take_of_length_le (by rw [List.length_map]; omega)] at z
    exact z
  rw [ec] at hp2 ⊢
  have e2 : Fr [] H (upd (upd H p1 (.lst (ns.map V.int))) p2 (.lst (ns.map V.int))) := (Fr.new hp1).trans (Fr.new hp2)
  have h2 : (upd (upd H p1 (.lst (ns.map V.int))) p2 (.lst (ns.map V.int))) p2 = some (.lst (ns.map V.int)) := upd_same
  generalize upd (upd H p1 (.lst (ns.map V.int))) p2 (.lst (ns.map V.int)) = H2 at *
  repeat walk_at "st"
  refine ⟨_, rfl, ⟨_, SqL.of h2⟩, for_list (K := K) (a := p2) (xs := ns.map V.int) (fun i σ H' => ∃ (k : Int) (c : Option V), σ = [some (.ref a), some (.ref p2), some (.int k), c] ∧ H' = H2) ⟨_, _, rfl, rfl⟩ (fun i σ H' _ h => ?_) (fun i x σ H' hi h => ?_) (fun σ H' h => ?_)⟩
  · obtain ⟨k, c, rfl, rfl⟩ := h
    exact SqL.of h2
  · obtain ⟨k, c, rfl, rfl⟩ := h
    obtain ⟨n, _, rfl⟩ := List.mem_map.mp (List.mem_of_getElem? hi)
    repeat walk_at "st"
    exact ⟨_, _, rfl, rfl⟩
  · obtain ⟨k, c, rfl, rfl⟩ := h
    repeat walk_at "st"
    refine ⟨le_of (by simp), fun p3 hp3 => ?_⟩
    refine q p3 p2 _ (e2.trans (Fr.new hp3)) (e2.back (fun z => nomatch z) hp3) ⟨ns, 0, 0, k, upd_same, by rw [upd_ne (ne_of_none h2 hp3)]; exact h2, Int.le_refl 0⟩
theorem ok__law_pull {f : Addr} {fd : FuncData} (F : FnP K "_law_pull" s__law_pull f fd) (B : Bi mg) : FnG P w K mg base CX0 10 f fd ["_law_bag_here", "_law_upto"] spPull := by
  refine okG F sc__law_pull (fun vs H Q E h => ?_) (fun cdv A outer s H vs Q E hr h => ?_)
  · obtain ⟨b, cs, u, rfl, _⟩ := h
    rfl
  obtain ⟨b, cs, u, rfl, hB, hu0, hu1, q⟩ := h
  obtain ⟨cells, i, r, k, hb, hc, hi⟩ := id hB.ex
  refine ⟨_, PSs.nox (pss_cons (ps_if (pt_cmpR (kOp (K := K) (r := uLt) rfl opu_lt) (pe_ix (kIx (K := K) (r := rIx) rfl ix_seq) (pv 0) pe_int (fun _ _ => rfl)) pe_int (nomark _)) (pss_cons (ps_asg (pe_op (kOp (K := K) (r := uAdd) rfl opu_add) (pe_ix (kIx (K := K) (r := rIx) rfl ix_seq) (pv 0) pe_int (fun _ _ => rfl)) pe_int) (pg_sub (pv 0) pe_int set_list))
  (pss_cons (ps_set (i := 2) sc__law_pull.nd rfl (.inl rfl) (pe_op (kOp (K := K) (r := uAdd) rfl opu_add) (pe_ix (kIx (K := K) (r := rIx) rfl ix_seq) (pv 0) pe_int (fun _ _ => rfl)) (pe_op opu_mul (pe_ix (kIx (K := K) (r := rIx) rfl ix_seq) (pv 0) pe_int (fun _ _ => rfl)) pe_int)))
  (pss_cons (ps_if (pt_cmpR opu_le (pe_ix (kIx (K := K) (r := rIx) rfl ix_seq) (pv 0) pe_int (fun _ _ => rfl)) (pe_callB (kCall (K := K) (r := uLen) rfl callu_len) (by rfl) B.b_len (by decide +kernel) (pa_cons (pe_ix (kIx (K := K) (r := rIx) rfl ix_seq) (pv 0) pe_int (fun _ _ => rfl)) pa_nil)) (nomark _)) (pss_one (ps_set (i := 2) sc__law_pull.nd rfl (.inl rfl) (pe_ix (kIx (K := K) (r := rIx) rfl ix_seq) (pe_ix (kIx (K := K) (r := rIx) rfl ix_seq) (pv 0) pe_int (fun _ _ => rfl)) (pe_op opu_sub (pe_ix (kIx (K := K) (r := rIx) rfl ix_seq) (pv 0) pe_int (fun _ _ => rfl)) pe_int) (fun _ _ => rfl)))) pss_nil)
  (pss_cons (ps_if (PW.pt (pw_or (pt_cmpR opu_gt (pe_ix (kIx (K := K) (r := rIx) rfl ix_seq) (pv 0) pe_int (fun _ _ => rfl)) (pe_callB (kCall (K := K) (r := uLen) rfl callu_len) (by rfl) B.b_len (by decide +kernel) (pa_cons (pe_ix (kIx (K := K) (r := rIx) rfl ix_seq) (pv 0) pe_int (fun _ _ => rfl)) pa_nil)) (nomark _)) (pw_or1 (pt_cmpR (kOp (K := K) (r := uLt) rfl opu_lt) (pv 2) (pe_op opu_pow pe_int pe_int) (nomark _))))) (pss_cons (ps_set (i := 3) sc__law_pull.nd rfl (.inl rfl) (pe_op opu_mod (pe_op (kOp (K := K) (r := uAdd) rfl opu_add) (pe_op (kOp (K := K) (r := uAdd) rfl opu_add) (pe_op opu_mul (pv 2) pe_int) (pe_op opu_mul (pe_ix (kIx (K := K) (r := rIx) rfl ix_seq) (pv 0) pe_int (fun _ _ => rfl)) pe_int)) (pe_ix (kIx (K := K) (r := rIx) rfl ix_seq) (pv 0) pe_int (fun _ _ => rfl))) pe_int))
  (pss_cons (ps_set (i := 4) sc__law_pull.nd rfl (.inl rfl) (pe_op opu_mod (pe_op (kOp (K := K) (r := uAdd) rfl opu_add) (pe_op opu_mul (pv 3) (pv 3)) (pe_ix (kIx (K := K) (r := rIx) rfl ix_seq) (pv 0) pe_int (fun _ _ => rfl))) pe_int))
  (pss_one (ps_ret (pe_op opu_mod (pe_op opu_div (pe_op opu_mod (pe_op (kOp (K := K) (r := uAdd) rfl opu_add) (pe_op opu_mul (pv 4) pe_int) (pv 3)) pe_int) pe_int) (pv 1)))))) pss_nil)
  (pss_one (ps_asg (pv 2) (pg_sub (pv 0) pe_int set_list))))))) pss_nil)
  (pss_cons (ps_set (i := 5) sc__law_pull.nd rfl (.inl rfl) (pe_op opu_mod (pe_ix (kIx (K := K) (r := rIx) rfl ix_seq) (pv 0) pe_int (fun _ _ => rfl)) (pv 1)))
  (pss_cons (ps_asg (pe_op opu_div (pe_ix (kIx (K := K) (r := rIx) rfl ix_seq) (pv 0) pe_int (fun _ _ => rfl)) (pv 1)) (pg_sub (pv 0) pe_int set_list))
  (pss_one (ps_ret (pv 5)))))), rd_start (σ0 := [some (.ref b), some (.int u), none, none, none, none]) rfl ?_⟩
  unfold bagO at hb
  have hcb := hB.ne
  repeat walk_at "st"
  refine g_by (fun c1 => ?_) (fun c1 => ?_)
  · repeat walk_at "st"
    refine g_setL (j := 1) hb rfl ?_
    have hb1 : (upd H b (.lst ([V.ref cs, .int i, .int r, .int k].set 1 (.int (i + 1))))) b = some (.lst [V.ref cs, .int (i + 1), .int r, .int k]) := upd_same
    have hc1 : (upd H b (.lst ([V.ref cs, .int i, .int r, .int k].set 1 (.int (i + 1))))) cs = some (.lst (cells.map V.int)) := by rw [upd_ne hcb]; exact hc
    have hf1 : Fr [b] H (upd H b (.lst ([V.ref cs, .int i, .int r, .int k].set 1 (.int (i + 1))))) := hB.frp
    generalize upd H b (.lst ([V.ref cs, .int i, .int r, .int k].set 1 (.int (i + 1)))) = H1 at *
    repeat walk_at "st"
    refine g_by (fun c2 => ?_) (fun c2 => ?_)
    · repeat walk_at "st"
      have hl : i + 1 ≤ (cells.length : Int) := by rw [List.length_map] at c2; exact c2
      obtain ⟨j, rfl⟩ : ∃ j : Nat, i = (j : Int) := ⟨i.toNat, by omega⟩
      have hj : j < cells.length := by omega
      have hat : atI (cells.map V.int) ((j : Int) + 1 - 1) = some (.int cells[j]) := by
        rw [show (j : Int) + 1 - 1 = (j : Int) by omega]
        exact atI_nat (by rw [List.getElem?_map, List.getElem?_eq_getElem hj]; rfl)
      refine g_ixL (SqL.of hc1) hat ?_
      generalize cells[j] = seed
      repeat walk_at "st"
      have hB1 : BagAt H1 b cs := ⟨cells, _, r, k, hb1, hc1, by omega⟩
      refine g_by (fun c3 => ?_) (fun c3 => ?_)
      · have key : ∀ z : Int, Q (.int (z % u)) H1 := fun z => q _ _ (Int.emod_nonneg _ (by omega)) (Int.emod_lt_of_pos _ hu0) hB1 hf1
        repeat walk_at "st"
        exact key _
      · repeat walk_at "st"
        refine g_by (fun c4 => ?_) (fun c4 => ?_)
        · have key : ∀ z : Int, Q (.int (z % u)) H1 := fun z => q _ _ (Int.emod_nonneg _ (by omega)) (Int.emod_lt_of_pos _ hu0) hB1 hf1
          repeat walk_at "st"
          exact key _
        · repeat walk_at "st"
          refine g_setL (j := 2) hb1 rfl ?_
          have hb2 : (upd H1 b (.lst ([V.ref cs, .int ((j : Int) + 1), .int r, .int k].set 2 (.int seed)))) b = some (.lst [V.ref cs, .int ((j : Int) + 1), .int seed, .int k]) := upd_same
          have hB2 : BagAt (upd H1 b (.lst ([V.ref cs, .int ((j : Int) + 1), .int r, .int k].set 2 (.int seed)))) b cs := hB1.put (by omega)
          have hf2 : Fr [b] H (upd H1 b (.lst ([V.ref cs, .int ((j : Int) + 1), .int r, .int k].set 2 (.int seed)))) := hf1.trans hB1.frp
          generalize upd H1 b (.lst ([V.ref cs, .int ((j : Int) + 1), .int r, .int k].set 2 (.int seed))) = H2 at *
          repeat walk_at "st"
          refine g_setL (j := 2) hb2 rfl ?_
          repeat walk_at "st"
          exact q _ _ (Int.emod_nonneg _ (by omega)) (Int.emod_lt_of_pos _ hu0) (hB2.put (by omega)) (hf2.trans hB2.frp)
    · repeat walk_at "st"
      generalize k + (i + 1) * 7919 = seed
      repeat walk_at "st"
      have hB1 : BagAt H1 b cs := ⟨cells, _, r, k, hb1, hc1, by omega⟩
      refine g_by (fun c3 => ?_) (fun c3 => ?_)
      · have key : ∀ z : Int, Q (.int (z % u)) H1 := fun z => q _ _ (Int.emod_nonneg _ (by omega)) (Int.emod_lt_of_pos _ hu0) hB1 hf1
        repeat walk_at "st"
        exact key _
      · repeat walk_at "st"
        refine g_by (fun c4 => ?_) (fun c4 => ?_)
        · have key : ∀ z : Int, Q (.int (z % u)) H1 := fun z => q _ _ (Int.emod_nonneg _ (by omega)) (Int.emod_lt_of_pos _ hu0) hB1 hf1
          repeat walk_at "st"
          exact key _
        · repeat walk_at "st"
          refine g_setL (j := 2) hb1 rfl ?_
          have hb2 : (upd H1 b (.lst ([V.ref cs, .int (i + 1), .int r, .int k].set 2 (.int seed)))) b = some (.lst [V.ref cs, .int (i + 1), .int seed, .int k]) := upd_same
          have hB2 : BagAt (upd H1 b (.lst ([V.ref cs, .int (i + 1), .int r, .int k].set 2 (.int seed)))) b cs := hB1.put (by omega)
          have hf2 : Fr [b] H (upd H1 b (.lst ([V.ref cs, .int (i + 1), .int r, .int k].set 2 (.int seed)))) := hf1.trans hB1.frp
          generalize upd H1 b (.lst ([V.ref cs, .int (i + 1), .int r, .int k].set 2 (.int seed))) = H2 at *
          repeat walk_at "st"
          refine g_setL (j := 2) hb2 rfl ?_
          repeat walk_at "st"
          exact q _ _ (Int.emod_nonneg _ (by omega)) (Int.emod_lt_of_pos _ hu0) (hB2.put (by omega)) (hf2.trans hB2.frp)
  · repeat walk_at "st"
    refine g_setL (j := 2) hb rfl ?_
    repeat walk_at "st"
    exact q _ _ (Int.emod_nonneg _ (by omega)) (Int.emod_lt_of_pos _ hu0) (hB.put hi) hB.frp
end

theorem atI_in {α : Type} {xs : List α} {d : Int} (h0 : 0 ≤ d) (h1 : d < (xs.length : Int)) : ∃ v, v ∈ xs ∧ atI xs d = some v := by
  obtain ⟨j, rfl⟩ : ∃ j : Nat, d = (j : Int) := ⟨d.toNat, by omega⟩
  have hj : j < xs.length := by omega
  exact ⟨xs[j], List.getElem_mem hj, atI_nat (List.getElem?_eq_getElem hj)⟩
def spOne (K : PySem.W.Frag) : Sp := fun vs H Q _ => ∃ (b cs r : Addr) (xs : List V), vs = [.ref b, .ref r] ∧ BagAt H b cs ∧ ((SqL K H r xs ∧ r ≠ b) ∨ SqT K H r xs) ∧ 0 < xs.length ∧ xs.length ≤ 1000 ∧
  ∀ v H', v ∈ xs → BagAt H' b cs → Fr [b] H H' → Q v H'
abbrev s__law_one : Stmt := topS 6
theorem sc__law_one : FnScope ["_law_bag_here", "_law_row"] ["_law_bag_here", "_law_row"] (defScope s__law_one) := ⟨rfl, rfl, rfl, by decide +kernel, rfl, by decide +kernel, by decide +kernel⟩
section
variable {P : Program} {w : World} {K : PySem.W.Frag} {mg : Str → Option Value} {base : Heap}
theorem ok__law_one {f : Addr} {fd : FuncData} (F : FnP K "_law_one" s__law_one f fd) (B : Bi mg) (C__law_pull : CalG P w K mg base 10 "_law_pull" spPull) : FnG P w K mg base CX0 20 f fd ["_law_bag_here", "_law_row"] (spOne K) := by
  refine okG F sc__law_one (fun vs H Q E h => ?_) (fun cdv A outer s H vs Q E hr h => ?_)
  · obtain ⟨b, cs, r, xs, rfl, _⟩ := h
    rfl
  obtain ⟨b, cs, r, xs, rfl, hB, hx, h0, h1, q⟩ := h
  refine ⟨_, PSs.nox (pss_one (ps_ret (pe_ix (kIx (K := K) (r := rIx) rfl ix_seq) (pv 1) (pe_calG C__law_pull hr rfl (pa_cons (pv 0) (pa_cons (pe_callB (kCall (K := K) (r := uLen) rfl callu_len) (by rfl) B.b_len (by decide +kernel) (pa_cons (pv 1) pa_nil)) pa_nil))) (fun _ _ => rfl)))), rd_start (σ0 := [some (.ref b), some (.ref r)]) rfl ?_⟩
  repeat walk_at "st"
  refine g_len (hx.imp (fun z => z.1) id) ?_
  repeat walk_at "st"
  refine ⟨b, cs, _, rfl, hB, by omega, Int.lt_of_le_of_lt (b := 1000) (by omega) (by decide), fun d H' d0 d1 hB' hF => ?_⟩
  obtain ⟨v, hv, ha⟩ := atI_in d0 d1
  rcases hx with ⟨hx, hn⟩ | hx
  · exact g_ixL (hF.seq (fun z => hn (List.mem_singleton.mp z)) hx) ha (q v H' hv hB' hF)
  · exact g_ixT (hF.tup hx) ha (q v H' hv hB' hF)
end
/-! ### words -/
def isLet (c : Nat) : Bool := decide (97 ≤ c ∧ c ≤ 122)
def isFig (c : Nat) : Bool := decide (48 ≤ c ∧ c ≤ 57)
def WordP (x : Str) : Prop := ∃ c r, x.cps.toList = c :: r ∧ isLet c = true ∧ (∀ d ∈ r, (isLet d || isFig d) = true) ∧ r.length ≤ 11
def signs36 : Str := "abcdefghijklmnopqrstuvwxyz0123456789"
theorem signs36_list : signs36.cps.toList = [97, 98, 99, 100, 101, 102, 103, 104, 105, 106, 107, 108, 109, 110, 111, 112, 113, 114, 115, 116, 117, 118, 119, 120, 121, 122, 48, 49, 50, 51, 52, 53, 54, 55, 56, 57] := by decide +kernel
theorem signs36_at {d : Int} (h0 : 0 ≤ d) (h1 : d < 36) : ∃ c, atI signs36.cps.toList d = some c ∧ (isLet c || isFig c) = true := by
  obtain ⟨c, hc, ha⟩ := atI_in (xs := signs36.cps.toList) h0 (by rw [signs36_list]; exact h1)
  refine ⟨c, ha, ?_⟩
  rw [signs36_list] at hc
  have z : ∀ x ∈ ([97, 98, 99, 100, 101, 102, 103, 104, 105, 106, 107, 108, 109, 110, 111, 112, 113, 114, 115, 116, 117, 118, 119, 120, 121, 122, 48, 49, 50, 51, 52, 53, 54, 55, 56, 57] : List Nat), (isLet x || isFig x) = true := by decide
  exact z c hc
theorem signs26_at {d : Int} (h0 : 0 ≤ d) (h1 : d < 26) : ∃ c, atI signs36.cps.toList d = some c ∧ isLet c = true := by
  obtain ⟨j, rfl⟩ : ∃ j : Nat, d = (j : Int) := ⟨d.toNat, by omega⟩
  have hj : j < 26 := by omega
  have z : ∀ j : Nat, j < 26 → ∃ c, signs36.cps.toList[j]? = some c ∧ isLet c = true := by
    rw [signs36_list]
    intro j hj
    have y : ∀ i : Fin 26, isLet (([97, 98, 99, 100, 101, 102, 103, 104, 105, 106, 107, 108, 109, 110, 111, 112, 113, 114, 115, 116, 117, 118, 119, 120, 121, 122, 48, 49, 50, 51, 52, 53, 54, 55, 56, 57] : List Nat).getD i.val 0) = true := by decide
    have y2 := y ⟨j, hj⟩
    have hl : j < ([97, 98, 99, 100, 101, 102, 103, 104, 105, 106, 107, 108, 109, 110, 111, 112, 113, 114, 115, 116, 117, 118, 119, 120, 121, 122, 48, 49, 50, 51, 52, 53, 54, 55, 56, 57] : List Nat).length := by
      show j < 36
      omega
    refine ⟨_, List.getElem?_eq_getElem hl, ?_⟩
    rw [List.getD_eq_getElem?_getD, List.getElem?_eq_getElem hl] at y2
    exact y2
  obtain ⟨c, h1, h2⟩ := z j hj
  exact ⟨c, atI_nat h1, h2⟩
theorem len_le12 {x : Str} (h : WordP x) : x.length ≤ 12 := by
  obtain ⟨c, r, e, _, _, l⟩ := h
  rw [TL.len_tl]
  show x.cps.toList.length ≤ 12
  rw [e, List.length_cons]
  omega
def spWord : Sp := fun vs H Q _ => ∃ (b cs : Addr), vs = [.ref b] ∧ BagAt H b cs ∧ ∀ x H', WordP x → BagAt H' b cs → Fr [b] H H' → Q (.str x) H'
abbrev s__law_word : Stmt := topS 8
theorem sc__law_word : FnScope ["_law_bag_here", "_law_signs", "_law_word_here", "_law_k"] ["_law_bag_here"] (defScope s__law_word) := ⟨rfl, rfl, rfl, by decide +kernel, rfl, by decide +kernel, by decide +kernel⟩
section
variable {P : Program} {w : World} {K : PySem.W.Frag} {mg : Str → Option Value} {base : Heap}
theorem ok__law_word {f : Addr} {fd : FuncData} (F : FnP K "_law_word" s__law_word f fd) (B : Bi mg) (C__law_pull : CalG P w K mg base 10 "_law_pull" spPull) (C__law_one : CalG P w K mg base 20 "_law_one" (spOne K)) : FnG P w K mg base CX0 30 f fd ["_law_bag_here"] spWord := by
  refine okG F sc__law_word (fun vs H Q E h => ?_) (fun cdv A outer s H vs Q E hr h => ?_)
  · obtain ⟨b, cs, rfl, _⟩ := h
    rfl
  obtain ⟨b, cs, rfl, hB, q⟩ := h
  refine ⟨_, PSs.nox (pss_cons (ps_set (i := 1) sc__law_word.nd rfl (.inl rfl) pe_str)
  (pss_cons (ps_set (i := 2) sc__law_word.nd rfl (.inl rfl) (pe_ix (kIx (K := K) (r := rIx) rfl ix_seq) (pv 1) (pe_calG C__law_pull hr rfl (pa_cons (pv 0) (pa_cons pe_int pa_nil))) (fun _ _ => rfl)))
  (pss_cons (ps_for PassesOwn.never rfl (pi_range1 rfl B.b_range (pa_cons (pe_calG C__law_pull hr rfl (pa_cons (pv 0) (pa_cons (pe_calG C__law_one hr rfl (pa_cons (pv 0) (pa_cons (pe_lst (pa_cons pe_int (pa_cons pe_int pa_nil))) pa_nil))) pa_nil))) pa_nil)) (pg_name (i := 3) sc__law_word.nd rfl (by first | exact Or.inl rfl | exact Or.inr rfl)) (pss_one (ps_set (i := 2) sc__law_word.nd rfl (.inl rfl) (pe_op (kOp (K := K) (r := uAdd) rfl opu_add) (pv 2) (pe_ix (kIx (K := K) (r := rIx) rfl ix_seq) (pv 1) (pe_calG C__law_pull hr rfl (pa_cons (pv 0) (pa_cons pe_int pa_nil))) (fun _ _ => rfl))))))
  (pss_one (ps_ret (pv 2)))))), rd_start (σ0 := [some (.ref b), none, none, none]) rfl ?_⟩
  repeat walk_at "st"
  refine ⟨b, cs, _, rfl, hB, by decide, by decide, fun d H1 d0 d1 hB1 hF1 => ?_⟩
  obtain ⟨c0, ha, hc0⟩ := signs26_at d0 d1
  refine g_ixS (le_of (by decide)) ha ?_
  repeat walk_at "st"
  refine ⟨le_of (by decide), fun p hp => ?_⟩
  have hF2 : Fr [b] H1 (upd H1 p (.lst [V.int 3, .int 12])) := Fr.new hp
  have hB2 := hB1.fr0 (Fr.new (M := []) (o := .lst [V.int 3, .int 12]) hp)
  have hpl : (upd H1 p (.lst [V.int 3, .int 12])) p = some (.lst [V.int 3, .int 12]) := upd_same
  generalize upd H1 p (.lst [V.int 3, .int 12]) = H2 at *
  repeat walk_at "st"
  refine ⟨b, cs, p, [V.int 3, .int 12], rfl, hB2, .inl ⟨SqL.of hpl, (hB1.some hp).1⟩, by decide, by decide, fun v H3 hv hB3 hF3 => ?_⟩
  obtain ⟨n, rfl, n0, n1⟩ : ∃ n : Int, v = .int n ∧ 0 < n ∧ n ≤ 12 := by
    rcases List.mem_cons.mp hv with e | hv
    · exact ⟨3, e, by decide, by decide⟩
    · exact ⟨12, List.mem_singleton.mp hv, by decide, by decide⟩
  repeat walk_at "st"
  refine ⟨b, cs, n, rfl, hB3, n0, Int.lt_of_le_of_lt n1 (by decide), fun m H4 m0 m1 hB4 hF4 => ?_⟩
  repeat walk_at "st"
  refine ⟨m, rfl, by omega, by omega, for_range (lo := 0) (n := m.toNat) (fun i σ H' => ∃ (x : Str) (z : Option V), σ = [some (.ref b), some (.str signs36), some (.str x), z] ∧ Fr [b] H H' ∧ BagAt H' b cs ∧
    ∃ r, x.cps.toList = c0 :: r ∧ (∀ d ∈ r, (isLet d || isFig d) = true) ∧ r.length = i) ⟨_, _, rfl, ((hF1.trans hF2).trans hF3).trans hF4, hB4, [], rfl, (fun _ z => nomatch z), rfl⟩ (fun i σ H' hi h => ?_) (fun σ H' h => ?_)⟩
  · obtain ⟨x, z, rfl, hF, hB', r, hx, hr1, hr2⟩ := h
    repeat walk_at "st"
    refine ⟨b, cs, _, rfl, hB', by decide, by decide, fun d H5 d0 d1 hB5 hF5 => ?_⟩
    obtain ⟨c1, ha1, hc1⟩ := signs36_at d0 d1
    refine g_ixS (le_of (by decide)) ha1 ?_
    have hxl : x.length = r.length + 1 := by rw [TL.len_tl]; show x.cps.toList.length = _; rw [hx]; rfl
    refine g_addS (le_of (by rw [hxl]; show r.length + 1 + 1 ≤ _; omega)) ?_
    repeat walk_at "st"
    refine ⟨_, _, rfl, hF.trans hF5, hB5, r ++ [c1], ?_, ?_, by rw [List.length_append, hr2]; rfl⟩
    · show TL.tl (x ++ ⟨#[c1]⟩) = _
      rw [TL.tl_append]
      show x.cps.toList ++ [c1] = _
      rw [hx]
      rfl
    · intro d hd
      rcases List.mem_append.mp hd with hd | hd
      · exact hr1 d hd
      · rw [List.mem_singleton.mp hd]; exact hc1
  · obtain ⟨x, z, rfl, hF, hB', r, hx, hr1, hr2⟩ := h
    repeat walk_at "st"
    exact q x H' ⟨c0, r, hx, hc0, hr1, by omega⟩ hB' hF
end
/-! ### numbers, values -/
def spNumber : Sp := fun vs H Q _ => ∃ (b cs : Addr), vs = [.ref b] ∧ BagAt H b cs ∧ ∀ n H', -(10 ^ 30) < n → n < 10 ^ 30 → BagAt H' b cs → Fr [b] H H' → Q (.int n) H'
abbrev s__law_number : Stmt := topS 9
theorem sc__law_number : FnScope ["_law_bag_here"] ["_law_bag_here"] (defScope s__law_number) := ⟨rfl, rfl, rfl, by decide +kernel, rfl, by decide +kernel, by decide +kernel⟩
section
variable {P : Program} {w : World} {K : PySem.W.Frag} {mg : Str → Option Value} {base : Heap}
theorem ok__law_number {f : Addr} {fd : FuncData} (F : FnP K "_law_number" s__law_number f fd) (C__law_pull : CalG P w K mg base 10 "_law_pull" spPull) : FnG P w K mg base CX0 30 f fd ["_law_bag_here"] spNumber := by
  refine okG F sc__law_number (fun vs H Q E h => ?_) (fun cdv A outer s H vs Q E hr h => ?_)
  · obtain ⟨b, cs, rfl, _⟩ := h
    rfl
  obtain ⟨b, cs, rfl, hB, q⟩ := h
  refine ⟨_, PSs.nox (pss_cons (ps_if (pt_cmpR (kOp (K := K) (r := uEq) rfl (opu_eq hr.units)) (pe_calG C__law_pull hr rfl (pa_cons (pv 0) (pa_cons pe_int pa_nil))) pe_int (nomark _)) (pss_one (ps_ret (pe_op opu_mul (pe_ix (kIx (K := K) (r := rIx) rfl ix_seq) (pe_lst (pa_cons pe_int (pa_cons (pe_op opu_sub pe_int pe_int) pa_nil))) (pe_calG C__law_pull hr rfl (pa_cons (pv 0) (pa_cons pe_int pa_nil))) (fun _ _ => rfl)) (pe_calG C__law_pull hr rfl (pa_cons (pv 0) (pa_cons (pe_op opu_pow pe_int pe_int) pa_nil)))))) pss_nil)
  (pss_one (ps_ret (pe_op opu_sub (pe_calG C__law_pull hr rfl (pa_cons (pv 0) (pa_cons pe_int pa_nil))) pe_int)))), rd_start (σ0 := [some (.ref b)]) rfl ?_⟩
  repeat walk_at "st"
  refine ⟨b, cs, _, rfl, hB, by decide, by decide, fun d H1 d0 d1 hB1 hF1 => ?_⟩
  repeat walk_at "st"
  refine g_by (fun c => ?_) (fun c => ?_)
  · repeat walk_at "st"
    refine ⟨le_of (by decide), fun p hp => ?_⟩
    have hF2 : Fr [b] H1 (upd H1 p (.lst [V.int 1, .int (0 - 1)])) := Fr.new hp
    have hB2 := hB1.fr0 (Fr.new (M := []) (o := .lst [V.int 1, .int (0 - 1)]) hp)
    have hpl : (upd H1 p (.lst [V.int 1, .int (0 - 1)])) p = some (.lst [V.int 1, .int (0 - 1)]) := upd_same
    generalize upd H1 p (.lst [V.int 1, .int (0 - 1)]) = H2 at *
    repeat walk_at "st"
    refine ⟨b, cs, _, rfl, hB2, by decide, by decide, fun d2 H3 d20 d21 hB3 hF3 => ?_⟩
    obtain ⟨v, hv, ha⟩ := atI_in (xs := [V.int 1, .int (0 - 1)]) d20 d21
    refine g_ixL (hF3.seq (fun z => (hB1.some hp).1 (List.mem_singleton.mp z)) (SqL.of hpl)) ha ?_
    repeat walk_at "st"
    refine ⟨b, cs, _, rfl, hB3, by decide +kernel, by decide +kernel, fun d4 H5 d40 d41 hB5 hF5 => ?_⟩
    have d41' : d4 < 10 ^ 30 := d41
    have fin : ∀ n : Int, -(10 ^ 30) < n → n < 10 ^ 30 → Q (.int n) H5 := fun n h1 h2 => q n H5 h1 h2 hB5 (((hF1.trans hF2).trans hF3).trans hF5)
    rcases List.mem_cons.mp hv with e | hv
    · subst e
      repeat walk_at "st"
      exact fin _ (by omega) (by omega)
    · obtain rfl : v = .int (0 - 1) := List.mem_singleton.mp hv
      repeat walk_at "st"
      exact fin _ (by omega) (by omega)
  · repeat walk_at "st"
    refine ⟨b, cs, _, rfl, hB1, by decide, by decide, fun d2 H2 d20 d21 hB2 hF2 => ?_⟩
    repeat walk_at "st"
    exact q _ _ (by omega) (by omega) hB2 (hF1.trans hF2)
end
/-- a value of a kind -/
def ValOf (k : Str) (v : V) : Prop := (k = "number" ∧ ∃ n, v = .int n ∧ -(10 ^ 30) < n ∧ n < 10 ^ 30) ∨ (k = "flag" ∧ ∃ c, v = .bl c) ∨ (k = "word" ∧ ∃ x, v = .str x ∧ WordP x)
def spValue : Sp := fun vs H Q _ => ∃ (b cs : Addr) (k : Str), vs = [.ref b, .str k] ∧ (k = "number" ∨ k = "flag" ∨ k = "word") ∧ BagAt H b cs ∧ ∀ v H', ValOf k v → BagAt H' b cs → Fr [b] H H' → Q v H'
abbrev s__law_value : Stmt := topS 10
theorem sc__law_value : FnScope ["_law_bag_here", "_law_kind"] ["_law_bag_here", "_law_kind"] (defScope s__law_value) := ⟨rfl, rfl, rfl, by decide +kernel, rfl, by decide +kernel, by decide +kernel⟩
def wordB (x : Str) : Bool := match x.cps.toList with
  | [] => false
  | c :: r => isLet c && r.all (fun d => isLet d || isFig d) && decide (r.length ≤ 11)
theorem wordB_ok {x : Str} (h : wordB x = true) : WordP x := by
  unfold wordB at h
  cases e : x.cps.toList with
  | nil => rw [e] at h; cases h
  | cons c r =>
    rw [e] at h
    simp only [Bool.and_eq_true, decide_eq_true_eq, List.all_eq_true] at h
    exact ⟨c, r, e, h.1.1, h.1.2, h.2⟩
theorem WordP.b {x : Str} (h : WordP x) : wordB x = true := by
  obtain ⟨c, r, e, h1, h2, h3⟩ := h
  unfold wordB
  rw [e]
  simp only [Bool.and_eq_true, decide_eq_true_eq, List.all_eq_true]
  exact ⟨⟨h1, h2⟩, h3⟩
section
variable {P : Program} {w : World} {K : PySem.W.Frag} {mg : Str → Option Value} {base : Heap}
theorem ok__law_value {f : Addr} {fd : FuncData} (F : FnP K "_law_value" s__law_value f fd) (C__law_pull : CalG P w K mg base 10 "_law_pull" spPull) (C__law_one : CalG P w K mg base 20 "_law_one" (spOne K))
    (C__law_word : CalG P w K mg base 30 "_law_word" spWord) (C__law_number : CalG P w K mg base 30 "_law_number" spNumber) : FnG P w K mg base CX0 40 f fd ["_law_bag_here", "_law_kind"] spValue := by
  refine okG F sc__law_value (fun vs H Q E h => ?_) (fun cdv A outer s H vs Q E hr h => ?_)
  · obtain ⟨b, cs, k, rfl, _⟩ := h
    rfl
  obtain ⟨b, cs, k, rfl, hk, hB, q⟩ := h
  refine ⟨_, PSs.nox (pss_cons (ps_if (pt_cmpR (kOp (K := K) (r := uEq) rfl (opu_eq hr.units)) (pv 1) pe_str (nomark _)) (pss_one (ps_ret (pe_calG C__law_number hr rfl (pa_cons (pv 0) pa_nil)))) pss_nil)
  (pss_cons (ps_if (pt_cmpR (kOp (K := K) (r := uEq) rfl (opu_eq hr.units)) (pv 1) pe_str (nomark _)) (pss_one (ps_ret (pe_cmpR (kOp (K := K) (r := uEq) rfl (opu_eq hr.units)) (pe_calG C__law_pull hr rfl (pa_cons (pv 0) (pa_cons pe_int pa_nil))) pe_int (nomark _)))) pss_nil)
  (pss_cons (ps_if (pt_cmpR (kOp (K := K) (r := uEq) rfl (opu_eq hr.units)) (pe_calG C__law_pull hr rfl (pa_cons (pv 0) (pa_cons pe_int pa_nil))) pe_int (nomark _)) (pss_one (ps_ret (pe_calG C__law_word hr rfl (pa_cons (pv 0) pa_nil)))) pss_nil)
  (pss_one (ps_ret (pe_calG C__law_one hr rfl (pa_cons (pv 0) (pa_cons (pe_lst (pa_cons pe_str (pa_cons pe_str (pa_cons pe_str (pa_cons pe_str (pa_cons pe_str pa_nil)))))) pa_nil)))))))), rd_start (σ0 := [some (.ref b), some (.str k)]) rfl ?_⟩
  rcases hk with rfl | rfl | rfl
  · repeat walk_at "st"
    exact ⟨b, cs, rfl, hB, fun n H' h1 h2 hB' hF => q _ _ (.inl ⟨rfl, n, rfl, h1, h2⟩) hB' hF⟩
  · repeat walk_at "st"
    refine ⟨b, cs, _, rfl, hB, by decide, by decide, fun d H1 d0 d1 hB1 hF1 => ?_⟩
    repeat walk_at "st"
    exact q _ _ (.inr (.inl ⟨rfl, _, rfl⟩)) hB1 hF1
  · repeat walk_at "st"
    refine ⟨b, cs, _, rfl, hB, by decide, by decide, fun d H1 d0 d1 hB1 hF1 => ?_⟩
    repeat walk_at "st"
    refine g_by (fun c => ?_) (fun c => ?_)
    · repeat walk_at "st"
      exact ⟨b, cs, rfl, hB1, fun x H' hx hB' hF => q _ _ (.inr (.inr ⟨rfl, x, rfl, hx⟩)) hB' (hF1.trans hF)⟩
    · repeat walk_at "st"
      refine ⟨le_of (by decide), fun p hp => ?_⟩
      have hF2 : Fr [b] H1 (upd H1 p (.lst [V.str "ann", .str "b", .str "z9", .str "if", .str "me"])) := Fr.new hp
      have hB2 := hB1.fr0 (Fr.new (M := []) (o := .lst [V.str "ann", .str "b", .str "z9", .str "if", .str "me"]) hp)
      have hpl : (upd H1 p (.lst [V.str "ann", .str "b", .str "z9", .str "if", .str "me"])) p = some (.lst [V.str "ann", .str "b", .str "z9", .str "if", .str "me"]) := upd_same
      generalize upd H1 p (.lst [V.str "ann", .str "b", .str "z9", .str "if", .str "me"]) = H2 at *
      repeat walk_at "st"
      refine ⟨b, cs, p, _, rfl, hB2, .inl ⟨SqL.of hpl, (hB1.some hp).1⟩, by decide, by decide, fun v H3 hv hB3 hF3 => ?_⟩
      refine q _ _ (.inr (.inr ⟨rfl, ?_⟩)) hB3 ((hF1.trans hF2).trans hF3)
      simp only [List.mem_cons, List.not_mem_nil, or_false] at hv
      rcases hv with rfl | rfl | rfl | rfl | rfl
      all_goals exact ⟨_, rfl, wordB_ok (by decide +kernel)⟩
end

/-! ### the law's own comparison of data -/
structure BiS (mg : Str → Option Value) : Prop where
  b_isinstance : mg "isinstance" = none
  b_list : mg "list" = none
  b_tuple : mg "tuple" = none
  b_repr : mg "repr" = none
  b_zip : mg "zip" = none
  b_all : mg "all" = none
  b_len : mg "len" = none
def spSame (K : PySem.W.Frag) (n : Nat) : Sp := fun vs H Q _ => ∃ (x y : V) (d : PyData), vs = [x, y] ∧ Dp K H x d ∧ Dp K H y d ∧ Sm n d ∧ ∀ H', Fr [] H H' → Q (.bl true) H'
theorem sm_zero {d : PyData} (h : Sm 0 d) : False := by
  cases d <;> simp only [Sm] at h
abbrev s__law_same : Stmt := topS 7
theorem sc__law_same : FnScope ["_law_found", "_law_due", "_law_same_here", "_law_one_here", "_law_other"] ["_law_found", "_law_due"] (defScope s__law_same) := ⟨rfl, rfl, rfl, by decide +kernel, rfl, by decide +kernel, by decide +kernel⟩
section
variable {P : Program} {w : World} {K : PySem.W.Frag} {mg : Str → Option Value} {base : Heap}
theorem same_leaf {H : Hp} {x y : V} {d : PyData} {n : Nat} (hx : Dp K H x d) (hy : Dp K H y d) (hs : Sm (n + 1) d) (h : ∀ ds, d ≠ .list ds ∧ d ≠ .tuple ds) : x = y ∧ shortV x ∧ ∃ T, TyX K H x (.type T) ∧ kitB T "list" = some false ∧ kitB T "tuple" = some false := by
  cases hx with
  | non => cases hy; exact ⟨rfl, trivial, "NoneType", .base .non, by decide +kernel, by decide +kernel⟩
  | bl b => cases hy; exact ⟨rfl, trivial, "bool", .base (.bl b), by decide +kernel, by decide +kernel⟩
  | int b => cases hy; exact ⟨rfl, hs, "int", .base (.int b), by decide +kernel, by decide +kernel⟩
  | str b => cases hy; exact ⟨rfl, hs, "str", .base (.str b), by decide +kernel, by decide +kernel⟩
  | lst h1 h2 => exact absurd rfl (h _).1
  | tup h1 h2 => exact absurd rfl (h _).2
theorem ok__law_same {n : Nat} {f : Addr} {fd : FuncData} (F : FnP K "_law_same" s__law_same f fd) (B : BiS mg) (C__law_same : CalG P w K mg base n "_law_same" (spSame K n)) : FnG P w K mg base CX0 (n + 1) f fd ["_law_found", "_law_due"] (spSame K (n + 1)) := by
  refine okG F sc__law_same (fun vs H Q E h => ?_) (fun cdv A outer s H vs Q E hr h => ?_)
  · obtain ⟨x, y, d, rfl, _⟩ := h
    rfl
  obtain ⟨x, y, d, rfl, hx, hy, hs, q⟩ := h
  refine ⟨_, PSs.nox (pss_cons (ps_if (pt_not (pt_val (pe_callB (kCall (K := K) (r := uIsi) rfl callu_isi) (by rfl) B.b_isinstance (by decide +kernel) (pa_cons (pv 1) (pa_cons (pe_tup (pa_cons (pe_bltn (v := .ty "list") (by rfl) B.b_list (by decide +kernel) rfl) (pa_cons (pe_bltn (v := .ty "tuple") (by rfl) B.b_tuple (by decide +kernel) rfl) pa_nil))) pa_nil))))) (pss_one (ps_ret (pe_cmpR (kOp (K := K) (r := uEq) rfl (opu_eq hr.units)) (pe_callB (kCall (K := K) (r := uReprG) rfl (callu_reprG hr)) (by rfl) B.b_repr (by decide +kernel) (pa_cons (pv 0) pa_nil)) (pe_callB (kCall (K := K) (r := uReprG) rfl (callu_reprG hr)) (by rfl) B.b_repr (by decide +kernel) (pa_cons (pv 1) pa_nil)) (nomark _)))) pss_nil)
  (pss_cons (ps_if (PW.pt (pw_or (pt_cmpR (kOp (K := K) (r := uNe) rfl (opu_ne hr.units)) (pe_callB (kCall (K := K) (r := uIsi) rfl callu_isi) (by rfl) B.b_isinstance (by decide +kernel) (pa_cons (pv 1) (pa_cons (pe_bltn (v := .ty "list") (by rfl) B.b_list (by decide +kernel) rfl) pa_nil))) (pe_callB (kCall (K := K) (r := uIsi) rfl callu_isi) (by rfl) B.b_isinstance (by decide +kernel) (pa_cons (pv 0) (pa_cons (pe_bltn (v := .ty "list") (by rfl) B.b_list (by decide +kernel) rfl) pa_nil))) (nomark _)) (pw_or1 (pt_cmpR (kOp (K := K) (r := uNe) rfl (opu_ne hr.units)) (pe_callB (kCall (K := K) (r := uIsi) rfl callu_isi) (by rfl) B.b_isinstance (by decide +kernel) (pa_cons (pv 1) (pa_cons (pe_bltn (v := .ty "tuple") (by rfl) B.b_tuple (by decide +kernel) rfl) pa_nil))) (pe_callB (kCall (K := K) (r := uIsi) rfl callu_isi) (by rfl) B.b_isinstance (by decide +kernel) (pa_cons (pv 0) (pa_cons (pe_bltn (v := .ty "tuple") (by rfl) B.b_tuple (by decide +kernel) rfl) pa_nil))) (nomark _))))) (pss_one (ps_ret pe_bl)) pss_nil)
  (pss_cons (ps_setLc (i := 2) (own := [("_law_one_here", 3), ("_law_other", 4)]) (g := gTup K 2 (gCons (gName 3) (gCons (gName 4) gNil))) (tt := tYes) rfl sc__law_same.nd rfl rfl (sw_true rfl rfl rfl (by decide +kernel)) (RZ.pi_zipA (by rfl) B.b_zip (pa_cons (pv 0) (pa_cons (pv 1) pa_nil))) (blkOk_by (own := [("_law_one_here", 3), ("_law_other", 4)]) (N := ["_law_found", "_law_due", "_law_same_here", "_law_one_here", "_law_other"]) (sc := defScope s__law_same) (by decide +kernel)) (fun _ _ _ _ _ => (by exact (pg_tupK (K := K) rfl rfl (pgs_cons (pg_name (i := 3) sc__law_same.nd rfl (by first | exact Or.inl rfl | exact Or.inr rfl)) (pgs_cons (pg_name (i := 4) sc__law_same.nd rfl (by first | exact Or.inl rfl | exact Or.inr rfl)) pgs_nil))))) (fun _ _ _ _ _ => pts_nil) (fun _ _ _ _ _ => (by exact (pe_calG C__law_same hr rfl (pa_cons (pv 3) (pa_cons (pv 4) pa_nil))))))
  (pss_one (ps_ret (pe_andTK (K := K) rfl (pe_cmpR (kOp (K := K) (r := uEq) rfl (opu_eq hr.units)) (pe_callB (kCall (K := K) (r := uLen) rfl callu_len) (by rfl) B.b_len (by decide +kernel) (pa_cons (pv 0) pa_nil)) (pe_callB (kCall (K := K) (r := uLen) rfl callu_len) (by rfl) B.b_len (by decide +kernel) (pa_cons (pv 1) pa_nil)) (nomark _)) (pe_one (pe_callB (kCall (K := K) (r := rAll) rfl (cr_all rfl)) (by rfl) B.b_all (by decide +kernel) (pa_cons (pv 2) pa_nil))))))))), rd_start (σ0 := [some x, some y, none, none, none]) rfl ?_⟩
  repeat walk_at "st"
  refine ⟨le_of (by decide), fun p hp => ?_⟩
  have e1 : Fr [] H (upd H p (.tup [.ty "list", .ty "tuple"])) := Fr.new hp
  have hpt : (upd H p (.tup [.ty "list", .ty "tuple"])) p = some (.tup [.ty "list", .ty "tuple"]) := upd_same
  generalize upd H p (.tup [.ty "list", .ty "tuple"]) = H1 at *
  replace hx := dp_same e1.same hx
  replace hy := dp_same e1.same hy
  repeat walk_at "st"
  by_cases hd : ∀ ds, d ≠ .list ds ∧ d ≠ .tuple ds
  · obtain ⟨rfl, hsh, T, ty, k1, k2⟩ := same_leaf hx hy hs hd
    refine g_isi2 hpt ty k1 k2 ?_
    repeat walk_at "st"
    refine g_reprS hsh ?_
    repeat walk_at "st"
    refine g_reprS hsh ?_
    repeat walk_at "st"
    rw [decide_eq_true rfl]
    exact q _ e1
  · have hcase : (∃ ds, d = .list ds) ∨ (∃ ds, d = .tuple ds) := by
      cases d with
      | list ds => exact .inl ⟨ds, rfl⟩
      | tuple ds => exact .inr ⟨ds, rfl⟩
      | _ => exact absurd (fun ds => ⟨(fun z => nomatch z), (fun z => nomatch z)⟩) hd
    rcases hcase with ⟨ds, rfl⟩ | ⟨ds, rfl⟩
    · obtain ⟨hs1, hs2⟩ := hs
      cases hx with
      | @lst a xs _ ha hxs =>
      cases hy with
      | @lst b ys _ hb hys =>
      refine g_isi2 hpt (tyx_l hb) (b1 := true) (b2 := false) (by decide +kernel) (by decide +kernel) ?_
      repeat walk_at "st"
      refine g_isi (tyx_l hb) (b := true) (by decide +kernel) ?_
      repeat walk_at "st"
      refine g_isi (tyx_l ha) (b := true) (by decide +kernel) ?_
      repeat walk_at "st"
      refine g_isi (tyx_l hb) (b := false) (by decide +kernel) ?_
      repeat walk_at "st"
      refine g_isi (tyx_l ha) (b := false) (by decide +kernel) ?_
      repeat walk_at "st"
      have hl1 := dpa_len hxs
      have hl2 := dpa_len hys
      refine ⟨a, b, xs, ys, rfl, .inl ⟨ha, hb, fun D hD => lc_it (walk_zip (xs := xs) (ys := ys) (n := ds.length) (by omega)) (fun i H' => Fr [] H1 H' ∧ H' D = some (.lst (List.replicate i (.bl true)))) ⟨Fr.new hD, upd_same⟩ (fun i H' _ h => ⟨h.1.seq (fun z => nomatch z) ha, h.1.seq (fun z => nomatch z) hb⟩) (fun i z H' H'' hi h y => ?_) (fun H' h => ?_)⟩⟩
      · obtain ⟨T, u, v, rfl, hT, rfl, hu, hv⟩ := y
        obtain ⟨h1, h2⟩ := h
        repeat walk_at "st"
        refine ⟨rfl, ?_⟩
        repeat walk_at "st"
        have eT : Fr [] H' (upd H' T (.tup [u, v])) := Fr.new hT
        obtain ⟨d1, hd1, q1⟩ := dpa_get hxs hu
        obtain ⟨d2, hd2, q2⟩ := dpa_get hys hv
        have ed : d1 = d2 := Option.some.inj (hd1.symm.trans hd2)
        subst ed
        refine ⟨u, v, d1, rfl, dp_same ((h1.trans eT).same) q1, dp_same ((h1.trans eT).same) q2, hs2 d1 (List.mem_of_getElem? hd1), fun H3 e3 => ?_⟩
        refine ⟨_, e3.at (eT.at h2 (fun z => nomatch z)) (fun z => nomatch z), lt_of (by rw [List.length_replicate]; omega), ((h1.trans eT).trans e3).over hD, ?_⟩
        rw [upd_same, List.replicate_succ']
      · obtain ⟨h1, h2⟩ := h
        repeat walk_at "st"
        refine g_len (.inl (h1.seq (fun z => nomatch z) ha)) ?_
        repeat walk_at "st"
        refine g_len (.inl (h1.seq (fun z => nomatch z) hb)) ?_
        repeat walk_at "st"
        rw [decide_eq_true (show (xs.length : Int) = ys.length by omega)]
        repeat walk_at "st"
        refine ⟨D, List.replicate ds.length true, rfl, SqL.of (by rw [h2, List.map_replicate]), ?_⟩
        rw [show (List.replicate ds.length true).all id = true by simp]
        exact q _ (e1.trans h1)
    · obtain ⟨hs1, hs2⟩ := hs
      cases hx with
      | @tup a xs _ ha hxs =>
      cases hy with
      | @tup b ys _ hb hys =>
      refine g_isi2 hpt (tyx_t hb) (b1 := false) (b2 := true) (by decide +kernel) (by decide +kernel) ?_
      repeat walk_at "st"
      refine g_isi (tyx_t hb) (b := false) (by decide +kernel) ?_
      repeat walk_at "st"
      refine g_isi (tyx_t ha) (b := false) (by decide +kernel) ?_
      repeat walk_at "st"
      refine g_isi (tyx_t hb) (b := true) (by decide +kernel) ?_
      repeat walk_at "st"
      refine g_isi (tyx_t ha) (b := true) (by decide +kernel) ?_
      repeat walk_at "st"
      have hl1 := dpa_len hxs
      have hl2 := dpa_len hys
      refine ⟨a, b, xs, ys, rfl, .inr ⟨ha, hb, fun D hD => lc_it (walk_zipT (xs := xs) (ys := ys) (n := ds.length) (by omega)) (fun i H' => Fr [] H1 H' ∧ H' D = some (.lst (List.replicate i (.bl true)))) ⟨Fr.new hD, upd_same⟩ (fun i H' _ h => ⟨h.1.tup ha, h.1.tup hb⟩) (fun i z H' H'' hi h y => ?_) (fun H' h => ?_)⟩⟩
      · obtain ⟨T, u, v, rfl, hT, rfl, hu, hv⟩ := y
        obtain ⟨h1, h2⟩ := h
        repeat walk_at "st"
        refine ⟨rfl, ?_⟩
        repeat walk_at "st"
        have eT : Fr [] H' (upd H' T (.tup [u, v])) := Fr.new hT
        obtain ⟨d1, hd1, q1⟩ := dpa_get hxs hu
        obtain ⟨d2, hd2, q2⟩ := dpa_get hys hv
        have ed : d1 = d2 := Option.some.inj (hd1.symm.trans hd2)
        subst ed
        refine ⟨u, v, d1, rfl, dp_same ((h1.trans eT).same) q1, dp_same ((h1.trans eT).same) q2, hs2 d1 (List.mem_of_getElem? hd1), fun H3 e3 => ?_⟩
        refine ⟨_, e3.at (eT.at h2 (fun z => nomatch z)) (fun z => nomatch z), lt_of (by rw [List.length_replicate]; omega), ((h1.trans eT).trans e3).over hD, ?_⟩
        rw [upd_same, List.replicate_succ']
      · obtain ⟨h1, h2⟩ := h
        repeat walk_at "st"
        refine g_len (.inr (h1.tup ha)) ?_
        repeat walk_at "st"
        refine g_len (.inr (h1.tup hb)) ?_
        repeat walk_at "st"
        rw [decide_eq_true (show (xs.length : Int) = ys.length by omega)]
        repeat walk_at "st"
        refine ⟨D, List.replicate ds.length true, rfl, SqL.of (by rw [h2, List.map_replicate]), ?_⟩
        rw [show (List.replicate ds.length true).all id = true by simp]
        exact q _ (e1.trans h1)
end

/-! ### by what values and rows stand in order -/
def rankD : V → PyData
  | .bl b => .tuple [.int 2, .int (if b then 1 else 0), .str ""]
  | .int n => .tuple [.int 0, .int n, .str ""]
  | .str z => .tuple [.int 1, .int 0, .str z]
  | _ => .none
def Va (u : V) : Prop := ∃ k, ValOf k u
def sp_rank (K : PySem.W.Frag) : Sp := fun vs H Q _ => ∃ u, vs = [u] ∧ Va u ∧ ∀ y H', Fr [] H H' → Td K H' y (rankD u) → Q y H'
def sp__law_rank (K : PySem.W.Frag) : Sp := fun vs H Q _ => ∃ u, vs = [u] ∧ Va u ∧ ∀ y H', Fr [] H H' → Td K H' y (rankD u) → Q y H'
def sp_row_rank (K : PySem.W.Frag) : Sp := fun vs H Q _ => ∃ r us, vs = [.ref r] ∧ SqT K H r us ∧ (∀ u ∈ us, Va u) ∧ us.length ≤ 10 ∧ ∀ y H', Fr [] H H' → Td K H' y (.tuple (us.map rankD)) → Q y H'
def sp__law_row_rank (K : PySem.W.Frag) : Sp := fun vs H Q _ => ∃ r us, vs = [.ref r] ∧ SqT K H r us ∧ (∀ u ∈ us, Va u) ∧ us.length ≤ 10 ∧ ∀ p xs H', Fr [] H H' → H' p = some (.lst xs) → TdAll K H' xs (us.map rankD) → Q (.ref p) H'
theorem tda_snoc3 {K : PySem.W.Frag} {H : Hp} : ∀ {vs : List V} {ds : List PyData} {v : V} {d : PyData}, TdAll K H vs ds → Td K H v d → TdAll K H (vs ++ [v]) (ds ++ [d])
  | _, _, _, _, .nil, h => .cons h .nil
  | _, _, _, _, .cons a b, h => .cons a (tda_snoc3 b h)
theorem tda_len3 {K : PySem.W.Frag} {H : Hp} : ∀ {vs : List V} {ds : List PyData}, TdAll K H vs ds → vs.length = ds.length
  | _, _, .nil => rfl
  | _, _, .cons _ b => congrArg (· + 1) (tda_len3 b)
structure BiW (mg : Str → Option Value) : Prop where
  b_isinstance : mg "isinstance" = none
  b_bool : mg "bool" = none
  b_int : mg "int" = none
  b_tuple : mg "tuple" = none
abbrev s_rank : Stmt := topS 1
theorem sc_rank : FnScope ["value"] ["value"] (defScope s_rank) := ⟨rfl, rfl, rfl, by decide +kernel, rfl, by decide +kernel, by decide +kernel⟩
abbrev s_row_rank : Stmt := topS 2
theorem sc_row_rank : FnScope ["row", "value"] ["row"] (defScope s_row_rank) := ⟨rfl, rfl, rfl, by decide +kernel, rfl, by decide +kernel, by decide +kernel⟩
abbrev s__law_rank : Stmt := topS 11
theorem sc__law_rank : FnScope ["_law_value_here"] ["_law_value_here"] (defScope s__law_rank) := ⟨rfl, rfl, rfl, by decide +kernel, rfl, by decide +kernel, by decide +kernel⟩
abbrev s__law_row_rank : Stmt := topS 12
theorem sc__law_row_rank : FnScope ["_law_row", "_law_value_here"] ["_law_row"] (defScope s__law_row_rank) := ⟨rfl, rfl, rfl, by decide +kernel, rfl, by decide +kernel, by decide +kernel⟩
section
variable {P : Program} {w : World} {K : PySem.W.Frag} {mg : Str → Option Value} {base : Heap}
theorem ok_rank {f : Addr} {fd : FuncData} (F : FnP K "rank" s_rank f fd) (B : BiW mg) : FnG P w K mg base CX0 5 f fd ["value"] (sp_rank K) := by
  refine okG F sc_rank (fun vs H Q E h => ?_) (fun cdv A outer s H vs Q E hr h => ?_)
  · obtain ⟨u, rfl, _⟩ := h
    rfl
  obtain ⟨u, rfl, ⟨k, hv⟩, q⟩ := h
  refine ⟨_, PSs.nox (pss_cons (ps_if (pt_val (pe_callB (kCall (K := K) (r := uIsi) rfl callu_isi) (by rfl) B.b_isinstance (by decide +kernel) (pa_cons (pv 0) (pa_cons (pe_bltn (v := .ty "bool") (by rfl) B.b_bool (by decide +kernel) rfl) pa_nil)))) (pss_one (ps_ret (pe_tup (pa_cons pe_int (pa_cons (pe_callTy callu_int (by rfl) B.b_int (by decide +kernel) (pa_cons (pv 0) pa_nil)) (pa_cons pe_str pa_nil)))))) pss_nil)
  (pss_one (ps_ret (pe_ifExp (pt_val (pe_callB (kCall (K := K) (r := uIsi) rfl callu_isi) (by rfl) B.b_isinstance (by decide +kernel) (pa_cons (pv 0) (pa_cons (pe_bltn (v := .ty "int") (by rfl) B.b_int (by decide +kernel) rfl) pa_nil)))) (pe_tup (pa_cons pe_int (pa_cons (pv 0) (pa_cons pe_str pa_nil)))) (pe_tup (pa_cons pe_int (pa_cons pe_int (pa_cons (pv 0) pa_nil)))))))), rd_start (σ0 := [some u]) rfl ?_⟩
  repeat walk_at "st"
  rcases hv with ⟨rfl, n, rfl, _⟩ | ⟨rfl, c, rfl⟩ | ⟨rfl, x, rfl, _⟩
  · refine g_isi (b := false) (.base (.int n)) (by decide +kernel) ?_
    repeat walk_at "st"
    refine g_isi (b := true) (.base (.int n)) (by decide +kernel) ?_
    repeat walk_at "st"
    refine ⟨le_of (by simp), fun p hp => ?_⟩
    exact q (.ref p) _ (Fr.new hp) (.tup (SqT.of upd_same) (.cons (.int 0) (.cons (.int n) (.cons (.str "") .nil))))
  · refine g_isi (b := true) (.base (.bl c)) (by decide +kernel) ?_
    repeat walk_at "st"
    refine g_intB ?_
    repeat walk_at "st"
    refine ⟨le_of (by simp), fun p hp => ?_⟩
    exact q (.ref p) _ (Fr.new hp) (.tup (SqT.of upd_same) (.cons (.int 2) (.cons (.int _) (.cons (.str "") .nil))))
  · refine g_isi (b := false) (.base (.str x)) (by decide +kernel) ?_
    repeat walk_at "st"
    refine g_isi (b := false) (.base (.str x)) (by decide +kernel) ?_
    repeat walk_at "st"
    refine ⟨le_of (by simp), fun p hp => ?_⟩
    exact q (.ref p) _ (Fr.new hp) (.tup (SqT.of upd_same) (.cons (.int 1) (.cons (.int 0) (.cons (.str x) .nil))))
theorem ok__law_rank {f : Addr} {fd : FuncData} (F : FnP K "_law_rank" s__law_rank f fd) (B : BiW mg) : FnG P w K mg base CX0 5 f fd ["_law_value_here"] (sp__law_rank K) := by
  refine okG F sc__law_rank (fun vs H Q E h => ?_) (fun cdv A outer s H vs Q E hr h => ?_)
  · obtain ⟨u, rfl, _⟩ := h
    rfl
  obtain ⟨u, rfl, ⟨k, hv⟩, q⟩ := h
  refine ⟨_, PSs.nox (pss_cons (ps_if (pt_val (pe_callB (kCall (K := K) (r := uIsi) rfl callu_isi) (by rfl) B.b_isinstance (by decide +kernel) (pa_cons (pv 0) (pa_cons (pe_bltn (v := .ty "bool") (by rfl) B.b_bool (by decide +kernel) rfl) pa_nil)))) (pss_one (ps_ret (pe_tup (pa_cons pe_int (pa_cons (pe_callTy callu_int (by rfl) B.b_int (by decide +kernel) (pa_cons (pv 0) pa_nil)) (pa_cons pe_str pa_nil)))))) pss_nil)
  (pss_one (ps_ret (pe_ifExp (pt_val (pe_callB (kCall (K := K) (r := uIsi) rfl callu_isi) (by rfl) B.b_isinstance (by decide +kernel) (pa_cons (pv 0) (pa_cons (pe_bltn (v := .ty "int") (by rfl) B.b_int (by decide +kernel) rfl) pa_nil)))) (pe_tup (pa_cons pe_int (pa_cons (pv 0) (pa_cons pe_str pa_nil)))) (pe_tup (pa_cons pe_int (pa_cons pe_int (pa_cons (pv 0) pa_nil)))))))), rd_start (σ0 := [some u]) rfl ?_⟩
  repeat walk_at "st"
  rcases hv with ⟨rfl, n, rfl, _⟩ | ⟨rfl, c, rfl⟩ | ⟨rfl, x, rfl, _⟩
  · refine g_isi (b := false) (.base (.int n)) (by decide +kernel) ?_
    repeat walk_at "st"
    refine g_isi (b := true) (.base (.int n)) (by decide +kernel) ?_
    repeat walk_at "st"
    refine ⟨le_of (by simp), fun p hp => ?_⟩
    exact q (.ref p) _ (Fr.new hp) (.tup (SqT.of upd_same) (.cons (.int 0) (.cons (.int n) (.cons (.str "") .nil))))
  · refine g_isi (b := true) (.base (.bl c)) (by decide +kernel) ?_
    repeat walk_at "st"
    refine g_intB ?_
    repeat walk_at "st"
    refine ⟨le_of (by simp), fun p hp => ?_⟩
    exact q (.ref p) _ (Fr.new hp) (.tup (SqT.of upd_same) (.cons (.int 2) (.cons (.int _) (.cons (.str "") .nil))))
  · refine g_isi (b := false) (.base (.str x)) (by decide +kernel) ?_
    repeat walk_at "st"
    refine g_isi (b := false) (.base (.str x)) (by decide +kernel) ?_
    repeat walk_at "st"
    refine ⟨le_of (by simp), fun p hp => ?_⟩
    exact q (.ref p) _ (Fr.new hp) (.tup (SqT.of upd_same) (.cons (.int 1) (.cons (.int 0) (.cons (.str x) .nil))))
/-- a comprehension of ranks over a tuple -/
theorem lc_rank {r : Addr} {us : List V} {k : Nat} {σ : L2.St} {H1 : Hp} {D : Addr} {Qd : Hp → Prop} {sp : Sp} (hs : ∀ (u : V) (H : Hp) (Q : VK) (E : XK), Va u → (∀ y H', Fr [] H H' → Td K H' y (rankD u) → Q y H') → sp [u] H Q E)
    (hr : SqT K H1 r us) (hz : us.length ≤ 10) (hv : ∀ u ∈ us, Va u) (hD : H1 D = none) (hw : ∀ x, wipe ((wipe σ [k]).set k (some x)) [k] = wipe σ [k]) (hj : ∀ x, ((wipe σ [k]).set k (some x))[k]? = some (some x))
    (fin : ∀ H' xs, Fr [] H1 H' → H' D = some (.lst xs) → TdAll K H' xs (us.map rankD) → Qd H') :
    ∃ W : Nat → Nat → Hp → Prop, (∃ m, W 0 m (upd H1 D (.lst []))) ∧ ∀ i m H, W i m H →
      (((Itt K r).stop i H ∧ Qd H) ∨ ((Itt K r).go i H ∧ ∃ Nx : Hp → Prop, (∀ H', Nx H' → ∃ m', m' < m ∧ W (i + 1) m' H') ∧ ∀ x H', (Itt K r).yld i H x H' → gName k x (wipe σ [k]) H' fun σ2 H2 => wipe σ2 [k] = wipe σ [k] ∧ tYes σ2 H2 fun b H3 =>
        if b = true then tCall sp [] E0 (tCons (tVar k) tNil) σ2 H3 fun y H4 => ∃ acc, H4 D = some (.lst acc) ∧ acc.length < sizeLine ∧ Nx (upd H4 D (.lst (acc ++ [y]))) else Nx H3)) := by
  refine lc_it (walk_tup (xs := us)) (fun i H' => Fr [] H1 H' ∧ ∃ ys, H' D = some (.lst ys) ∧ TdAll K H' ys ((us.take i).map rankD)) ⟨Fr.new hD, [], upd_same, .nil⟩ (fun i H' _ h => h.1.tup hr) (fun i y H7 H8 hi h yy => ?_) (fun H' h => ?_)
  · obtain ⟨rfl, hy⟩ := yy
    obtain ⟨e7, ys, h7, ht⟩ := h
    have hul : i < us.length := hi
    refine g_name ⟨hw _, ?_⟩
    show tCall sp [] E0 (tCons (tVar k) tNil) _ _ _
    refine g_call (g_cons (g_var (hj _) (g_nil ?_)))
    refine hs y _ _ _ (hv y (List.mem_of_getElem? hy)) fun z H9 e9 hz9 => ?_
    have h9 := e9.at h7 (fun z => nomatch z)
    have e10 : Fr [D] H9 (upd H9 D (.lst (ys ++ [z]))) := Fr.mut (List.mem_singleton.mpr rfl) h9 nofix_lst
    have yl := tda_len3 ht
    rw [List.length_map, List.length_take] at yl
    refine ⟨ys, h9, lt_of (by omega), (e7.trans e9).over hD, ys ++ [z], upd_same, ?_⟩
    rw [List.take_add_one, hy, List.map_append]
    exact (tda_snoc3 (ht.fr e9) hz9).fr e10
  · obtain ⟨e7, ys, h7, ht⟩ := h
    rw [List.take_length] at ht
    exact fin H' ys e7 h7 ht
theorem ok_row_rank {f : Addr} {fd : FuncData} (F : FnP K "row_rank" s_row_rank f fd) (B : BiW mg) (C_rank : CalG P w K mg base 5 "rank" (sp_rank K)) : FnG P w K mg base CX0 7 f fd ["row"] (sp_row_rank K) := by
  refine okG F sc_row_rank (fun vs H Q E h => ?_) (fun cdv A outer s H vs Q E hr h => ?_)
  · obtain ⟨r, us, rfl, _⟩ := h
    rfl
  obtain ⟨r, us, rfl, hs, hv, hz, q⟩ := h
  refine ⟨_, PSs.nox (pss_one (ps_ret (pe_callTy (kCall (K := K) (r := uTuple) rfl callu_tuple) (by rfl) B.b_tuple (by decide +kernel) (pa_cons (pe_lc (own := [("value", 1)]) (g := gName 1) (tt := tYes) rfl sc_row_rank.nd (pi_tupK (K := K) rfl (pv 0)) (blkOk_by (own := [("value", 1)]) (N := ["row", "value"]) (sc := defScope s_row_rank) (by decide +kernel)) (fun _ _ _ _ _ => (by exact (pg_name (i := 1) sc_row_rank.nd rfl (by first | exact Or.inl rfl | exact Or.inr rfl)))) (fun _ _ _ _ _ => pts_nil) (fun _ _ _ _ _ => (by exact (pe_calG C_rank hr rfl (pa_cons (pv 1) pa_nil))))) pa_nil)))), rd_start (σ0 := [some (.ref r), none]) rfl ?_⟩
  repeat walk_at "st"
  refine ⟨r, rfl, ⟨_, hs⟩, fun D hD => lc_rank (fun u H Q E a b => ⟨u, rfl, a, b⟩) hs hz hv hD (fun _ => rfl) (fun _ => rfl) (fun H' xs e1 h1 ht => ?_)⟩
  repeat walk_at "st"
  refine g_tupleL (SqL.of h1) fun p hp => ?_
  have e2 : Fr [] H' (upd H' p (.tup xs)) := Fr.new hp
  exact q (.ref p) _ (e1.trans e2) (.tup (SqT.of upd_same) (ht.fr e2))
theorem ok__law_row_rank {f : Addr} {fd : FuncData} (F : FnP K "_law_row_rank" s__law_row_rank f fd) (C__law_rank : CalG P w K mg base 5 "_law_rank" (sp__law_rank K)) : FnG P w K mg base CX0 7 f fd ["_law_row"] (sp__law_row_rank K) := by
  refine okG F sc__law_row_rank (fun vs H Q E h => ?_) (fun cdv A outer s H vs Q E hr h => ?_)
  · obtain ⟨r, us, rfl, _⟩ := h
    rfl
  obtain ⟨r, us, rfl, hs, hv, hz, q⟩ := h
  refine ⟨_, PSs.nox (pss_one (ps_ret (pe_lc (own := [("_law_value_here", 1)]) (g := gName 1) (tt := tYes) rfl sc__law_row_rank.nd (pi_tupK (K := K) rfl (pv 0)) (blkOk_by (own := [("_law_value_here", 1)]) (N := ["_law_row", "_law_value_here"]) (sc := defScope s__law_row_rank) (by decide +kernel)) (fun _ _ _ _ _ => (by exact (pg_name (i := 1) sc__law_row_rank.nd rfl (by first | exact Or.inl rfl | exact Or.inr rfl)))) (fun _ _ _ _ _ => pts_nil) (fun _ _ _ _ _ => (by exact (pe_calG C__law_rank hr rfl (pa_cons (pv 1) pa_nil))))))), rd_start (σ0 := [some (.ref r), none]) rfl ?_⟩
  repeat walk_at "st"
  refine ⟨r, rfl, ⟨_, hs⟩, fun D hD => lc_rank (fun u H Q E a b => ⟨u, rfl, a, b⟩) hs hz hv hD (fun _ => rfl) (fun _ => rfl) (fun H' xs e1 h1 ht => ?_)⟩
  exact q D xs H' e1 h1 ht
end

/-! ### order: plainly -/
theorem WordP.tx {x : Str} (h : WordP x) : Tx 12 x := by
  obtain ⟨c, r, e, hc, hr, hl⟩ := h
  refine ⟨len_le12 ⟨c, r, e, hc, hr, hl⟩, fun d hd => ?_⟩
  rw [e] at hd
  rcases List.mem_cons.mp hd with rfl | hd
  · unfold isLet at hc
    have := of_decide_eq_true hc
    omega
  · have z := hr d hd
    unfold isLet isFig at z
    simp only [Bool.or_eq_true, decide_eq_true_eq] at z
    omega
theorem log1920 {i : Int} (h : i.natAbs < 10 ^ 30) : i.natAbs.log2 < 1920 := PySem.Flt.log2_lt_of (by decide) (Nat.lt_of_lt_of_le h (by decide))
/-- data of a drawn value -/
theorem va_data {K : PySem.W.Frag} {H : Hp} {u : V} (h : Va u) (n : Nat) : Td K H u (scD u) ∧ Sm (n + 1) (scD u) := by
  obtain ⟨k, h⟩ := h
  rcases h with ⟨_, n, rfl, h1, h2⟩ | ⟨_, b, rfl⟩ | ⟨_, x, rfl, hx⟩
  · exact ⟨.int n, log1920 (by omega)⟩
  · exact ⟨.bl b, trivial⟩
  · exact ⟨.str x, hx.tx.short (by decide)⟩
theorem va_all {K : PySem.W.Frag} {H : Hp} : ∀ {us : List V}, (∀ u ∈ us, Va u) → TdAll K H us (us.map scD)
  | [], _ => .nil
  | u :: r, h => .cons (va_data (h u List.mem_cons_self) 0).1 (va_all fun v hv => h v (List.mem_cons_of_mem _ hv))
theorem va_inv {K : PySem.W.Frag} {H : Hp} {u v : V} (h : Va u) (t : Td K H v (scD u)) : v = u := by
  obtain ⟨k, h⟩ := h
  rcases h with ⟨_, n, rfl, h1, h2⟩ | ⟨_, b, rfl⟩ | ⟨_, x, rfl, hx⟩
  · cases t; rfl
  · cases t; rfl
  · cases t; rfl
theorem va_invs {K : PySem.W.Frag} {H : Hp} : ∀ {us xs : List V}, (∀ u ∈ us, Va u) → TdAll K H xs (us.map scD) → xs = us
  | [], _, _, .nil => rfl
  | u :: r, _, h, .cons a b => by rw [va_inv (h u List.mem_cons_self) a, va_invs (fun v hv => h v (List.mem_cons_of_mem _ hv)) b]
def rowD (vs : List V) : PyData := .tuple (vs.map scD)
theorem row_inv {K : PySem.W.Frag} {H : Hp} {y : V} {vs : List V} (hv : ∀ u ∈ vs, Va u) (t : Td K H y (rowD vs)) : ∃ r, y = .ref r ∧ SqT K H r vs := by
  obtain ⟨r, xs, rfl, hr, ha⟩ := Td.tuple_inv t
  rw [va_invs hv ha] at hr
  exact ⟨r, rfl, hr⟩
theorem rank_alike {u v : V} (h : Va u) (h' : Va v) : PySem.W.alike (rankD u) (rankD v) = true := by
  obtain ⟨k, h⟩ := h
  obtain ⟨k', h'⟩ := h'
  rcases h with ⟨_, n, rfl, _⟩ | ⟨_, b, rfl⟩ | ⟨_, x, rfl, _⟩ <;> rcases h' with ⟨_, n', rfl, _⟩ | ⟨_, b', rfl⟩ | ⟨_, x', rfl, _⟩ <;> simp [rankD, PySem.W.alike, PySem.W.alikeAll]
theorem rank_tup {u : V} (h : Va u) : ∃ x y, rankD u = .tuple (x :: y) := by
  obtain ⟨k, h⟩ := h
  rcases h with ⟨_, n, rfl, _⟩ | ⟨_, b, rfl⟩ | ⟨_, x, rfl, _⟩ <;> exact ⟨_, _, rfl⟩
theorem rank_depth {u : V} (h : Va u) : (rankD u).depth ≤ 1 := by
  obtain ⟨k, h⟩ := h
  rcases h with ⟨_, n, rfl, _⟩ | ⟨_, b, rfl⟩ | ⟨_, x, rfl, _⟩ <;> simp [rankD, PyData.depth, PyData.depthAll]
theorem ranks_alike : ∀ {us vs : List V}, (∀ u ∈ us, Va u) → (∀ u ∈ vs, Va u) → PySem.W.alikeAll (us.map rankD) (vs.map rankD) = true
  | [], _, _, _ => by simp [PySem.W.alikeAll]
  | _ :: _, [], _, _ => by simp [PySem.W.alikeAll]
  | u :: r, v :: s, h, k => by
    rw [List.map_cons, List.map_cons, PySem.W.alikeAll, rank_alike (h u List.mem_cons_self) (k v List.mem_cons_self), ranks_alike (fun x hx => h x (List.mem_cons_of_mem _ hx)) fun x hx => k x (List.mem_cons_of_mem _ hx)]
    rfl
theorem ranks_depth : ∀ {us : List V}, (∀ u ∈ us, Va u) → PyData.depthAll (us.map rankD) ≤ 1
  | [], _ => by simp [PyData.depthAll]
  | u :: r, h => by
    rw [List.map_cons, PyData.depthAll]
    have h1 := rank_depth (h u List.mem_cons_self)
    have h2 := ranks_depth fun x hx => h x (List.mem_cons_of_mem _ hx)
    omega
theorem pick_data {K : PySem.W.Frag} {H : Hp} {n : Nat} : ∀ {xs : List V}, (∀ x ∈ xs, ∃ d, Td K H x d ∧ Sm n d) → ∃ ds, TdAll K H xs ds ∧ ds.length = xs.length ∧ ∀ d ∈ ds, Sm n d
  | [], _ => ⟨[], .nil, rfl, fun _ z => nomatch z⟩
  | x :: r, h => by
    obtain ⟨d, h1, h2⟩ := h x List.mem_cons_self
    obtain ⟨ds, k1, k2, k3⟩ := pick_data fun y hy => h y (List.mem_cons_of_mem _ hy)
    refine ⟨d :: ds, .cons h1 k1, by rw [List.length_cons, List.length_cons, k2], fun e he => ?_⟩
    rcases List.mem_cons.mp he with rfl | he
    · exact h2
    · exact k3 e he
theorem tda_mem {K : PySem.W.Frag} {H : Hp} : ∀ {xs : List V} {ds : List PyData} {x : V}, TdAll K H xs ds → x ∈ xs → ∃ d ∈ ds, Td K H x d
  | _, _, _, .nil, h => nomatch h
  | _, _, _, .cons a b, h => by
    rcases List.mem_cons.mp h with rfl | h
    · exact ⟨_, List.mem_cons_self, a⟩
    · obtain ⟨d, h1, h2⟩ := tda_mem b h
      exact ⟨d, List.mem_cons_of_mem _ h1, h2⟩
theorem tda_at {K : PySem.W.Frag} {H : Hp} : ∀ {xs : List V} {ds : List PyData} {j : Nat} {x : V} {d : PyData}, TdAll K H xs ds → xs[j]? = some x → ds[j]? = some d → Td K H x d
  | _, _, _, _, _, .nil, h, _ => by simp at h
  | _, _, 0, _, _, .cons a b, h, k => by simp at h k; subst h k; exact a
  | _, _, j + 1, _, _, .cons a b, h, k => tda_at b (by simpa using h) (by simpa using k)
theorem cut_mem {us : List V} {lo hi : Option Int} {u : V} (h : u ∈ cutV us lo hi) : u ∈ us := List.mem_of_mem_drop (List.mem_of_mem_take h)
theorem row_sm {vs : List V} (n : Nat) (h : ∀ u ∈ vs, Va u) (hl : vs.length ≤ 10) : Sm (n + 2) (rowD vs) := ⟨by rw [List.length_map]; omega, fun d hd => by
  obtain ⟨u, hu, rfl⟩ := List.mem_map.mp hd
  exact (va_data (K := []) (H := fun _ => none) (h u hu) n).2⟩
theorem td_ty {K : PySem.W.Frag} {H : Hp} {y : V} {ds : List PyData} (h : Td K H y (.tuple ds)) : TyX K H y (.type "tuple") := by
  obtain ⟨a, xs, rfl, hs, _⟩ := Td.tuple_inv h
  exact tyx_t hs

abbrev s_law : Stmt := topS 13
theorem sc_law : FnScope ["_law_script", "_law_bag_here", "_law_k", "_law_values", "_law_due", "_law_found", "_law_rows", "_law_j", "_law_value_here"] ["_law_script"] (defScope s_law) := ⟨rfl, rfl, rfl, by decide +kernel, rfl, by decide +kernel, by decide +kernel⟩
def spLaw (K : PySem.W.Frag) : Sp := fun vs H Q _ => ∃ (a : Addr) (ns : List Int), vs = [.ref a] ∧ SqL K H a (ns.map V.int) ∧ ns.length ≤ 63 ∧ ∀ H', Q (.bl true) H'
structure BiK (mg : Str → Option Value) : Prop where
  b_range : mg "range" = none
  b_sorted : mg "sorted" = none
  b_tuple : mg "tuple" = none
  b_len : mg "len" = none
  b_all : mg "all" = none
  b_isinstance : mg "isinstance" = none
section
variable {K : PySem.W.Frag}
/-- a list of values sorted by a rank of them -/
theorem sort_vals {sp : Sp} {f : Addr} {H : Hp} {Q : VK} {D : Addr} {us : List V} (hs : ∀ (u : V) (H : Hp) (Q : VK) (E : XK), Va u → (∀ y H', Fr [] H H' → Td K H' y (rankD u) → Q y H') → sp [u] H Q E) (hD : H D = some (.lst us)) (hv : ∀ u ∈ us, Va u)
    (q : ∀ p H', Fr [] H H' → H' p = none → Q (.ref p) (upd H' p (.lst (sortK us (us.map rankD))))) : rSortK K f sp [.ref D] [.ref f] H Q := by
  refine ⟨D, us, us.map rankD, rfl, rfl, SqL.of hD, (List.length_map _).symm, fun d hd d' hd' => ?_, .inl fun d hd => ?_, fun d hd => ?_, fun j x d hx hd H' Q' e' k => ?_, q⟩
  · obtain ⟨u, hu, rfl⟩ := List.mem_map.mp hd
    obtain ⟨u', hu', rfl⟩ := List.mem_map.mp hd'
    exact rank_alike (hv u hu) (hv u' hu')
  · obtain ⟨u, hu, rfl⟩ := List.mem_map.mp hd
    obtain ⟨x, y, e⟩ := rank_tup (hv u hu)
    exact ⟨_, e⟩
  · obtain ⟨u, hu, rfl⟩ := List.mem_map.mp hd
    have := rank_depth (hv u hu)
    omega
  · rw [List.getElem?_map, hx] at hd
    cases hd
    exact hs x H' Q' E0 (hv x (List.mem_of_getElem? hx)) fun y H2 e2 t => k y H2 e2 t.dp
theorem sort_rows {sp : Sp} {f : Addr} {H : Hp} {Q : VK} {D : Addr} {rs : List V} {vss : List (List V)} {g : List PyData → PyData} (hg : (∀ ds, g ds = .tuple ds) ∨ ∀ ds, g ds = .list ds)
    (hs : ∀ (r : Addr) (us : List V) (H : Hp) (Q : VK) (E : XK), SqT K H r us → (∀ u ∈ us, Va u) → us.length ≤ 10 → (∀ y H', Fr [] H H' → Dp K H' y (g (us.map rankD)) → Q y H') → sp [.ref r] H Q E)
    (hD : H D = some (.lst rs)) (ht : TdAll K H rs (vss.map rowD)) (hv : ∀ vs ∈ vss, (∀ u ∈ vs, Va u) ∧ vs.length ≤ 10)
    (q : ∀ p H', Fr [] H H' → H' p = none → Q (.ref p) (upd H' p (.lst (sortK rs (vss.map fun vs => g (vs.map rankD)))))) : rSortK K f sp [.ref D] [.ref f] H Q := by
  refine ⟨D, rs, vss.map fun vs => g (vs.map rankD), rfl, rfl, SqL.of hD, by rw [tda_len3 ht, List.length_map, List.length_map], fun d hd d' hd' => ?_, ?_, fun d hd => ?_, fun j x d hx hd H' Q' e' k => ?_, q⟩
  · obtain ⟨u, hu, rfl⟩ := List.mem_map.mp hd
    obtain ⟨u', hu', rfl⟩ := List.mem_map.mp hd'
    have := ranks_alike (hv u hu).1 (hv u' hu').1
    rcases hg with hg | hg <;> (rw [hg, hg]; simpa [PySem.W.alike] using this)
  · rcases hg with hg | hg
    · exact .inl fun d hd => by
        obtain ⟨u, hu, rfl⟩ := List.mem_map.mp hd
        exact ⟨_, hg _⟩
    · exact .inr (.inr fun d hd => by
        obtain ⟨u, hu, rfl⟩ := List.mem_map.mp hd
        rw [hg]
        exact And.intro (fun z => nomatch z) (fun _ z => nomatch z))
  · obtain ⟨u, hu, rfl⟩ := List.mem_map.mp hd
    have := ranks_depth (hv u hu).1
    rcases hg with hg | hg <;> (rw [hg, PyData.depth]; omega)
  · rw [List.getElem?_map] at hd
    cases hq : vss[j]? with
    | none => rw [hq] at hd; cases hd
    | some vs =>
      rw [hq] at hd
      cases hd
      obtain ⟨h1, h2⟩ := hv vs (List.mem_of_getElem? hq)
      obtain ⟨r, rfl, hr⟩ := row_inv h1 (tda_at ht hx (by rw [List.getElem?_map, hq]; rfl))
      exact hs r vs H' Q' E0 (e'.tup hr) h1 h2 k
end
section
variable {P : Program} {w : World} {K : PySem.W.Frag} {mg : Str → Option Value} {base : Heap} {f_rank f_row_rank f__law_rank f__law_row_rank : Addr}
theorem ok_law {f : Addr} {fd : FuncData} (F : FnP K "law" s_law f fd) (B : BiK mg) (C__law_bag : CalG P w K mg base 10 "_law_bag" (spBag K)) (C__law_pull : CalG P w K mg base 10 "_law_pull" spPull) (C__law_one : CalG P w K mg base 20 "_law_one" (spOne K)) (C__law_value : CalG P w K mg base 40 "_law_value" spValue) (C__law_same : CalG P w K mg base 5 "_law_same" (spSame K 5))
    (D_rank : CalF P w K mg base 5 "rank" f_rank (sp_rank K)) (D__law_rank : CalF P w K mg base 5 "_law_rank" f__law_rank (sp__law_rank K)) (D_row_rank : CalF P w K mg base 7 "row_rank" f_row_rank (sp_row_rank K)) (D__law_row_rank : CalF P w K mg base 7 "_law_row_rank" f__law_row_rank (sp__law_row_rank K)) :
    FnG P w K mg base CX0 100 f fd ["_law_script"] (spLaw K) := by
  refine okG F sc_law (fun vs H Q E h => ?_) (fun cdv A outer s H vs Q E hr h => ?_)
  · obtain ⟨a, ns, rfl, _⟩ := h
    rfl
  obtain ⟨a, ns, rfl, hS, hl, q⟩ := h
  have C_rank := D_rank.g
  have C_row_rank := D_row_rank.g
  refine ⟨_, PSs.nox (pss_cons (ps_set (i := 1) sc_law.nd rfl (.inr rfl) (pe_calG C__law_bag hr rfl (pa_cons (pv 0) pa_nil)))
  (pss_cons (ps_for PassesOwn.never rfl (pi_range1 rfl B.b_range (pa_cons pe_int pa_nil)) (pg_name (i := 2) sc_law.nd rfl (by first | exact Or.inl rfl | exact Or.inr rfl)) (pss_cons (ps_set (i := 3) sc_law.nd rfl (.inr rfl) (pe_lc (own := [("_law_j", 7)]) (g := gName 7) (tt := tYes) rfl sc_law.nd (pi_range1 rfl B.b_range (pa_cons (pe_calG C__law_pull hr rfl (pa_cons (pv 1) (pa_cons pe_int pa_nil))) pa_nil)) (blkOk_by (own := [("_law_j", 7)]) (N := ["_law_script", "_law_bag_here", "_law_k", "_law_values", "_law_due", "_law_found", "_law_rows", "_law_j", "_law_value_here"]) (sc := defScope s_law) (by decide +kernel)) (fun _ _ _ _ _ => (by exact (pg_name (i := 7) sc_law.nd rfl (by first | exact Or.inl rfl | exact Or.inr rfl)))) (fun _ _ _ _ _ => pts_nil) (fun _ _ _ _ _ => (by exact (pe_calG C__law_value hr rfl (pa_cons (pv 1) (pa_cons (pe_calG C__law_one hr rfl (pa_cons (pv 1) (pa_cons (pe_lst (pa_cons pe_str (pa_cons pe_str (pa_cons pe_str pa_nil)))) pa_nil))) pa_nil)))))))
  (pss_cons (ps_set (i := 4) sc_law.nd rfl (.inl rfl) (pe_callBK (kCallK (K := K) (r := fun K => rSortK K f__law_rank (sp__law_rank K)) rfl (cr_sortF D__law_rank (hr.mono (by decide)))) (by rfl) B.b_sorted rfl (pa_cons (pv 3) pa_nil) (pk_cons (pe_glob (v := .ref f__law_rank) rfl D__law_rank.m rfl) pk_nil)))
  (pss_cons (ps_set (i := 5) sc_law.nd rfl (.inl rfl) (pe_callBK (kCallK (K := K) (r := fun K => rSortK K f_rank (sp_rank K)) rfl (cr_sortF D_rank (hr.mono (by decide)))) (by rfl) B.b_sorted rfl (pa_cons (pv 3) pa_nil) (pk_cons (pe_glob (v := .ref f_rank) rfl D_rank.m rfl) pk_nil)))
  (pss_cons (ps_if (pt_not (pt_val (pe_calG C__law_same hr rfl (pa_cons (pv 5) (pa_cons (pv 4) pa_nil))))) (pss_one (ps_ret pe_bl)) pss_nil)
  (pss_cons (ps_set (i := 6) sc_law.nd rfl (.inl rfl) (pe_op (kOp (K := K) (r := uAdd) rfl opu_add) (pe_lc (own := [("_law_j", 7)]) (g := gName 7) (tt := tYes) rfl sc_law.nd (pi_range1 rfl B.b_range (pa_cons pe_int pa_nil)) (blkOk_by (own := [("_law_j", 7)]) (N := ["_law_script", "_law_bag_here", "_law_k", "_law_values", "_law_due", "_law_found", "_law_rows", "_law_j", "_law_value_here"]) (sc := defScope s_law) (by decide +kernel)) (fun _ _ _ _ _ => (by exact (pg_name (i := 7) sc_law.nd rfl (by first | exact Or.inl rfl | exact Or.inr rfl)))) (fun _ _ _ _ _ => pts_nil) (fun _ _ _ _ _ => (by exact (pe_callTy (kCall (K := K) (r := uTuple) rfl callu_tuple) (by rfl) B.b_tuple (by decide +kernel) (pa_cons (pe_slice (kSl (K := K) (r := rSlL) rfl sl_list) (pv 3) po_none (po_some (pe_calG C__law_pull hr rfl (pa_cons (pv 1) (pa_cons (pe_op (kOp (K := K) (r := uAdd) rfl opu_add) (pe_callB (kCall (K := K) (r := uLen) rfl callu_len) (by rfl) B.b_len (by decide +kernel) (pa_cons (pv 3) pa_nil)) pe_int) pa_nil))))) pa_nil))))) (pe_lst (pa_cons (pe_callTy (kCall (K := K) (r := uTuple) rfl callu_tuple) (by rfl) B.b_tuple (by decide +kernel) (pa_cons (pv 3) pa_nil)) (pa_cons (pe_tup pa_nil) pa_nil)))))
  (pss_cons (ps_expr (kBM (K := K) rfl (pe_bm PySem.F.plainAttrs_list PySem.F.slot_list_append PySem.F.type_list_append mt_append (pv 6) (pa_cons (pe_callTy (kCall (K := K) (r := uTuple) rfl callu_tuple) (by rfl) B.b_tuple (by decide +kernel) (pa_cons (pe_slice (kSl (K := K) (r := rSlL) rfl sl_list) (pv 3) (po_some pe_int) po_none) pa_nil)) pa_nil))))
  (pss_cons (ps_if (pt_not (pt_val (pe_calG C__law_same hr rfl (pa_cons (pe_callBK (kCallK (K := K) (r := fun K => rSortK K f_row_rank (sp_row_rank K)) rfl (cr_sortF D_row_rank (hr.mono (by decide)))) (by rfl) B.b_sorted rfl (pa_cons (pv 6) pa_nil) (pk_cons (pe_glob (v := .ref f_row_rank) rfl D_row_rank.m rfl) pk_nil)) (pa_cons (pe_callBK (kCallK (K := K) (r := fun K => rSortK K f__law_row_rank (sp__law_row_rank K)) rfl (cr_sortF D__law_row_rank (hr.mono (by decide)))) (by rfl) B.b_sorted rfl (pa_cons (pv 6) pa_nil) (pk_cons (pe_glob (v := .ref f__law_row_rank) rfl D__law_row_rank.m rfl) pk_nil)) pa_nil))))) (pss_one (ps_ret pe_bl)) pss_nil)
  (pss_one (ps_if (PW.pt (pw_or (pt_not (pt_val (pe_callB (kCall (K := K) (r := rAll) rfl (cr_all rfl)) (by rfl) B.b_all (by decide +kernel) (pa_cons (pe_lc (own := [("_law_value_here", 8)]) (g := gName 8) (tt := tYes) rfl sc_law.nd (pi_listK (K := K) rfl (pv 3)) (blkOk_by (own := [("_law_value_here", 8)]) (N := ["_law_script", "_law_bag_here", "_law_k", "_law_values", "_law_due", "_law_found", "_law_rows", "_law_j", "_law_value_here"]) (sc := defScope s_law) (by decide +kernel)) (fun _ _ _ _ _ => (by exact (pg_name (i := 8) sc_law.nd rfl (by first | exact Or.inl rfl | exact Or.inr rfl)))) (fun _ _ _ _ _ => pts_nil) (fun _ _ _ _ _ => (by exact (pe_callB (kCall (K := K) (r := uIsi) rfl callu_isi) (by rfl) B.b_isinstance (by decide +kernel) (pa_cons (pe_calG C_rank hr rfl (pa_cons (pv 8) pa_nil)) (pa_cons (pe_bltn (v := .ty "tuple") (by rfl) B.b_tuple (by decide +kernel) rfl) pa_nil)))))) pa_nil)))) (pw_or1 (pt_not (pt_val (pe_callB (kCall (K := K) (r := uIsi) rfl callu_isi) (by rfl) B.b_isinstance (by decide +kernel) (pa_cons (pe_calG C_row_rank hr rfl (pa_cons (pe_ix (kIx (K := K) (r := rIx) rfl ix_seq) (pv 6) pe_int (fun _ _ => rfl)) pa_nil)) (pa_cons (pe_bltn (v := .ty "tuple") (by rfl) B.b_tuple (by decide +kernel) rfl) pa_nil)))))))) (pss_one (ps_ret pe_bl)) pss_nil))))))))))
  (pss_one (ps_ret pe_bl)))), rd_start (σ0 := [some (.ref a), none, none, none, none, none, none, none, none]) rfl ?_⟩
  repeat walk_at "st"
  refine ⟨a, ns, rfl, hS, hl, fun b cs H1 hF1 hb1 hB1 => ?_⟩
  repeat walk_at "st"
  refine ⟨4, rfl, by decide, by decide, for_range (lo := 0) (n := 4) (fun i σ H' => BagAt H' b cs ∧ ∃ z2 z3 z4 z5 z6 z7 z8, σ = [some (.ref a), some (.ref b), z2, z3, z4, z5, z6, z7, z8]) ⟨hB1, _, _, _, _, _, _, _, rfl⟩ (fun i σ H hi h => ?_) (fun σ H' h => ?_)⟩
  · obtain ⟨hB0, z2, z3, z4, z5, z6, z7, z8, rfl⟩ := h
    repeat walk_at "st"
    refine ⟨b, cs, _, rfl, hB0, by decide, by decide, fun dd H2 d0 d1 hB2 hF2 => ?_⟩
    obtain ⟨m, rfl⟩ : ∃ m : Nat, dd = (m : Int) := ⟨dd.toNat, by omega⟩
    repeat walk_at "st"
    refine ⟨_, rfl, by omega, by omega, fun D hD => lc_it (walk_range (lo := 0) (n := m)) (fun i H' => BagAt H' b cs ∧ Fr [b] H2 H' ∧ ∃ (us : List V), H' D = some (.lst us) ∧ us.length = i ∧ ∀ u ∈ us, Va u)
      ⟨hB2.fr0 (Fr.new hD), Fr.new hD, [], upd_same, rfl, (fun _ z => nomatch z)⟩ (fun i H' _ h => trivial) (fun i x H' H'' hi h y => ?_) (fun H3 h => ?_)⟩
    · obtain ⟨rfl, rfl⟩ := y
      obtain ⟨hBi, hFi, us, hDi, hul, huv⟩ := h
      have hDb := hB2.some hD
      have hDM : D ∉ [b] := fun z => hDb.1 (List.mem_singleton.mp z)
      repeat walk_at "st"
      refine ⟨rfl, ?_⟩
      repeat walk_at "st"
      refine ⟨le_of (by simp), fun p3 hp3 => ?_⟩
      have e3 : Fr [] H'' (upd H'' p3 (.lst [V.str "number", .str "word", .str "flag"])) := Fr.new hp3
      have hp31 : (upd H'' p3 (.lst [V.str "number", .str "word", .str "flag"])) p3 = some (.lst [.str "number", .str "word", .str "flag"]) := upd_same
      have hnb := (hBi.some hp3).1
      have hB3 := hBi.fr0 e3
      have hD3 := e3.at hDi (fun z => nomatch z)
      have F3 := hFi.trans e3.nil
      generalize upd H'' p3 (.lst [V.str "number", .str "word", .str "flag"]) = H3 at *
      repeat walk_at "st"
      refine ⟨b, cs, p3, _, rfl, hB3, .inl ⟨SqL.of hp31, hnb⟩, by decide, by decide, fun v H4 hv hB4 e4 => ?_⟩
      obtain ⟨k, rfl, hk⟩ : ∃ k : Str, v = .str k ∧ (k = "number" ∨ k = "flag" ∨ k = "word") := by
        simp only [List.mem_cons, List.not_mem_nil, or_false] at hv
        rcases hv with rfl | rfl | rfl
        · exact ⟨_, rfl, .inl rfl⟩
        · exact ⟨_, rfl, .inr (.inr rfl)⟩
        · exact ⟨_, rfl, .inr (.inl rfl)⟩
      refine ⟨b, cs, k, rfl, hk, hB4, fun u H5 hu hB5 e5 => ?_⟩
      have hD5 := e5.at (e4.at hD3 hDM) hDM
      have eD : Fr [D] H5 (upd H5 D (.lst (us ++ [u]))) := Fr.mut (List.mem_singleton.mpr rfl) hD5 nofix_lst
      refine ⟨us, hD5, lt_of (by omega), hB5.fr eD (fun z => hDb.1 (List.mem_singleton.mp z).symm) (fun z => hDb.2 (List.mem_singleton.mp z).symm), ((F3.trans e4).trans e5).over hD, us ++ [u], upd_same, by rw [List.length_append, hul]; rfl, fun x hx => ?_⟩
      rcases List.mem_append.mp hx with hx | hx
      · exact huv x hx
      · rw [List.mem_singleton.mp hx]; exact ⟨k, hu⟩
    · obtain ⟨hB3, hF3, us, hD3, hul, huv⟩ := h
      have hDb := hB2.some hD
      have hDM : D ∉ [b] := fun z => hDb.1 (List.mem_singleton.mp z)
      have hul8 : us.length ≤ 8 := by omega
      clear hul
      repeat walk_at "st"
      refine sort_vals (fun u H Q E h k => ⟨u, rfl, h, k⟩) hD3 huv fun p4 H4 e4 hp4 => ?_
      have e45 : Fr [] H4 (upd H4 p4 (.lst (sortK us (us.map rankD)))) := Fr.new hp4
      have h45 : (upd H4 p4 (.lst (sortK us (us.map rankD)))) p4 = some (.lst (sortK us (us.map rankD))) := upd_same
      have E5 := e4.trans e45
      have hD5 := E5.at hD3 (fun z => nomatch z)
      have hB5 := hB3.fr0 E5
      generalize upd H4 p4 (.lst (sortK us (us.map rankD))) = H5 at *
      repeat walk_at "st"
      refine sort_vals (fun u H Q E h k => ⟨u, rfl, h, k⟩) hD5 huv fun p6 H6 e6 hp6 => ?_
      have e67 : Fr [] H6 (upd H6 p6 (.lst (sortK us (us.map rankD)))) := Fr.new hp6
      have h67 : (upd H6 p6 (.lst (sortK us (us.map rankD)))) p6 = some (.lst (sortK us (us.map rankD))) := upd_same
      have E7 := e6.trans e67
      have hD7 := E7.at hD5 (fun z => nomatch z)
      have h47 := E7.at h45 (fun z => nomatch z)
      have hB7 := hB5.fr0 E7
      generalize upd H6 p6 (.lst (sortK us (us.map rankD))) = H7 at *
      repeat walk_at "st"
      have sv : ∀ u ∈ sortK us (us.map rankD), Va u := fun u hu => huv u ((sortK_perm us (us.map rankD) (by simp)).mem_iff.mp hu)
      have sl := (sortK_perm us (us.map rankD) (by simp)).length_eq
      generalize sortK us (us.map rankD) = zs at *
      refine ⟨.ref p6, .ref p4, .list (zs.map scD), rfl, .lst (SqL.of h67) (va_all sv).dp, .lst (SqL.of h47) (va_all sv).dp, ⟨by rw [List.length_map]; omega, fun d hd => ?_⟩, fun H8 e8 => ?_⟩
      · obtain ⟨u, hu, rfl⟩ := List.mem_map.mp hd
        exact (va_data (K := K) (H := H7) (sv u hu) 3).2
      have hD8 := e8.at hD7 (fun z => nomatch z)
      have hB8 := hB7.fr0 e8
      repeat walk_at "st"
      refine ⟨_, rfl, by decide, by decide, fun D2 hD2 => lc_it (walk_range (lo := 0) (n := 5)) (fun i H' => BagAt H' b cs ∧ Fr [b] H8 H' ∧ ∃ (rs : List V) (vss : List (List V)), H' D2 = some (.lst rs) ∧ TdAll K H' rs (vss.map rowD) ∧ vss.length = i ∧ ∀ vs ∈ vss, (∀ u ∈ vs, Va u) ∧ vs.length ≤ 10)
        ⟨hB8.fr0 (Fr.new hD2), Fr.new hD2, [], [], upd_same, .nil, rfl, (fun _ z => nomatch z)⟩ (fun i H' _ h => trivial) (fun i x H' H'' hi h y => ?_) (fun H9 h => ?_)⟩
      · obtain ⟨rfl, rfl⟩ := y
        obtain ⟨hBi, hFi, rs, vss, hDi, hti, hvl, hvv⟩ := h
        have hDb2 := hB8.some hD2
        have hDM2 : D2 ∉ [b] := fun z => hDb2.1 (List.mem_singleton.mp z)
        repeat walk_at "st"
        refine ⟨rfl, ?_⟩
        repeat walk_at "st"
        have hDi3 := hFi.at hD8 hDM
        refine g_len (.inl (SqL.of hDi3)) ?_
        repeat walk_at "st"
        refine ⟨b, cs, _, rfl, hBi, by omega, Int.lt_of_le_of_lt (b := 1000) (by omega) (by decide), fun c H4 c0 c1 hB4 hF4 => ?_⟩
        have hD4 := hF4.at hDi3 hDM
        have hD24 := hF4.at hDi hDM2
        refine ⟨c, rfl, g_slL (SqL.of hD4) fun p5 hp5 => ?_⟩
        have e5 : Fr [] H4 (upd H4 p5 (.lst (cutV us none (some c)))) := Fr.new hp5
        have h5 : (upd H4 p5 (.lst (cutV us none (some c)))) p5 = some (.lst (cutV us none (some c))) := upd_same
        have cv : ∀ u ∈ cutV us none (some c), Va u := fun u hu => huv u (cut_mem hu)
        have cl := cutV_length us none (some c)
        generalize cutV us none (some c) = vs at *
        have hB5 := hB4.fr0 e5
        have hD25 := e5.at hD24 (fun z => nomatch z)
        have F5 := (hFi.trans hF4).trans e5.nil
        have ht5 := (hti.fr hF4).fr e5
        generalize upd H4 p5 (.lst vs) = H5 at *
        repeat walk_at "st"
        refine g_tupleL (SqL.of h5) fun p6 hp6 => ?_
        have e6 : Fr [] H5 (upd H5 p6 (.tup vs)) := Fr.new hp6
        have h6 : SqT K (upd H5 p6 (.tup vs)) p6 vs := SqT.of upd_same
        have hB6 := hB5.fr0 e6
        have hD26 := e6.at hD25 (fun z => nomatch z)
        have F6 := F5.trans e6.nil
        have ht6 := ht5.fr e6
        generalize upd H5 p6 (.tup vs) = H6 at *
        have eD : Fr [D2] H6 (upd H6 D2 (.lst (rs ++ [.ref p6]))) := Fr.mut (List.mem_singleton.mpr rfl) hD26 nofix_lst
        have rl := tda_len3 hti
        rw [List.length_map] at rl
        refine ⟨rs, hD26, lt_of (by omega), hB6.fr eD (fun z => hDb2.1 (List.mem_singleton.mp z).symm) (fun z => hDb2.2 (List.mem_singleton.mp z).symm), F6.over hD2, rs ++ [.ref p6], vss ++ [vs], upd_same, ?_, by rw [List.length_append, hvl]; rfl, fun x hx => ?_⟩
        · rw [List.map_append]
          exact (tda_snoc3 ht6 (show Td K H6 (.ref p6) (rowD vs) from .tup h6 (va_all cv))).fr eD
        · rcases List.mem_append.mp hx with hx | hx
          · exact hvv x hx
          · rw [List.mem_singleton.mp hx]; exact ⟨cv, by omega⟩
      · obtain ⟨hB9, hF9, rs, vss, hD29, ht9, hvl, hvv⟩ := h
        have hD9 := hF9.at hD8 hDM
        repeat walk_at "st"
        refine g_tupleL (SqL.of hD9) fun p10 hp10 => ?_
        have e10 : Fr [] H9 (upd H9 p10 (.tup us)) := Fr.new hp10
        have h10 : SqT K (upd H9 p10 (.tup us)) p10 us := SqT.of upd_same
        have hB10 := hB9.fr0 e10
        have hD10 := e10.at hD9 (fun z => nomatch z)
        have hD210 := e10.at hD29 (fun z => nomatch z)
        have ht10 := ht9.fr e10
        generalize upd H9 p10 (.tup us) = H10 at *
        repeat walk_at "st"
        refine ⟨le_of (by simp), fun p11 hp11 => ?_⟩
        have e11 : Fr [] H10 (upd H10 p11 (.tup [])) := Fr.new hp11
        have h11 : SqT K (upd H10 p11 (.tup [])) p11 [] := SqT.of upd_same
        have hB11 := hB10.fr0 e11
        have hD11 := e11.at hD10 (fun z => nomatch z)
        have hD211 := e11.at hD210 (fun z => nomatch z)
        have ht11 := ht10.fr e11
        have h1011 := e11.tup h10
        generalize upd H10 p11 (.tup []) = H11 at *
        repeat walk_at "st"
        refine ⟨le_of (by simp), fun p12 hp12 => ?_⟩
        have e12 : Fr [] H11 (upd H11 p12 (.lst [.ref p10, .ref p11])) := Fr.new hp12
        have h12 : (upd H11 p12 (.lst [.ref p10, .ref p11])) p12 = some (.lst [.ref p10, .ref p11]) := upd_same
        have hB12 := hB11.fr0 e12
        have hD12 := e12.at hD11 (fun z => nomatch z)
        have hD212 := e12.at hD211 (fun z => nomatch z)
        have ht12 := ht11.fr e12
        have h1012 := e12.tup h1011
        have h1112 := e12.tup h11
        generalize upd H11 p12 (.lst [.ref p10, .ref p11]) = H12 at *
        have rl := tda_len3 ht9
        rw [List.length_map] at rl
        repeat walk_at "st"
        refine g_addL hD212 h12 (le_of (by simp; omega)) fun R hR => ?_
        have e13 : Fr [] H12 (upd H12 R (.lst (rs ++ [.ref p10, .ref p11]))) := Fr.new hR
        have hR13 : (upd H12 R (.lst (rs ++ [.ref p10, .ref p11]))) R = some (.lst (rs ++ [.ref p10, .ref p11])) := upd_same
        have hB13 := hB12.fr0 e13
        have hD13 := e13.at hD12 (fun z => nomatch z)
        have hRb := hB12.some hR
        have hRD : R ≠ D := fun e => by rw [e, hD12] at hR; cases hR
        have ht13 : TdAll K (upd H12 R (.lst (rs ++ [.ref p10, .ref p11]))) (rs ++ [.ref p10, .ref p11]) ((vss ++ [us, []]).map rowD) := by
          have hh := TdAll.fr e13 (tda_snoc3 (tda_snoc3 ht12 (show Td K H12 (.ref p10) (rowD us) from .tup h1012 (va_all huv))) (show Td K H12 (.ref p11) (rowD []) from .tup h1112 .nil))
          have e1 : (rs ++ [V.ref p10]) ++ [.ref p11] = rs ++ [V.ref p10, .ref p11] := by simp
          have e2 : (vss.map rowD ++ [rowD us]) ++ [rowD []] = (vss ++ [us, []]).map rowD := by simp
          rw [e1, e2] at hh
          exact hh
        have hv13 : ∀ vs ∈ vss ++ [us, []], (∀ u ∈ vs, Va u) ∧ vs.length ≤ 10 := fun vs hvs => by
          rcases List.mem_append.mp hvs with h | h
          · exact hvv vs h
          · simp only [List.mem_cons, List.not_mem_nil, or_false] at h
            rcases h with rfl | rfl
            · exact ⟨huv, by omega⟩
            · exact ⟨(fun _ z => nomatch z), by simp⟩
        have rl13 : (rs ++ [V.ref p10, .ref p11]).length ≤ 9 := by simp; omega
        generalize upd H12 R (.lst (rs ++ [.ref p10, .ref p11])) = H13 at *
        generalize (rs ++ [V.ref p10, .ref p11]) = rs2 at *
        generalize vss ++ [us, []] = vss2 at *
        repeat walk_at "st"
        refine g_slL (SqL.of hD13) fun p14 hp14 => ?_
        have e14 : Fr [] H13 (upd H13 p14 (.lst (cutV us (some 1) none))) := Fr.new hp14
        have h14 : (upd H13 p14 (.lst (cutV us (some 1) none))) p14 = some (.lst (cutV us (some 1) none)) := upd_same
        have cv : ∀ u ∈ cutV us (some 1) none, Va u := fun u hu => huv u (cut_mem hu)
        have cl := cutV_length us (some 1) none
        generalize cutV us (some 1) none = ws at *
        have hB14 := hB13.fr0 e14
        have hD14 := e14.at hD13 (fun z => nomatch z)
        have hR14 := e14.at hR13 (fun z => nomatch z)
        have ht14 := ht13.fr e14
        generalize upd H13 p14 (.lst ws) = H14 at *
        repeat walk_at "st"
        refine g_tupleL (SqL.of h14) fun p15 hp15 => ?_
        have e15 : Fr [] H14 (upd H14 p15 (.tup ws)) := Fr.new hp15
        have h15 : SqT K (upd H14 p15 (.tup ws)) p15 ws := SqT.of upd_same
        have hB15 := hB14.fr0 e15
        have hD15 := e15.at hD14 (fun z => nomatch z)
        have hR15 := e15.at hR14 (fun z => nomatch z)
        have ht15 := ht14.fr e15
        generalize upd H14 p15 (.tup ws) = H15 at *
        repeat walk_at "st"
        refine ⟨R, rs2, .ref p15, rfl, rfl, hR15, lt_of (by omega), ?_⟩
        have e16 : Fr [R] H15 (upd H15 R (.lst (rs2 ++ [.ref p15]))) := Fr.mut (List.mem_singleton.mpr rfl) hR15 nofix_lst
        have hR16 : (upd H15 R (.lst (rs2 ++ [.ref p15]))) R = some (.lst (rs2 ++ [.ref p15])) := upd_same
        have hB16 := hB15.fr e16 (fun z => hRb.1 (List.mem_singleton.mp z).symm) (fun z => hRb.2 (List.mem_singleton.mp z).symm)
        have hD16 := e16.at hD15 (fun z => hRD (List.mem_singleton.mp z).symm)
        have ht16 : TdAll K (upd H15 R (.lst (rs2 ++ [.ref p15]))) (rs2 ++ [.ref p15]) ((vss2 ++ [ws]).map rowD) := by
          rw [List.map_append]
          exact (tda_snoc3 ht15 (show Td K H15 (.ref p15) (rowD ws) from .tup h15 (va_all cv))).fr e16
        have hv16 : ∀ vs ∈ vss2 ++ [ws], (∀ u ∈ vs, Va u) ∧ vs.length ≤ 10 := fun vs hvs => by
          rcases List.mem_append.mp hvs with h | h
          · exact hv13 vs h
          · rw [List.mem_singleton.mp h]; exact ⟨cv, by omega⟩
        have rl16 : (rs2 ++ [V.ref p15]).length ≤ 10 := by simp; omega
        have r0 : ∃ x0 xr v0 vr, rs2 ++ [V.ref p15] = x0 :: xr ∧ vss2 ++ [ws] = v0 :: vr := by
          have l := tda_len3 ht16
          rw [List.length_map] at l
          cases e1 : rs2 ++ [V.ref p15] with
          | nil => simp at e1
          | cons x0 xr =>
            cases e2 : vss2 ++ [ws] with
            | nil => simp at e2
            | cons v0 vr => exact ⟨_, _, _, _, rfl, rfl⟩
        generalize upd H15 R (.lst (rs2 ++ [.ref p15])) = H16 at *
        generalize (rs2 ++ [V.ref p15]) = rs3 at *
        generalize vss2 ++ [ws] = vss3 at *
        repeat walk_at "st"
        refine sort_rows (g := .tuple) (.inl fun _ => rfl) (fun r us H Q E h h2 h3 k => ⟨r, us, rfl, h, h2, h3, fun y H' e t => k y H' e t.dp⟩) hR16 ht16 hv16 fun p17 H17 e17 hp17 => ?_
        have cg : sortK rs3 (vss3.map fun vs => PyData.tuple (vs.map rankD)) = sortK rs3 (vss3.map fun vs => PyData.list (vs.map rankD)) := sortK_congr fun a _ b _ => by rw [PySem.W.dataLt_tuple, PySem.W.dataLt_list]
        rw [cg]
        have sl := (sortK_perm rs3 (vss3.map fun vs => PyData.list (vs.map rankD)) (by rw [tda_len3 ht16, List.length_map, List.length_map])).length_eq
        have sm := fun {x} => (sortK_perm rs3 (vss3.map fun vs => PyData.list (vs.map rankD)) (by rw [tda_len3 ht16, List.length_map, List.length_map])).mem_iff (a := x)
        have e18 : Fr [] H17 (upd H17 p17 (.lst (sortK rs3 (vss3.map fun vs => PyData.list (vs.map rankD))))) := Fr.new hp17
        have h18 : (upd H17 p17 (.lst (sortK rs3 (vss3.map fun vs => PyData.list (vs.map rankD))))) p17 = some (.lst (sortK rs3 (vss3.map fun vs => PyData.list (vs.map rankD)))) := upd_same
        have E18 := e17.trans e18
        have hR18 := E18.at hR16 (fun z => nomatch z)
        have ht18 := ht16.fr E18
        generalize upd H17 p17 (.lst (sortK rs3 (vss3.map fun vs => PyData.list (vs.map rankD)))) = H18 at *
        repeat walk_at "st"
        refine sort_rows (g := .list) (.inr fun _ => rfl) (fun r us H Q E h h2 h3 k => ⟨r, us, rfl, h, h2, h3, fun p xs H' e hp t => k (.ref p) H' e (.lst (SqL.of hp) t.dp)⟩) hR18 ht18 hv16 fun p19 H19 e19 hp19 => ?_
        have e20 : Fr [] H19 (upd H19 p19 (.lst (sortK rs3 (vss3.map fun vs => PyData.list (vs.map rankD))))) := Fr.new hp19
        have h20 : (upd H19 p19 (.lst (sortK rs3 (vss3.map fun vs => PyData.list (vs.map rankD))))) p19 = some (.lst (sortK rs3 (vss3.map fun vs => PyData.list (vs.map rankD)))) := upd_same
        have E20 := e19.trans e20
        have h1820 := E20.at h18 (fun z => nomatch z)
        have hR20 := E20.at hR18 (fun z => nomatch z)
        have ht20 := ht18.fr E20
        have E1620 := E18.trans E20
        have hB20 := hB16.fr0 E1620
        have hD20 := E1620.at hD16 (fun z => nomatch z)
        generalize upd H19 p19 (.lst (sortK rs3 (vss3.map fun vs => PyData.list (vs.map rankD)))) = H20 at *
        generalize sortK rs3 (vss3.map fun vs => PyData.list (vs.map rankD)) = zs2 at *
        obtain ⟨ds, k1, k2, k3⟩ := pick_data (K := K) (H := H20) (n := 4) (xs := zs2) fun x hx => by
          obtain ⟨d, hd, td⟩ := tda_mem ht20 (sm.mp hx)
          obtain ⟨vs, hvs, rfl⟩ := List.mem_map.mp hd
          exact ⟨_, td, row_sm 2 (hv16 vs hvs).1 (hv16 vs hvs).2⟩
        repeat walk_at "st"
        refine ⟨.ref p17, .ref p19, .list ds, rfl, .lst (SqL.of h1820) k1.dp, .lst (SqL.of h20) k1.dp, ⟨by omega, k3⟩, fun H21 e21 => ?_⟩
        have hB21 := hB20.fr0 e21
        have hD21 := e21.at hD20 (fun z => nomatch z)
        have hR21 := e21.at hR20 (fun z => nomatch z)
        have ht21 := ht20.fr e21
        repeat walk_at "st"
        refine ⟨D, rfl, ⟨_, SqL.of hD21⟩, fun D3 hD3 => lc_it (walk_list (xs := us)) (fun i H' => Fr [] H21 H' ∧ H' D3 = some (.lst ((List.replicate i true).map V.bl))) ⟨Fr.new hD3, upd_same⟩ (fun i H' _ h => SqL.of (h.1.at hD21 (fun z => nomatch z))) (fun i y H22 H23 hi h yy => ?_) (fun H22 h => ?_)⟩
        · obtain ⟨rfl, hy⟩ := yy
          obtain ⟨e22, h22⟩ := h
          repeat walk_at "st"
          refine ⟨rfl, ?_⟩
          repeat walk_at "st"
          refine ⟨y, rfl, huv y (List.mem_of_getElem? hy), fun z H24 e24 tz => ?_⟩
          obtain ⟨x0, y0, er⟩ := rank_tup (huv y (List.mem_of_getElem? hy))
          rw [er] at tz
          repeat walk_at "st"
          refine g_isi (b := true) (td_ty tz) (by decide +kernel) ?_
          refine ⟨_, e24.at h22 (fun z => nomatch z), lt_of (by rw [List.length_map, List.length_replicate]; omega), (e22.trans e24).over hD3, ?_⟩
          rw [upd_same, List.replicate_succ', List.map_append]
          rfl
        · obtain ⟨e22, h22⟩ := h
          have hB22 := hB21.fr0 e22
          have hR22 := e22.at hR21 (fun z => nomatch z)
          have ht22 := ht21.fr e22
          repeat walk_at "st"
          refine ⟨D3, List.replicate us.length true, rfl, SqL.of h22, ?_⟩
          have ea : (List.replicate us.length true).all id = true := by simp
          rw [ea]
          repeat walk_at "st"
          obtain ⟨x0, xr, v0, vr, rfl, rfl⟩ := r0
          refine g_ixL (SqL.of hR22) (atI_nat (j := 0) rfl) ?_
          have hv0 := hv16 v0 List.mem_cons_self
          obtain ⟨r, rfl, hr0⟩ := row_inv hv0.1 (tda_at (j := 0) ht22 rfl rfl)
          repeat walk_at "st"
          refine ⟨r, v0, rfl, hr0, hv0.1, hv0.2, fun y H23 e23 ty => ?_⟩
          repeat walk_at "st"
          refine g_isi (b := true) (td_ty ty) (by decide +kernel) ?_
          repeat walk_at "st"
          exact ⟨hB22.fr0 e23, _, _, _, _, _, _, _, rfl⟩
  · obtain ⟨hB0, z2, z3, z4, z5, z6, z7, z8, rfl⟩ := h
    repeat walk_at "st"
    exact q _
end

def d_rank : He.DefD := ⟨("rank", none), "rank", "rank", defArgs s_rank, defBody s_rank, defScope s_rank, [], []⟩
def d_row_rank : He.DefD := ⟨("row_rank", none), "row_rank", "row_rank", defArgs s_row_rank, defBody s_row_rank, defScope s_row_rank, [], []⟩
def d__law_bag : He.DefD := ⟨("_law_bag", none), "_law_bag", "_law_bag", defArgs s__law_bag, defBody s__law_bag, defScope s__law_bag, [], []⟩
def d__law_pull : He.DefD := ⟨("_law_pull", none), "_law_pull", "_law_pull", defArgs s__law_pull, defBody s__law_pull, defScope s__law_pull, [], []⟩
def d__law_one : He.DefD := ⟨("_law_one", none), "_law_one", "_law_one", defArgs s__law_one, defBody s__law_one, defScope s__law_one, [], []⟩
def d__law_same : He.DefD := ⟨("_law_same", none), "_law_same", "_law_same", defArgs s__law_same, defBody s__law_same, defScope s__law_same, [], []⟩
def d__law_word : He.DefD := ⟨("_law_word", none), "_law_word", "_law_word", defArgs s__law_word, defBody s__law_word, defScope s__law_word, [], []⟩
def d__law_number : He.DefD := ⟨("_law_number", none), "_law_number", "_law_number", defArgs s__law_number, defBody s__law_number, defScope s__law_number, [], []⟩
def d__law_value : He.DefD := ⟨("_law_value", none), "_law_value", "_law_value", defArgs s__law_value, defBody s__law_value, defScope s__law_value, [], []⟩
def d__law_rank : He.DefD := ⟨("_law_rank", none), "_law_rank", "_law_rank", defArgs s__law_rank, defBody s__law_rank, defScope s__law_rank, [], []⟩
def d__law_row_rank : He.DefD := ⟨("_law_row_rank", none), "_law_row_rank", "_law_row_rank", defArgs s__law_row_rank, defBody s__law_row_rank, defScope s__law_row_rank, [], []⟩
def d_law : He.DefD := ⟨("law", none), "law", "law", defArgs s_law, defBody s_law, defScope s_law, [], []⟩
def fnAll : List He.DefD := [d_rank, d_row_rank, d__law_bag, d__law_pull, d__law_one, d__law_same, d__law_word, d__law_number, d__law_value, d__law_rank, d__law_row_rank, d_law]
def faAll : List He.Fa := [.glo "rank", .glo "row_rank", .glo "_law_bag", .glo "_law_pull", .glo "_law_one", .glo "_law_same", .glo "_law_word", .glo "_law_number", .glo "_law_value", .glo "_law_rank", .glo "_law_row_rank", .glo "law", .free "len", .free "list", .free "range", .free "isinstance", .free "tuple", .free "repr", .free "zip", .free "all", .free "bool", .free "int", .free "sorted"]
def looseAll : List PySem.Str := (["rank", "row_rank", "_law_bag", "_law_pull", "_law_one", "_law_same", "_law_word", "_law_number", "_law_value", "_law_rank", "_law_row_rank"] : List PySem.Str)
def tsAll : List He.Tab := []
def exL (K : PySem.W.Frag) : List Bool := []
def exAll (K : PySem.W.Frag) : Bool := (exL K).all id
theorem exL_at {K : PySem.W.Frag} {b : Bool} (h : exAll K = true) (i : Nat) (e : (exL K)[i]? = some b) : b = true := List.all_eq_true.mp h b (List.mem_of_getElem? e)
abbrev RR : PySem.W.OpenRow := PySem.W.OpenLaw.row PySem.Challenge.rw_sightlore_k02_order_of_values_and_rows
abbrev hk : PySem.W.Hook := SL.hookY 4 faAll fnAll tsAll exAll
def obAll (s : PySem.W.SharedT) : He.AlX := SL.obsY 4 faAll fnAll tsAll exAll (HandSHeadRun.getT s)
theorem ob_eq (s : PySem.W.SharedT) : obAll s = hk.obs s.abs := SL.obsY_eq (HandSHeadRun.getT_eq s)
theorem run (w : World) : HandSHeadRun.RunEq RR (PySem.W.view RR.prog [13]) hk obAll 4000 looseAll w := by
  refine PySem.W.byRow2 "special-get-raises" (P := fun w => HandSHeadRun.RunEq RR (PySem.W.view RR.prog [13]) hk obAll 4000 looseAll w) (fun w os => ?_) (fun w os => ?_) w
  · kernel_rfl
  · kernel_rfl
theorem facts {P : Program} {w : World} {K : PySem.W.Frag} {h : Heap} {mg : Str → Option Value} {f : Addr} (X : K.In h) (G : h.Ns mainGlobals mg) (hfa : mg ("law" : Str) = some (.ref f)) (c : SL.SaysY faAll fnAll tsAll exAll w K) :
    ∃ fd : FuncData, (∀ (s : Shared) (v : Value), BindsTo s fd ⟨[v], []⟩ [("_law_script", v)]) ∧ ∀ base : Heap, K.In base → base.Ns mainGlobals mg → FnG P w K mg base CX0 100 f fd ["_law_script"] (spLaw K) := by
  obtain ⟨fd_rank, F_rank⟩ := c.t.d.def_ 0 (d := d_rank) rfl
  have M_rank := He.glo_ok X G (c.t.d.fact 0 (f := .glo "rank") rfl)
  have b_rank : Binds K fd_rank ["value"] [] := F_rank.bindsN fun _ _ _ _ _ _ us hl => match us, hl with | [_], _ => rfl
  obtain ⟨fd_row_rank, F_row_rank⟩ := c.t.d.def_ 1 (d := d_row_rank) rfl
  have M_row_rank := He.glo_ok X G (c.t.d.fact 1 (f := .glo "row_rank") rfl)
  have b_row_rank : Binds K fd_row_rank ["row"] [] := F_row_rank.bindsN fun _ _ _ _ _ _ us hl => match us, hl with | [_], _ => rfl
  obtain ⟨fd__law_bag, F__law_bag⟩ := c.t.d.def_ 2 (d := d__law_bag) rfl
  have M__law_bag := He.glo_ok X G (c.t.d.fact 2 (f := .glo "_law_bag") rfl)
  have b__law_bag : Binds K fd__law_bag ["_law_script"] [] := F__law_bag.bindsN fun _ _ _ _ _ _ us hl => match us, hl with | [_], _ => rfl
  obtain ⟨fd__law_pull, F__law_pull⟩ := c.t.d.def_ 3 (d := d__law_pull) rfl
  have M__law_pull := He.glo_ok X G (c.t.d.fact 3 (f := .glo "_law_pull") rfl)
  have b__law_pull : Binds K fd__law_pull ["_law_bag_here", "_law_upto"] [] := F__law_pull.bindsN fun _ _ _ _ _ _ us hl => match us, hl with | [_, _], _ => rfl
  obtain ⟨fd__law_one, F__law_one⟩ := c.t.d.def_ 4 (d := d__law_one) rfl
  have M__law_one := He.glo_ok X G (c.t.d.fact 4 (f := .glo "_law_one") rfl)
  have b__law_one : Binds K fd__law_one ["_law_bag_here", "_law_row"] [] := F__law_one.bindsN fun _ _ _ _ _ _ us hl => match us, hl with | [_, _], _ => rfl
  obtain ⟨fd__law_same, F__law_same⟩ := c.t.d.def_ 5 (d := d__law_same) rfl
  have M__law_same := He.glo_ok X G (c.t.d.fact 5 (f := .glo "_law_same") rfl)
  have b__law_same : Binds K fd__law_same ["_law_found", "_law_due"] [] := F__law_same.bindsN fun _ _ _ _ _ _ us hl => match us, hl with | [_, _], _ => rfl
  obtain ⟨fd__law_word, F__law_word⟩ := c.t.d.def_ 6 (d := d__law_word) rfl
  have M__law_word := He.glo_ok X G (c.t.d.fact 6 (f := .glo "_law_word") rfl)
  have b__law_word : Binds K fd__law_word ["_law_bag_here"] [] := F__law_word.bindsN fun _ _ _ _ _ _ us hl => match us, hl with | [_], _ => rfl
  obtain ⟨fd__law_number, F__law_number⟩ := c.t.d.def_ 7 (d := d__law_number) rfl
  have M__law_number := He.glo_ok X G (c.t.d.fact 7 (f := .glo "_law_number") rfl)
  have b__law_number : Binds K fd__law_number ["_law_bag_here"] [] := F__law_number.bindsN fun _ _ _ _ _ _ us hl => match us, hl with | [_], _ => rfl
  obtain ⟨fd__law_value, F__law_value⟩ := c.t.d.def_ 8 (d := d__law_value) rfl
  have M__law_value := He.glo_ok X G (c.t.d.fact 8 (f := .glo "_law_value") rfl)
  have b__law_value : Binds K fd__law_value ["_law_bag_here", "_law_kind"] [] := F__law_value.bindsN fun _ _ _ _ _ _ us hl => match us, hl with | [_, _], _ => rfl
  obtain ⟨fd__law_rank, F__law_rank⟩ := c.t.d.def_ 9 (d := d__law_rank) rfl
  have M__law_rank := He.glo_ok X G (c.t.d.fact 9 (f := .glo "_law_rank") rfl)
  have b__law_rank : Binds K fd__law_rank ["_law_value_here"] [] := F__law_rank.bindsN fun _ _ _ _ _ _ us hl => match us, hl with | [_], _ => rfl
  obtain ⟨fd__law_row_rank, F__law_row_rank⟩ := c.t.d.def_ 10 (d := d__law_row_rank) rfl
  have M__law_row_rank := He.glo_ok X G (c.t.d.fact 10 (f := .glo "_law_row_rank") rfl)
  have b__law_row_rank : Binds K fd__law_row_rank ["_law_row"] [] := F__law_row_rank.bindsN fun _ _ _ _ _ _ us hl => match us, hl with | [_], _ => rfl
  obtain ⟨fd_law, F_law⟩ := c.t.d.def_ 11 (d := d_law) rfl
  have Z_len := He.free_ok X G (c.t.d.fact 12 (f := .free "len") rfl)
  have Z_list := He.free_ok X G (c.t.d.fact 13 (f := .free "list") rfl)
  have Z_range := He.free_ok X G (c.t.d.fact 14 (f := .free "range") rfl)
  have Z_isinstance := He.free_ok X G (c.t.d.fact 15 (f := .free "isinstance") rfl)
  have Z_tuple := He.free_ok X G (c.t.d.fact 16 (f := .free "tuple") rfl)
  have Z_repr := He.free_ok X G (c.t.d.fact 17 (f := .free "repr") rfl)
  have Z_zip := He.free_ok X G (c.t.d.fact 18 (f := .free "zip") rfl)
  have Z_all := He.free_ok X G (c.t.d.fact 19 (f := .free "all") rfl)
  have Z_bool := He.free_ok X G (c.t.d.fact 20 (f := .free "bool") rfl)
  have Z_int := He.free_ok X G (c.t.d.fact 21 (f := .free "int") rfl)
  have Z_sorted := He.free_ok X G (c.t.d.fact 22 (f := .free "sorted") rfl)
  have eL := hfa.symm.trans (He.glo_ok X G (c.t.d.fact 11 (f := .glo "law") rfl))
  cases eL
  have bL := FunD.bindsA (ps := ["_law_script"]) F_law fun _ _ _ _ _ _ us hl => match us, hl with | [_], _ => rfl
  refine ⟨fd_law, fun s v => bL s [v] rfl, fun base _ _ => ?_⟩
  have B : Bi mg := ⟨Z_len, Z_list, Z_range⟩
  have BS : BiS mg := ⟨Z_isinstance, Z_list, Z_tuple, Z_repr, Z_zip, Z_all, Z_len⟩
  have BW : BiW mg := ⟨Z_isinstance, Z_bool, Z_int, Z_tuple⟩
  have BK : BiK mg := ⟨Z_range, Z_sorted, Z_tuple, Z_len, Z_all, Z_isinstance⟩
  have C__law_bag := calG_of (P := P) (w := w) (base := base) (ok__law_bag F__law_bag B) M__law_bag F__law_bag.kp b__law_bag
  have C__law_pull := calG_of (P := P) (w := w) (base := base) (ok__law_pull F__law_pull B) M__law_pull F__law_pull.kp b__law_pull
  have C__law_one := calG_of (P := P) (w := w) (base := base) (ok__law_one F__law_one B C__law_pull) M__law_one F__law_one.kp b__law_one
  have C__law_word := calG_of (P := P) (w := w) (base := base) (ok__law_word F__law_word B C__law_pull C__law_one) M__law_word F__law_word.kp b__law_word
  have C__law_number := calG_of (P := P) (w := w) (base := base) (ok__law_number F__law_number C__law_pull) M__law_number F__law_number.kp b__law_number
  have C__law_value := calG_of (P := P) (w := w) (base := base) (ok__law_value F__law_value C__law_pull C__law_one C__law_word C__law_number) M__law_value F__law_value.kp b__law_value
  have R__law_same := calG_rec0 (P := P) (w := w) (base := base) (sp := spSame K) (fun vs H Q E h => by obtain ⟨x, y, d, rfl, _, _, hm, _⟩ := h; exact sm_zero hm) M__law_same F__law_same.kp b__law_same fun n C => ok__law_same F__law_same BS C
  have D_rank : CalF P w K mg base _ "rank" _ _ := ⟨M_rank, fd_rank, ["value"], ok_rank F_rank BW, F_rank.kp, b_rank⟩
  have D__law_rank : CalF P w K mg base _ "_law_rank" _ _ := ⟨M__law_rank, fd__law_rank, ["_law_value_here"], ok__law_rank F__law_rank BW, F__law_rank.kp, b__law_rank⟩
  have D_row_rank : CalF P w K mg base _ "row_rank" _ _ := ⟨M_row_rank, fd_row_rank, ["row"], ok_row_rank F_row_rank BW D_rank.g, F_row_rank.kp, b_row_rank⟩
  have D__law_row_rank : CalF P w K mg base _ "_law_row_rank" _ _ := ⟨M__law_row_rank, fd__law_row_rank, ["_law_row"], ok__law_row_rank F__law_row_rank D__law_rank.g, F__law_row_rank.kp, b__law_row_rank⟩
  exact ok_law F_law BK C__law_bag C__law_pull C__law_one C__law_value (R__law_same 5) D_rank D__law_rank D_row_rank D__law_row_rank
end LW
open PySem PySem.W PySem.Calls PyProof.Rows
set_option maxHeartbeats 0 in
theorem PySem.Challenge.cw_sightlore_k02_order_of_values_and_rows_holds : PySem.Challenge.rw_sightlore_k02_order_of_values_and_rows.Holds := by
  w_on; o_law
  refine HandSHeadRun.head_any (r := OpenLaw.row PySem.Challenge.rw_sightlore_k02_order_of_values_and_rows) (q := view (OpenLaw.row PySem.Challenge.rw_sightlore_k02_order_of_values_and_rows).prog [13]) (H := LW.hk) (ob := LW.obAll) (M := 4000) (loose := LW.looseAll) (d := HandSHeadRun.topDef (OpenLaw.row PySem.Challenge.rw_sightlore_k02_order_of_values_and_rows).prog 13) (kwd := []) LW.ob_eq
    (by kernel_rfl) (fun s => by kernel_rfl) LW.run (by kernel_rfl) (by kernel_rfl) (by kernel_rfl) (by rfl) (by first | assumption | decide +kernel) (by decide +kernel) ⟨rfl, rfl, rfl, rfl, rfl, by decide +kernel⟩ ?hw ?hc
  case hw => w_witness2
  case hc =>
    refine SL.walkG (l := PySem.Challenge.rw_sightlore_k02_order_of_values_and_rows) (n := 63) (k := 100) (x := "_law_script") rfl (by decide) (by kernel_rfl) ⟨rfl, by decide, by decide⟩ ?F
    intro w mg fa h Y G hmg0
    obtain ⟨K, KX, c⟩ := Y
    have hmg : mg ("law" : PySem.Str) = some (.ref fa) := by
      have e : (HandSHeadRun.topDef (OpenLaw.row PySem.Challenge.rw_sightlore_k02_order_of_values_and_rows).prog 13).name = ("law" : PySem.Str) := by kernel_rfl
      rw [← e]
      exact hmg0
    obtain ⟨fd, hb, hF⟩ := LW.facts (P := (PySem.Challenge.rw_sightlore_k02_order_of_values_and_rows).prog) (w := w) KX G hmg c
    exact ⟨K, fd, LW.spLaw K, KX, hb, fun H a ns hl hS => ⟨a, ns, rfl, hS, hl, fun _ => rfl⟩, hF⟩
