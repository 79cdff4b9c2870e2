import PyProof.Rows.All
import Wide.All
import OpenK.AllK
import Wide.FinOn
import HandS.ForMost
import HandS.ForExc
import HandS.IsInst
import HandS.ClsMeth
import HandS.Wide
import HandS.Flow
import HandS.Property
import HandS.WideBits
import HandS.Flt
import HandS.ExcInit
import HandS.ExcSuper
import HandS.ExcField
import HandS.ExcIs
import HandS.ExcOwn
import HandS.WordsExc
import KE.KExcSuper
import KE.KSuper
import KE.KExcIs
import HandS.Defaults
import KE.GoesEnum
import HandS.FStr
import HandS.More
import HandS.Walk
import PyProof.Rows.RegStrFacts
import PySem.Challenge.RW_lossway_k03_sum_tells_changes
set_option Elab.async false
set_option linter.all false
set_option maxRecDepth 100000
set_option maxHeartbeats 4000000
set_option synthInstance.maxHeartbeats 0
set_option synthInstance.maxSize 1000000
set_option synthInstance.checkSynthOrder false
/-! The layer of this work: readings without the written part, a def's promise by its own body. -/
namespace Y
open PySem PySem.Spec PyProof.Rows L2

/-! ### weaker readings -/
section
variable {X : Cx}
theorem pe_imp {e : Expr} {t t' : TE} (h : PE X e t) (hi : ∀ σ H Q, t' σ H Q → t σ H Q) : PE X e t' := ⟨fun pins s σ H Q I q => h.run pins s σ H Q I (hi σ H Q q)⟩
theorem ps_imp {e : Stmt} {t t' : TS} (h : PS X e t) (hi : ∀ D σ H, t' D σ H → t D σ H) : PS X e t' := ⟨fun pins s σ H D I q => h.run pins s σ H D I (hi D σ H q)⟩
theorem op_imp {f : Value → Value → Sem Value} {r r' : R2} (h : OpR X f r) (hi : ∀ x y H Q, r' x y H Q → r x y H Q) : OpR X f r' := fun pins s σ H x y v u Q I rx ry q => h pins s σ H x y v u Q I rx ry (hi x y H Q q)
theorem op_or {f : Value → Value → Sem Value} {r r' : R2} (h : OpR X f r) (h' : OpR X f r') : OpR X f (fun x y H Q => r x y H Q ∨ r' x y H Q) := fun pins s σ H x y v u Q I rx ry q =>
  q.elim (h pins s σ H x y v u Q I rx ry) (h' pins s σ H x y v u Q I rx ry)
theorem ix_imp {r r' : R2} (h : IxR X r) (hi : ∀ x y H Q, r' x y H Q → r x y H Q) : IxR X r' := fun value slice pins s σ H x y v u Q I rx ry q hs => h value slice pins s σ H x y v u Q I rx ry (hi x y H Q q) hs
theorem call_imp {f : Value} {r r' : List V → Hp → VK → Prop} (h : CallR X f r) (hi : ∀ xs H Q, r' xs H Q → r xs H Q) : CallR X f r' := fun pins s σ H xs us Q I rx q => h pins s σ H xs us Q I rx (hi xs H Q q)
end

/-! ### what stands at an address; S: static things, of the written part -/
abbrev Sta := Addr → HO → Prop
def SK (K : PySem.W.Frag) : Sta := fun a u => match u with
  | .lst xs => ∃ (o : Obj) (its : Array Value) (n : Nat), K.lookup a = some o ∧ o.cls = .type "list" ∧ o.dict = none ∧ o.data = .seq its n ∧ its.size ≤ sizeLine ∧ Vals xs its.toList
  | .tup xs => ∃ (o : Obj) (its : Array Value) (n : Nat), K.lookup a = some o ∧ o.cls = .type "tuple" ∧ o.data = .seq its n ∧ its.size ≤ sizeLine ∧ Vals xs its.toList
  | _ => False
def RdS (S : Sta) (H : Hp) (p : Addr) (u : HO) : Prop := Rd H p u ∨ S p u
theorem sqL {K : PySem.W.Frag} {S : Sta} {H : Hp} {p : Addr} {xs : List V} (e : S = SK K) (h : RdS S H p (.lst xs)) : SqL K H p xs := by subst e; exact h
theorem sqT {K : PySem.W.Frag} {S : Sta} {H : Hp} {p : Addr} {xs : List V} (e : S = SK K) (h : RdS S H p (.tup xs)) : SqT K H p xs := by subst e; exact h
/-- a list or a tuple -/
def Seq (S : Sta) (H : Hp) (p : Addr) (xs : List V) : Prop := RdS S H p (.lst xs) ∨ RdS S H p (.tup xs)

/-! ### operators -/
def rAdd : R2 := fun x y H Q => (∃ i j, x = .int i ∧ y = .int j ∧ Q (.int (i + j)) H) ∨ (∃ i j, x = .str i ∧ y = .str j ∧ i.length + j.length ≤ sizeLine ∧ Q (.str (i ++ j)) H)
  ∨ (∃ p q a b, x = .ref p ∧ y = .ref q ∧ H p = some (.lst a) ∧ H q = some (.lst b) ∧ a.length + b.length ≤ sizeLine ∧ ∀ r, H r = none → Q (.ref r) (upd H r (.lst (a ++ b))))
def rSub : R2 := rI0 fun i j => .int (i - j)
def rMul : R2 := rI CMul fun i j => .int (i * j)
def rFdiv : R2 := rI CDivW fun i j => .int (i / j)
def rMod : R2 := rI (fun _ j => 0 < j) fun i j => .int (i % j)
def rPow : R2 := rI CPow fun i j => .int (i ^ j.toNat)
def rShl : R2 := rI CPow fun i j => .int (i * 2 ^ j.toNat)
def rAnd : R2 := rI0 fun i j => .int (Builtin.bitAnd i j)
def rLt : R2 := rI0 fun i j => .bl (decide (i < j))
def rLe : R2 := rI0 fun i j => .bl (decide (i ≤ j))
def rGt : R2 := rI0 fun i j => .bl (decide (j < i))
def rGe : R2 := rI0 fun i j => .bl (decide (j ≤ i))
def rNeg : V → Hp → VK → Prop := rU fun i => .int (-i)
def rIs : R2 := fun x y H Q => y = .non ∧ Q (.bl (decide (x = .non))) H
def rIsNot : R2 := fun x y H Q => y = .non ∧ Q (.bl (!decide (x = .non))) H
section
variable {X : Cx}
theorem o_add : OpR X (binaryOp .Add) rAdd := op_imp (op_or op_add (op_or op_add_str op_cat)) fun x y H Q q => by
  rcases q with q | q | ⟨p, q, a, b, e1, e2, h1, h2, h3, h4⟩
  · exact .inl q
  · exact .inr (.inl q)
  · exact .inr (.inr ⟨p, q, a, b, e1, e2, h1, h2, h3, h4⟩)
theorem o_sub : OpR X (binaryOp .Sub) rSub := op_sub
theorem o_mul : OpR X (binaryOp .Mult) rMul := op_mul
theorem o_fdiv : OpR X (binaryOp .FloorDiv) rFdiv := op_fdivW
theorem o_mod : OpR X (binaryOp .Mod) rMod := op_mod
theorem o_pow : OpR X (binaryOp .Pow) rPow := op_pow
theorem o_shl : OpR X (binaryOp .LShift) rShl := op_shl
theorem o_and : OpR X (binaryOp .BitAnd) rAnd := op_and
theorem o_lt : OpR X (compareOp .Lt) rLt := op_lt
theorem o_le : OpR X (compareOp .LtE) rLe := op_le
theorem o_gt : OpR X (compareOp .Gt) rGt := op_gt
theorem o_ge : OpR X (compareOp .GtE) rGe := op_ge
theorem o_eq : OpR X (compareOp .Eq) rEq := op_eq
theorem o_ne : OpR X (compareOp .NotEq) rNe := op_ne
theorem o_is : OpR X (compareOp .Is) rIs := op_isN
theorem o_isnot : OpR X (compareOp .IsNot) rIsNot := op_notN
theorem o_neg : UnR X (unaryOp .USub) rNeg := un_neg
end

/-! ### subscripts, len, slices -/
def rIx (S : Sta) : R2 := fun x y H Q => (∃ p xs i v, x = .ref p ∧ y = .int i ∧ Seq S H p xs ∧ atI xs i = some v ∧ Q v H) ∨ (∃ z i c, x = .str z ∧ y = .int i ∧ z.length ≤ sizeLine ∧ atI z.cps.toList i = some c ∧ Q (.str ⟨#[c]⟩) H)
def rLen (S : Sta) : List V → Hp → VK → Prop := fun xs H Q => (∃ p ys, xs = [.ref p] ∧ Seq S H p ys ∧ Q (.int ys.length) H) ∨ (∃ z, xs = [.str z] ∧ z.length ≤ sizeLine ∧ Q (.int z.length) H)
def rInt : List V → Hp → VK → Prop := fun xs H Q => (∃ i, xs = [.int i] ∧ Q (.int i) H) ∨ ∃ k, xs = [.bl k] ∧ Q (.int (if k then 1 else 0)) H
def rStrI : List V → Hp → VK → Prop := fun xs H Q => ∃ i, xs = [.int i] ∧ i.natAbs.log2 < 1920 ∧ Q (.str (toString i)) H
def rSl (S : Sta) : V → Option Int → Option Int → Hp → VK → Prop := fun x lo hi H Q => ∃ a xs, x = .ref a ∧ RdS S H a (.lst xs) ∧ ∀ p, H p = none → Q (.ref p) (upd H p (.lst (cutV xs lo hi)))
section
variable {X : Cx}
variable {S : Sta}
theorem o_ix (st : S = SK X.K) : IxR X (rIx S) := ix_imp (ix_list.or (ix_tup.or ix_str)) fun x y H Q q => by
  rcases q with ⟨p, xs, i, v, e1, e2, h | h, h2, h3⟩ | q
  · exact .inl ⟨p, xs, i, v, e1, e2, sqL st h, h2, h3⟩
  · exact .inr (.inl ⟨p, xs, i, v, e1, e2, sqT st h, h2, h3⟩)
  · exact .inr (.inr q)
theorem c_len (st : S = SK X.K) : CallR X (.builtin "len") (rLen S) := call_imp call_len fun xs H Q q => by
  rcases q with ⟨p, ys, e, h | h, q⟩ | ⟨z, e, h, q⟩
  · exact ⟨_, _, e, .inl ⟨_, sqL st h, rfl⟩, q⟩
  · exact ⟨_, _, e, .inr ⟨_, sqT st h, rfl⟩, q⟩
  · exact ⟨_, _, e, ⟨h, rfl⟩, q⟩
theorem c_int : CallR X (.type "int") rInt := call_int1
theorem c_strI : CallR X (.type "str") rStrI := call_str_int
theorem o_sl (st : S = SK X.K) : SlR X (rSl S) := fun pins s σ H x v vl vu lo hi sl Q I rx hs pl pu h => by
  obtain ⟨a, xs, e, hx, q⟩ := h
  exact sl_list pins s σ H x v vl vu lo hi sl Q I rx hs pl pu ⟨a, xs, e, sqL st hx, q⟩
end

/-! ### small built-ins -/
def rAbs : List V → Hp → VK → Prop := fun xs H Q => ∃ i, xs = [.int i] ∧ Q (.int (if i < 0 then -i else i)) H
def rMin2 : List V → Hp → VK → Prop := fun xs H Q => ∃ i j, xs = [.int i, .int j] ∧ Q (.int (if j < i then j else i)) H
def rMax2 : List V → Hp → VK → Prop := fun xs H Q => ∃ i j, xs = [.int i, .int j] ∧ Q (.int (if j > i then j else i)) H
def rMin3 : List V → Hp → VK → Prop := fun xs H Q => ∃ i j k, xs = [.int i, .int j, .int k] ∧ Q (.int (min (min i j) k)) H
def rSum (S : Sta) : List V → Hp → VK → Prop := fun vs H Q => ∃ (a : Addr) (ns : List Int), vs = [V.ref a] ∧ RdS S H a (.lst (ns.map V.int)) ∧ Q (.int ns.sum) H
def rAll (S : Sta) : List V → Hp → VK → Prop := fun vs H Q => ∃ (a : Addr) (bs : List Bool), vs = [V.ref a] ∧ RdS S H a (.lst (bs.map V.bl)) ∧ Q (.bl (bs.all id)) H
def rMaxL (S : Sta) : List V → Hp → VK → Prop := fun vs H Q => ∃ (a : Addr) (ns : List Int), vs = [V.ref a] ∧ RdS S H a (.lst (ns.map V.int)) ∧ 0 < ns.length ∧ ∀ m, m ∈ ns → (∀ y, y ∈ ns → y ≤ m) → Q (.int m) H
def rMinL (S : Sta) : List V → Hp → VK → Prop := fun vs H Q => ∃ (a : Addr) (ns : List Int), vs = [V.ref a] ∧ RdS S H a (.lst (ns.map V.int)) ∧ 0 < ns.length ∧ ∀ m, m ∈ ns → (∀ y, y ∈ ns → m ≤ y) → Q (.int m) H
def rListOf (S : Sta) : List V → Hp → VK → Prop := fun xs H Q => ∃ p ys, xs = [.ref p] ∧ Seq S H p ys ∧ ∀ l, H l = none → Q (.ref l) (upd H l (.lst ys))
def rTupleOf (S : Sta) : List V → Hp → VK → Prop := fun xs H Q => ∃ p ys, xs = [.ref p] ∧ ((RdS S H p (.lst ys) ∧ ∀ l, H l = none → Q (.ref l) (upd H l (.tup ys))) ∨ (RdS S H p (.tup ys) ∧ Q (.ref p) H))
section
variable {X : Cx} {S : Sta}
theorem c_abs : CallR X (.builtin "abs") rAbs := call_abs
theorem c_min2 (hc : X.calm = true) : CallR X (.builtin "min") rMin2 := call_min2 hc
theorem c_max2 (hc : X.calm = true) : CallR X (.builtin "max") rMax2 := call_max2 hc
theorem c_min3 (hc : X.calm = true) : CallR X (.builtin "min") rMin3 := call_imp (call_min3Nu hc) fun xs H Q ⟨i, j, k, e, q⟩ => by
  refine ⟨.int i, .int j, .int k, .int (min (min i j) k), e, ?_, q⟩
  have h2 : ∀ a b : Int, nuMin2 (.int a) (.int b) = some (.int (min a b)) := fun a b => by
    show some (if decide (b < a) = true then V.int b else V.int a) = _
    by_cases h : b < a
    · rw [decide_eq_true h, if_pos rfl, show min a b = b by omega]
    · rw [decide_eq_false h, if_neg Bool.false_ne_true, show min a b = a by omega]
  show (nuMin2 (.int i) (.int j)).bind _ = _
  rw [h2]
  exact h2 _ _
theorem c_sum (st : S = SK X.K) (hc : X.calm = true) : CallR X (.builtin "sum") (rSum S) := call_imp (cr_sum hc) fun xs H Q ⟨a, ns, e, h, q⟩ => ⟨a, ns, e, sqL st h, q⟩
theorem c_all (st : S = SK X.K) (hc : X.calm = true) : CallR X (.builtin "all") (rAll S) := call_imp (cr_all hc) fun xs H Q ⟨a, ns, e, h, q⟩ => ⟨a, ns, e, sqL st h, q⟩
theorem c_maxL (st : S = SK X.K) (hc : X.calm = true) : CallR X (.builtin "max") (rMaxL S) := call_imp (cr_max hc) fun xs H Q ⟨a, ns, e, h, q⟩ => ⟨a, ns, e, sqL st h, q⟩
theorem c_minL (st : S = SK X.K) (hc : X.calm = true) : CallR X (.builtin "min") (rMinL S) := call_imp (cr_min hc) fun xs H Q ⟨a, ns, e, h, q⟩ => ⟨a, ns, e, sqL st h, q⟩
theorem c_list (st : S = SK X.K) : CallR X (.type "list") (rListOf S) := call_imp call_list_of fun xs H Q ⟨p, ys, e, h, q⟩ => ⟨p, ys, e, h.elim (fun h => .inl (sqL st h)) (fun h => .inr (sqT st h)), q⟩
theorem c_tuple (st : S = SK X.K) : CallR X (.type "tuple") (rTupleOf S) := call_imp call_tuple_of fun xs H Q ⟨p, ys, e, h⟩ => ⟨p, ys, e, h.elim (fun h => .inl ⟨sqL st h.1, h.2⟩) (fun h => .inr ⟨sqT st h.1, h.2⟩)⟩
end

/-! ### == of data at any depth -/
mutual
inductive DpS (S : Sta) (H : Hp) : V → PyData → Prop
  | non : DpS S H .non .none
  | bl (b : Bool) : DpS S H (.bl b) (.bool b)
  | int (i : Int) : DpS S H (.int i) (.int i)
  | str (x : Str) : DpS S H (.str x) (.str x)
  | lst {a : Addr} {xs : List V} {ds : List PyData} : RdS S H a (.lst xs) → DpSs S H xs ds → DpS S H (.ref a) (.list ds)
  | tup {a : Addr} {xs : List V} {ds : List PyData} : RdS S H a (.tup xs) → DpSs S H xs ds → DpS S H (.ref a) (.tuple ds)
inductive DpSs (S : Sta) (H : Hp) : List V → List PyData → Prop
  | nil : DpSs S H [] []
  | cons {v : V} {vs : List V} {d : PyData} {ds : List PyData} : DpS S H v d → DpSs S H vs ds → DpSs S H (v :: vs) (d :: ds)
end
mutual
theorem DpS.dp {K : PySem.W.Frag} {S : Sta} (st : S = SK K) {H : Hp} : ∀ {v : V} {d : PyData}, DpS S H v d → Dp K H v d
  | _, _, .non => .non
  | _, _, .bl b => .bl b
  | _, _, .int i => .int i
  | _, _, .str x => .str x
  | _, _, .lst h r => .lst (sqL st h) (DpSs.dp st r)
  | _, _, .tup h r => .tup (sqT st h) (DpSs.dp st r)
theorem DpSs.dp {K : PySem.W.Frag} {S : Sta} (st : S = SK K) {H : Hp} : ∀ {v : List V} {d : List PyData}, DpSs S H v d → DpAll K H v d
  | _, _, .nil => .nil
  | _, _, .cons h r => .cons (DpS.dp st h) (DpSs.dp st r)
end
def rEqP (S : Sta) : R2 := fun x y H Q => rEq x y H Q ∨ ∃ d e, DpS S H x d ∧ DpS S H y e ∧ SeqAt.shaped d = true ∧ SeqAt.shaped e = true ∧ Q (.bl (PyData.eqv d e)) H
def rNeP (S : Sta) : R2 := fun x y H Q => rNe x y H Q ∨ ∃ d e, DpS S H x d ∧ DpS S H y e ∧ SeqAt.shaped d = true ∧ SeqAt.shaped e = true ∧ Q (.bl (!PyData.eqv d e)) H
section
variable {X : Cx} {S : Sta}
theorem o_eqP (st : S = SK X.K) (hu : X.A.units + 64 < cLine) : OpR X (compareOp .Eq) (rEqP S) := op_imp (op_or op_eq (op_eqD hu)) fun x y H Q q => q.elim .inl fun ⟨d, e, h1, h2, q⟩ => .inr ⟨d, e, h1.dp st, h2.dp st, q⟩
theorem o_neP (st : S = SK X.K) (hu : X.A.units + 64 < cLine) : OpR X (compareOp .NotEq) (rNeP S) := op_imp (op_or op_ne (op_neD hu)) fun x y H Q q => q.elim .inl fun ⟨d, e, h1, h2, q⟩ => .inr ⟨d, e, h1.dp st, h2.dp st, q⟩
end

/-! ### in: a sign in a text; a flat value in a list or a tuple -/
def rInA (S : Sta) (neg : Bool) : R2 := fun x y H Q => (∃ p xs, y = .ref p ∧ Seq S H p xs ∧ flatV x = true ∧ xs.all flatV = true ∧ Q (.bl (if neg then !inV x xs else inV x xs)) H)
  ∨ (∃ (c : Nat) (z : Str), x = .str ⟨#[c]⟩ ∧ y = .str z ∧ Q (.bl (if neg then !decide (c ∈ z.cps.toList) else decide (c ∈ z.cps.toList))) H)
section
variable {X : Cx} {S : Sta}
theorem o_inA (st : S = SK X.K) : OpR X (compareOp .In) (rInA S false) := op_imp (op_or op_in_seq op_in_sign) fun x y H Q q => by
  rcases q with ⟨p, xs, e, h, f, fs, q⟩ | q
  · exact .inl ⟨p, xs, e, h.elim (fun h => .inl (sqL st h)) (fun h => .inr (sqT st h)), f, fs, q⟩
  · exact .inr q
theorem o_notInA (st : S = SK X.K) : OpR X (compareOp .NotIn) (rInA S true) := op_imp (op_or op_notIn_seq op_notIn_sign) fun x y H Q q => by
  rcases q with ⟨p, xs, e, h, f, fs, q⟩ | q
  · exact .inl ⟨p, xs, e, h.elim (fun h => .inl (sqL st h)) (fun h => .inr (sqT st h)), f, fs, q⟩
  · exact .inr q
end

/-! ### types -/
inductive TyN (H : Hp) : V → String → Prop where
  | non : TyN H .non "NoneType"
  | bl (b : Bool) : TyN H (.bl b) "bool"
  | int (i : Int) : TyN H (.int i) "int"
  | str (s : Str) : TyN H (.str s) "str"
  | lst {a : Addr} {xs : List V} (e : Rd H a (.lst xs)) : TyN H (.ref a) "list"
  | tup {a : Addr} {xs : List V} (e : Rd H a (.tup xs)) : TyN H (.ref a) "tuple"
  | dK {a : Addr} {kvs : List (Key × V)} (e : H a = some (.dK kvs)) : TyN H (.ref a) "dict"
theorem TyN.x {K : PySem.W.Frag} {H : Hp} {x : V} {n : String} (t : TyN H x n) : TyX K H x (.type n) := by
  cases t with
  | non => exact .base .non
  | bl b => exact .base (.bl b)
  | int i => exact .base (.int i)
  | str s => exact .base (.str s)
  | lst e =>
    rcases e with e | ⟨o, e⟩
    · exact .base (.lst e)
    · exact .base (.frz e)
  | tup e =>
    rcases e with e | ⟨o, e⟩
    · exact .base (.tup e)
    · exact .fTuple e
  | dK e => exact .base (.dK e)
/-- isinstance(x, n) of a built-in class n, for the types above -/
def isA (t n : String) : Bool := t == n || (t == "bool" && n == "int")
def rIsI : List V → Hp → VK → Prop := fun xs H Q => ∃ x n t, xs = [x, .ty n] ∧ TyN H x t ∧ kitB t n = some (isA t n) ∧ Q (.bl (isA t n)) H
theorem c_isi {X : Cx} : CallR X (.builtin "isinstance") rIsI := call_imp call_isi fun xs H Q q => by
  obtain ⟨x, n, t, e, ty, k, q⟩ := q
  exact ⟨x, .ty n, .type t, .type n, isA t n, e, .ty n, ty.x, kit_ty k, q⟩

/-! ### fields, methods -/
/-- a reading closed under weaker ends -/
def mo (te : TE) : TE := fun σ H Q => ∃ Q0 : VK, te σ H Q0 ∧ ∀ v H', Q0 v H' → Q v H'
def moA (ta : TA) : TA := fun σ H Q => ∃ Q0 : List V → Hp → Prop, ta σ H Q0 ∧ ∀ v H', Q0 v H' → Q v H'
def eFld (C : Addr) (f : Str) (te : TE) : TE := fun σ H Q => te σ H fun x H1 => ∃ a dx fs v, x = .ref a ∧ H1 a = some (.ins C dx fs) ∧ fs.lookup f = some v ∧ Q v H1
def sSetF (C : Addr) (f : Str) (te tv : TE) : TS := fun D σ H => tv σ H fun y H1 => te σ H1 fun x H2 => ∃ a dx fs, x = .ref a ∧ H2 a = some (.ins C dx fs) ∧ fs.length < 1000 ∧ D.nx σ (upd H2 a (.ins C dx (putF f y fs)))
/-- o.f, a property -/
def eProp (C : Addr) (sp : Sp) (te : TE) : TE := fun σ H Q => te σ H fun x H1 => ∃ a dx fs, x = .ref a ∧ H1 a = some (.ins C dx fs) ∧ sp [.ref a] H1 Q E0
/-- o.f += e -/
def sAugF (C : Addr) (f : Str) (te tv : TE) (rd : V → V → Hp → VK → Prop) : TS := fun D σ H => te σ H fun x H1 => ∃ a dx fs v, x = .ref a ∧ H1 a = some (.ins C dx fs) ∧ fs.lookup f = some v ∧
  tv σ H1 fun y H2 => rd v y H2 fun z H3 => ∃ dx' fs', H3 a = some (.ins C dx' fs') ∧ fs'.length < 1000 ∧ D.nx σ (upd H3 a (.ins C dx' (putF f z fs')))
/-- x.append(e) -/
def eApp (te : TE) (ta : TA) : TE := fun σ H Q => te σ H fun x H1 => ∃ l, x = .ref l ∧ (∃ xs, H1 l = some (.lst xs)) ∧ ta σ H1 fun vs H2 => rAppend x vs H2 Q
section
variable {X : Cx} {C : Addr} {f : Str} {e ev o : Expr} {es : List Expr} {te tv : TE} {ta : TA} {pos pos' pos2 apos cpos : Pos}
theorem pe_mo (he : PE X e te) : PE X e (mo te) := ⟨fun pins s σ H Q I ⟨Q0, h, hq⟩ => thn (he.run pins s σ H Q0 I h) fun _ _ ⟨v, H', I', r, q⟩ => ⟨v, H', I', r, hq v H' q⟩⟩
theorem pa_mo (he : PA X es ta) : PA X es (moA ta) := ⟨fun pos pins s σ H Q I ⟨Q0, h, hq⟩ => thn (he.run pos pins s σ H Q0 I h) fun _ _ ⟨v, H', I', r, q⟩ => ⟨v, H', I', r, hq v H' q⟩⟩
theorem pe_fldC (c : Cls X.K C) (n : NoAttr X.K C f) (he : PE X e te) (hb : attributeBase e f X.env (eval e X.env) = eval e X.env := by rfl) : PE X (.Attribute e f pos) (eFld C f te) :=
  pe_imp (pe_fld (pe_mo he) hb) fun σ H Q q => ⟨_, q, fun v H' ⟨a, dx, fs, w, e1, e2, l, q⟩ => ⟨a, C, dx, fs, w, e1, e2, c, n, l, q⟩⟩
theorem ps_setF (c : Cls X.K C) (n : NoAttr X.K C f) (ha : PE X o te) (hv : PE X ev tv) (hs : swapsWith ev (some (.Attribute o f pos')) pos.line X.env = pure false := by rfl) :
    PS X (.Assign [.Attribute o f pos'] ev pos) (sSetF C f te tv) :=
  ps_imp (ps_fld (pe_mo ha) (pe_mo hv) hs) fun D σ H q => ⟨_, q, fun y H1 q1 => ⟨_, q1, fun x H2 ⟨a, dx, fs, e1, e2, l, q2⟩ => ⟨a, C, dx, fs, e1, e2, c, n, l, q2⟩⟩⟩
theorem pe_propC {CX : CXT} {k : Nat} {p g : Addr} {fd : FuncData} {ps : List Str} {sp : Sp} (he : PE X e te) (c : Cls X.K C) (hp : PropOf X.K C f p g) (F : FnOk X.prog X.w X.K X.mg X.base CX k g fd ps sp) (hr : Room (k + 1) X.A) (hb : Binds X.K fd ps []) (hx : Passes CX X.nox E0)
    (hab : attributeBase e f X.env (eval e X.env) = eval e X.env := by rfl) : PE X (.Attribute e f pos) (eProp C sp te) := pe_imp (pe_prop he c hp F hr hb .nil hx hab) fun _ _ _ q => q
theorem ps_augF {op : Operator} {rd : V → V → Hp → VK → Prop} (c : Cls X.K C) (n : NoAttr X.K C f) (ha : PE X o te) (hv : PE X ev tv) (hop : InOp X op rd) : PS X (.AugAssign (.Attribute o f pos') op ev pos) (sAugF C f te tv rd) :=
  ps_imp (ps_fldaug (pe_mo ha) (pe_mo hv) hop) fun D σ H q => ⟨_, q, fun x H1 ⟨a, dx, fs, v, e1, e2, l, q2⟩ => ⟨a, C, dx, fs, v, e1, e2, c, n, l, ⟨_, q2, fun y H2 q3 => q3⟩⟩⟩
theorem pe_app (ho : PE X o te) (ha : PA X (e :: es) ta)
    (hbase : attributeBase o "append" X.env (eval o X.env) = eval o X.env := by rfl)
    (hfew : ((backTo cpos (starEach (e :: es) X.env)).all (fun x => !x.1) && (backToKw cpos (keywordEach [] X.env)).all (fun x => x.1.isSome)
      && decide ((e :: es).length + ([] : List Keyword).length + (if ([] : List Keyword).isEmpty then 0 else 1) < 30)) = true := by rfl)
    (hline : (apos.endLine == cpos.line) = true := by rfl) (hs : starEach (e :: es) X.env = (false, eval e X.env) :: starEach es X.env := by rfl) (hplain : (backTo cpos (starEach es X.env)).any (·.1) = false := by rfl) :
    PE X (.Call (.Attribute o "append" apos) (e :: es) [] cpos) (eApp te ta) :=
  pe_imp (pe_bm PySem.F.plainAttrs_list PySem.F.slot_list_append PySem.F.type_list_append mt_append (pe_mo ho) ha hbase hfew hline hs hplain) fun σ H Q q =>
    ⟨_, q, fun x H1 ⟨l, e1, ⟨xs, hl⟩, q1⟩ => by subst e1; exact ⟨.inl ⟨rfl, _, .inl (.inl hl)⟩, q1⟩⟩
end

/-! ### for, over a list or a tuple; over a range -/
/-- what is walked stays as it is -/
def Stays (S : Sta) (a : Addr) (xs : List V) (R : Nat → Hp → Prop) : Prop := (∀ i H, i ≤ xs.length → R i H → RdS S H a (.lst xs)) ∨ (∀ i H, i ≤ xs.length → R i H → RdS S H a (.tup xs))
def iSeq (K : PySem.W.Frag) (te : TE) : TI := fun σ H R => te σ H fun x H1 => ∃ a, x = .ref a ∧ (((∃ xs, SqL K H1 a xs) ∧ R (Itl K a) H1) ∨ ((∃ xs, SqT K H1 a xs) ∧ R (Itt K a) H1))
def sFor (S : Sta) (te : TE) (g : TG) (tb : TS) : TS := fun D σ H => te σ H fun x H1 => ∃ a xs, x = .ref a ∧ ∃ Pv : Nat → L2.St → Hp → Prop, Pv 0 σ H1 ∧ Stays S a xs (fun i H => ∃ σ, Pv i σ H) ∧
  (∀ i y σ H, xs[i]? = some y → Pv i σ H → g y σ H fun σ' H' => tb ⟨Pv (i + 1), D.rt, D.nx, Pv (i + 1)⟩ σ' H') ∧ ∀ σ H, Pv xs.length σ H → D.nx σ H
def sForR (lo : Option TE) (hi : TE) (g : TG) (tb : TS) : TS := fun D σ H =>
  let body : Int → Int → L2.St → Hp → Prop := fun lo hi σ1 H1 => (-(2 ^ 62) ≤ lo ∧ lo < 2 ^ 62 ∧ -(2 ^ 62) ≤ hi ∧ hi < 2 ^ 62) ∧ ∃ Pv : Nat → L2.St → Hp → Prop, Pv 0 σ1 H1 ∧
    (∀ (i : Nat) σ H, lo + i < hi → Pv i σ H → g (.int (lo + i)) σ H fun σ' H' => tb ⟨Pv (i + 1), D.rt, D.nx, Pv (i + 1)⟩ σ' H') ∧ ∀ σ H, Pv (hi - lo).toNat σ H → D.nx σ H
  match lo with
  | none => hi σ H fun y H1 => ∃ j, y = .int j ∧ body 0 j σ H1
  | some lo => lo σ H fun x H1 => hi σ H1 fun y H2 => ∃ i j, x = .int i ∧ y = .int j ∧ body i j σ H2
section
variable {X : Cx} {tg l a b : Expr} {te ta tb' : TE} {g : TG} {tb : TS} {body : List Stmt} {pos p : Pos}
theorem pi_seq (hl : PE X l te) : PI X tg l (iSeq X.K te) := by
  refine ⟨fun pins s σ H R I h => ?_⟩
  refine thn (hl.run pins s σ H _ I h) fun v s1 ⟨x, H1, I1, r1, q1⟩ => ?_
  obtain ⟨a, e, q⟩ := q1
  subst e
  cases r1
  have fp : ∀ b ∈ [s1.heap.objs.size], ∀ {s2 : Shared} , Inv X pins σ H1 s2 → s2.heap.objs.size = s1.heap.objs.size → FpOk X pins H1 b := fun b hb s2 I2 hs => by
    have e : b = s1.heap.objs.size := by simpa using hb
    subst e
    exact I1.fpOk (Nat.le_refl _) (I1.hok.fresh (Nat.le_refl _))
  rcases q with ⟨⟨xs, hq⟩, q⟩ | ⟨⟨xs, hq⟩, q⟩
  · obtain ⟨its, rv, p, hz⟩ := I1.list hq
    refine wpAny_pyIter_list p.isList ?_
    refine ⟨s1.heap.objs.size, [s1.heap.objs.size], _, _, H1, rfl, I1.kept (t' := s1.toks) fun b o e => Heap.get?_push_of_some _ e, turn_list a _, ⟨_, Heap.get?_push_size _ rfl, rfl, rfl⟩, fun b hb => fp b hb I1 rfl, q⟩
  · obtain ⟨its, rv, p, hz⟩ := I1.tuple hq
    refine wpAny_pyIter_tuple (show s1.heap.IsTuple a its.toArray from p) ?_
    refine ⟨s1.heap.objs.size, [s1.heap.objs.size], _, _, H1, rfl, I1.kept (t' := s1.toks) fun b o e => Heap.get?_push_of_some _ e, turn_tuple a _, ⟨_, Heap.get?_push_size _ rfl, rfl, rfl⟩, fun b hb => fp b hb I1 rfl, q⟩
theorem ps_forSeq {S : Sta} (st : S = SK X.K) (hp : PassesOwn (model X.prog X.w) X.A X.env X.xe) (hc : X.calm = true) (hl : PE X l te) (hg : PG X tg g) (hb : PSs X body tb) (hs : ∀ x, foldedSetIterable l X.env x = pure x := by intro _; rfl) :
    PS X (.For tg l body [] pos) (sFor S te g tb) :=
  ps_imp (ps_for hp hc (pi_seq (pe_mo hl)) hg hb hs) fun D σ H q => ⟨_, q, fun x H1 ⟨a, xs, e, Pv, h0, hst, ht, hd⟩ => by
    refine ⟨a, e, ?_⟩
    rcases hst with z | z
    · exact .inl ⟨⟨xs, sqL st (z 0 H1 (Nat.zero_le _) ⟨σ, h0⟩)⟩, for_list (K := X.K) (a := a) (xs := xs) Pv h0 (fun i σ H hi p => sqL st (z i H hi ⟨σ, p⟩)) ht hd⟩
    · exact .inr ⟨⟨xs, sqT st (z 0 H1 (Nat.zero_le _) ⟨σ, h0⟩)⟩, for_tup (K := X.K) (a := a) (xs := xs) Pv h0 (fun i σ H hi p => sqT st (z i H hi ⟨σ, p⟩)) ht hd⟩⟩
theorem ps_forR1 (hp : PassesOwn (model X.prog X.w) X.A X.env X.xe) (hc : X.calm = true) (hgl : Gl X "range") (hm : X.mg "range" = none) (ha : PE X a ta) (hg : PG X tg g) (hb : PSs X body tb) (hs : starEach [a] X.env = (false, eval a X.env) :: starEach [] X.env := by rfl)
    (hs' : ∀ x, foldedSetIterable (.Call (.Name "range" p) [a] [] pos2) X.env x = pure x := by intro _; rfl) :
    PS X (.For tg (.Call (.Name "range" p) [a] [] pos2) body [] pos) (sForR none ta g tb) :=
  ps_imp (ps_for hp hc (pi_range1 hgl hm (pa_cons (pe_mo ha) pa_nil hs) hs) hg hb hs') fun D σ H q => ⟨_, q, fun y H1 ⟨j, e, ⟨_, _, h1, h2⟩, Pv, h0, ht, hd⟩ => by
    subst e
    refine ⟨j, rfl, h1, h2, for_range (lo := 0) (n := j.toNat) Pv h0 (fun i σ H hi p => ht i σ H (by omega) p) fun σ H p => hd σ H (by rw [Int.sub_zero]; exact p)⟩⟩
theorem ps_forR2 (hp : PassesOwn (model X.prog X.w) X.A X.env X.xe) (hc : X.calm = true) (hgl : Gl X "range") (hm : X.mg "range" = none) (ha : PE X a ta) (hb' : PE X b tb') (hg : PG X tg g) (hb : PSs X body tb) (hs : starEach [a, b] X.env = (false, eval a X.env) :: starEach [b] X.env := by rfl) (hs2 : starEach [b] X.env = (false, eval b X.env) :: starEach [] X.env := by rfl)
    (hs' : ∀ x, foldedSetIterable (.Call (.Name "range" p) [a, b] [] pos2) X.env x = pure x := by intro _; rfl) :
    PS X (.For tg (.Call (.Name "range" p) [a, b] [] pos2) body [] pos) (sForR (some ta) tb' g tb) :=
  ps_imp (ps_for hp hc (pi_range2 hgl hm (pa_cons (pe_mo ha) (pa_cons (pe_mo hb') pa_nil hs2) hs) (hs.trans (by rw [hs2]; rfl)) hs2) hg hb hs') fun D σ H q => ⟨_, q, fun x H1 q1 => ⟨_, q1, fun y H2 ⟨i, j, e, e', ⟨h1, h2, h3, h4⟩, Pv, h0, ht, hd⟩ => by
    subst e e'
    exact ⟨i, j, rfl, ⟨h1, h2, h3, h4⟩, for_range (lo := i) (n := (j - i).toNat) Pv h0 (fun k σ H hi p => ht k σ H (by omega) p) hd⟩⟩⟩
end

/-! ### list comprehensions -/
def eLc (S : Sta) (te : TE) (g : TG) (tt : TT) (tel : TE) (vs : List Nat) : TE := fun σ H Q => te σ H fun x H1 => ∃ a xs, x = .ref a ∧ ∃ k : Bool, RdS S H1 a (if k then .lst xs else .tup xs) ∧ ∀ D, H1 D = none → ∃ Pv : Nat → Hp → Prop, Pv 0 (upd H1 D (.lst [])) ∧ (∀ i H, i ≤ xs.length → Pv i H → RdS S H a (if k then .lst xs else .tup xs)) ∧
  (∀ i y H, xs[i]? = some y → Pv i H → g y (wipe σ vs) H fun σ2 H2 => wipe σ2 vs = wipe σ vs ∧ tt σ2 H2 fun b H3 => if b = true then tel σ2 H3 fun z H4 => ∃ acc, H4 D = some (.lst acc) ∧ acc.length < sizeLine ∧ Pv (i + 1) (upd H4 D (.lst (acc ++ [z]))) else Pv (i + 1) H3) ∧
  ∀ H, Pv xs.length H → Q (.ref D) H
def eLcR (lo : Option TE) (hi : TE) (g : TG) (tt : TT) (tel : TE) (vs : List Nat) : TE := fun σ H Q =>
  let body : Int → Int → Hp → Prop := fun lo hi H1 => (-(2 ^ 62) ≤ lo ∧ lo < 2 ^ 62 ∧ -(2 ^ 62) ≤ hi ∧ hi < 2 ^ 62) ∧ ∀ D, H1 D = none → ∃ Pv : Nat → Hp → Prop, Pv 0 (upd H1 D (.lst [])) ∧
    (∀ (i : Nat) H, lo + i < hi → Pv i H → g (.int (lo + i)) (wipe σ vs) H fun σ2 H2 => wipe σ2 vs = wipe σ vs ∧ tt σ2 H2 fun b H3 => if b = true then tel σ2 H3 fun z H4 => ∃ acc, H4 D = some (.lst acc) ∧ acc.length < sizeLine ∧ Pv (i + 1) (upd H4 D (.lst (acc ++ [z]))) else Pv (i + 1) H3) ∧
    ∀ H, Pv (hi - lo).toNat H → Q (.ref D) H
  match lo with
  | none => hi σ H fun y H1 => ∃ j, y = .int j ∧ body 0 j H1
  | some lo => lo σ H fun x H1 => hi σ H1 fun y H2 => ∃ i j, x = .int i ∧ y = .int j ∧ body i j H2
section
variable {X : Cx} {tg l a b elt : Expr} {ifs : List Expr} {te ta tb' tel : TE} {tt : TT} {g : TG} {scope : Scope} {own : List (Str × Nat)} {pos p pos2 spos py : Pos}
/-- what a block of a comprehension asks -/
structure Blk (X : Cx) (scope : Scope) (tg elt : Expr) (ifs : List Expr) (g : TG) (tt : TT) (tel : TE) : Prop where
  hg : ∀ (s : Shared) (H : Hp) (C : Addr) (cl : List (Str × Addr)) (fp : List Addr), PG (X.blk s H scope (compEnvC scope cl C X.env) fp) tg g
  ht : ∀ (s : Shared) (H : Hp) (C : Addr) (cl : List (Str × Addr)) (fp : List Addr), PTs (X.blk s H scope (compEnvC scope cl C X.env) fp) ifs tt
  he : ∀ (s : Shared) (H : Hp) (C : Addr) (cl : List (Str × Addr)) (fp : List Addr), PE (X.blk s H scope (compEnvC scope cl C X.env) fp) elt tel
theorem lc_of {K : PySem.W.Frag} {S : Sta} (st : S = SK K) {vs : List Nat} {σ : L2.St} {H : Hp} {Q : VK} (q : eLc S te g tt tel vs σ H Q) : tLc (iSeq K (mo te)) g tt tel vs σ H Q := ⟨_, q, fun x H1 ⟨a, xs, e, k, rd, q⟩ => by
    refine ⟨a, e, ?_⟩
    cases k with
    | true =>
      refine .inl ⟨⟨xs, sqL st rd⟩, fun D hD => ?_⟩
      obtain ⟨Pv, h0, z, ht, hd⟩ := q D hD
      exact lc_list (K := K) (a := a) (xs := xs) Pv h0 (fun i H hi p => sqL st (z i H hi p)) ht hd
    | false =>
      refine .inr ⟨⟨xs, sqT st rd⟩, fun D hD => ?_⟩
      obtain ⟨Pv, h0, z, ht, hd⟩ := q D hD
      exact lc_tup (K := K) (a := a) (xs := xs) Pv h0 (fun i H hi p => sqT st (z i H hi p)) ht hd⟩
theorem pe_lcSeq {S : Sta} (st : S = SK X.K) (hc : X.calm = true) (hN : X.N.Nodup) (hl : PE X l te) (ok : BlkOk X.N X.env.scope scope own) (B : Blk X scope tg elt ifs g tt tel) (hs : ∀ x, foldedSetIterable l X.env x = pure x := by intro _; rfl) :
    PE X (.ListComp elt [⟨tg, l, ifs, 0⟩] scope pos) (eLc S te g tt tel (own.map (·.2))) := pe_imp (pe_lc hc hN (pi_seq (pe_mo hl)) ok B.hg B.ht B.he hs) fun _ _ _ q => lc_of st q
theorem ps_lcSeq {S : Sta} {i : Nat} {y : Str} (st : S = SK X.K) (hc : X.calm = true) (hN : X.N.Nodup) (hy : X.N[i]? = some y) (hyl : X.env.scope.names.lookup y = some .local)
    (hsw : swapsWith (.ListComp elt [⟨tg, l, ifs, 0⟩] scope pos) (some (.Name y py)) spos.line X.env = pure true) (hl : PE X l te) (ok : BlkOk X.N X.env.scope scope own) (B : Blk X scope tg elt ifs g tt tel) (hs : ∀ x, foldedSetIterable l X.env x = pure x := by intro _; rfl) :
    PS X (.Assign [.Name y py] (.ListComp elt [⟨tg, l, ifs, 0⟩] scope pos) spos) (tAsg (eLc S te g tt tel (own.map (·.2))) (gName i)) :=
  ps_imp (ps_setLc hc hN hy hyl hsw (pi_seq (pe_mo hl)) ok B.hg B.ht B.he hs) fun _ _ _ q => lc_of st q
theorem lcR1_of {vs : List Nat} {σ : L2.St} {H : Hp} {Q : VK} (q : eLcR none ta g tt tel vs σ H Q) : tLc (iRng1 (tCons (mo ta) tNil)) g tt tel vs σ H Q := ⟨_, q, fun y H1 ⟨j, e, ⟨_, _, h1, h2⟩, q⟩ => by
    subst e
    refine ⟨j, rfl, h1, h2, fun D hD => ?_⟩
    obtain ⟨Pv, h0, ht, hd⟩ := q D hD
    exact lc_range (lo := 0) (n := j.toNat) Pv h0 (fun i H hi p => ht i H (by omega) p) fun H p => hd H (by rw [Int.sub_zero]; exact p)⟩
theorem pe_lcR1 (hc : X.calm = true) (hN : X.N.Nodup) (hgl : Gl X "range") (hm : X.mg "range" = none) (ha : PE X a ta) (ok : BlkOk X.N X.env.scope scope own) (B : Blk X scope tg elt ifs g tt tel) (hs : starEach [a] X.env = (false, eval a X.env) :: starEach [] X.env := by rfl)
    (hs' : ∀ x, foldedSetIterable (.Call (.Name "range" p) [a] [] pos2) X.env x = pure x := by intro _; rfl) :
    PE X (.ListComp elt [⟨tg, .Call (.Name "range" p) [a] [] pos2, ifs, 0⟩] scope pos) (eLcR none ta g tt tel (own.map (·.2))) := pe_imp (pe_lc hc hN (pi_range1 hgl hm (pa_cons (pe_mo ha) pa_nil hs) hs) ok B.hg B.ht B.he hs') fun _ _ _ q => lcR1_of q
theorem ps_lcR1 {i : Nat} {y : Str} (hc : X.calm = true) (hN : X.N.Nodup) (hy : X.N[i]? = some y) (hyl : X.env.scope.names.lookup y = some .local) (hgl : Gl X "range") (hm : X.mg "range" = none)
    (hsw : swapsWith (.ListComp elt [⟨tg, .Call (.Name "range" p) [a] [] pos2, ifs, 0⟩] scope pos) (some (.Name y py)) spos.line X.env = pure true) (ha : PE X a ta) (ok : BlkOk X.N X.env.scope scope own) (B : Blk X scope tg elt ifs g tt tel)
    (hs : starEach [a] X.env = (false, eval a X.env) :: starEach [] X.env := by rfl) (hs' : ∀ x, foldedSetIterable (.Call (.Name "range" p) [a] [] pos2) X.env x = pure x := by intro _; rfl) :
    PS X (.Assign [.Name y py] (.ListComp elt [⟨tg, .Call (.Name "range" p) [a] [] pos2, ifs, 0⟩] scope pos) spos) (tAsg (eLcR none ta g tt tel (own.map (·.2))) (gName i)) :=
  ps_imp (ps_setLc hc hN hy hyl hsw (pi_range1 hgl hm (pa_cons (pe_mo ha) pa_nil hs) hs) ok B.hg B.ht B.he hs') fun _ _ _ q => lcR1_of q
end

/-! ### in, by an own __contains__ -/
section
open PySem.W
variable {prog : Program} {w : World} {A : Around} {E : Value → Shared → Prop} {s : Shared} {K : Frag} {x C f : Addr} {ox : Obj} {od : Option Obj}
theorem unlessNone_K {M : Model} {name : Str} {args : List Value} {refuse : Sem Value} {Q : Option Value → Shared → Prop} (X : K.In s.heap) (I : InstAt s.heap x ox C od) (hs : findIn K (.ref C) name = some (some (.ref f))) (hf : isFn K (.ref f) = true)
    (h : wpAny M A (call (.ref f) (.ref x :: args)) (fun v => Q (some v)) E s) : wpAny M A (callSpecialUnlessNone? (.ref x) name args refuse) Q E s := by
  simp only [callSpecialUnlessNone?]
  refine wpAny_bind (wpAny_bind (I.type.here ((looks_findIn X hs).here ?_)))
  refine wpAny_holding (wpAny_bind ((bind_fn X _ (beq_iff_eq.mp hf)).here ?_))
  show wpAny _ _ (if (Value.ref f == Value.none) = true then _ else _) _ _ _
  rw [if_neg (by simp)]
  exact wpAny_bind (wpAny_mono h (fun v s' h' => wpAny_pure h') fun _ _ h' => h')
theorem contains_K {v : Value} {Q : Bool → Shared → Prop} (X : K.In s.heap) (I : InstAt s.heap x ox C od) (hs : findIn K (.ref C) "__contains__" = some (some (.ref f))) (hf : isFn K (.ref f) = true)
    (h : wpAny (model prog w) A (call (.ref f) [.ref x, v]) (PySem.W.BoolBack Q) E s) : wpAny (model prog w) A (contains (.ref x) v) Q E s := by
  unfold contains
  refine wpAny_holding ?_
  show wpAny _ _ (specialOf (.ref x) (Str.ofString "__contains__") >>= _) _ _ _
  refine wpAny_bind (wpAny_bind (I.type.here ((looks_findIn X hs).here ?_)))
  show wpAny _ _ (if (some (Value.ref f) == some Value.none) = true then _ else _) _ _ _
  rw [if_neg (by simp)]
  refine wpAny_bind (unlessNone_K X I hs hf (wpAny_mono h (fun r s' hr => ?_) fun _ _ y => y))
  cases r <;> first | exact hr.elim | skip
  exact wpAny_truthy_bool hr
end
section
variable {X : Cx} {CX : CXT} {C f : Addr} {fd : FuncData} {ps : List Str} {sp : Sp} {E : XK} {k : Nat}
/-- y in x, x an instance of the class at C, by its __contains__ -/
def rInOwn (C : Addr) (neg : Bool) (sp : Sp) (E : XK) : R2 := fun y x H Q => ∃ a dx fs, x = .ref a ∧ H a = some (.ins C dx fs) ∧ sp [x, y] H (fun v H' => ∃ b, v = .bl b ∧ Q (.bl (if neg then !b else b)) H') E
theorem in_own {pins : List (Addr × Obj)} {σ : L2.St} {H : Hp} {s : Shared} {a dx : Addr} {fs : List (Str × V)} {y : V} {u : Value} {Q : Bool → Hp → Prop} (F : FnOk X.prog X.w X.K X.mg X.base CX k f fd ps sp) (hm : Meth X.K C "__contains__" f) (hr : Room k X.A) (hb : Binds X.K fd ps []) (hx : Passes CX X E)
    (I : Inv X pins σ H s) (ry : RelV y u) (ha : H a = some (.ins C dx fs)) (h : sp [.ref a, y] H (fun v H' => ∃ b, v = .bl b ∧ Q b H') E) :
    wpAny (model X.prog X.w) X.A (contains (.ref a) u) (TP X pins σ Q) X.xe s := by
  obtain ⟨mA, J, _⟩ := ins_get I.hok ha
  obtain ⟨od, J, _⟩ := J.look
  refine contains_K I.kIn J hm.at_ hm.fn (thn (run_fn (us := [.ref a, u]) (vs := [.ref a, y]) (dvs := []) (ds := []) F hr hb .nil hx I (.cons rfl (.cons ry .nil)) h) fun v s' q => ?_)
  obtain ⟨z, H', I', rz, b, ez, q⟩ := q
  subst ez
  cases rz
  exact ⟨H', I', q⟩
theorem o_inOwn (F : FnOk X.prog X.w X.K X.mg X.base CX k f fd ps sp) (hm : Meth X.K C "__contains__" f) (hr : Room k X.A) (hb : Binds X.K fd ps []) (hx : Passes CX X E) : OpR X (compareOp .In) (rInOwn C false sp E) := fun pins s σ H y x u v Q I ry rx h => by
  obtain ⟨a, dx, fs, e, ha, q⟩ := h
  subst e
  cases rx
  show wpAny _ _ (contains (.ref a) u >>= fun b => pure (Value.bool b)) _ _ _
  refine wpAny_bind (thn (in_own F hm hr hb hx I ry ha (Q := fun b H' => Q (.bl b) H') q) fun b s' hq => ?_)
  obtain ⟨H', I', q⟩ := hq
  exact wpAny_pure ⟨.bl b, H', I', rfl, q⟩
theorem o_notInOwn (F : FnOk X.prog X.w X.K X.mg X.base CX k f fd ps sp) (hm : Meth X.K C "__contains__" f) (hr : Room k X.A) (hb : Binds X.K fd ps []) (hx : Passes CX X E) : OpR X (compareOp .NotIn) (rInOwn C true sp E) := fun pins s σ H y x u v Q I ry rx h => by
  obtain ⟨a, dx, fs, e, ha, q⟩ := h
  subst e
  cases rx
  show wpAny _ _ (contains (.ref a) u >>= fun b => pure (Value.bool (!b))) _ _ _
  refine wpAny_bind (thn (in_own F hm hr hb hx I ry ha (Q := fun b H' => Q (.bl (!b)) H') q) fun b s' hq => ?_)
  obtain ⟨H', I', q⟩ := hq
  exact wpAny_pure ⟨.bl (!b), H', I', rfl, q⟩
end

/-! ### classes: constants, classmethods, a class held in a name -/
def eCon (v : V) : TE := fun _ H Q => Q v H
/-- the argument's heap, then a new instance and __init__ (tMake), the class in slot i -/
def eMakeL (i : Nat) (C : Addr) (sp : Sp) (dvs : List V) (E : XK) (t : TA) : TE := fun σ H Q => σ[i]? = some (some (.ref C)) ∧ tMake C sp dvs E t σ H Q
section
variable {X : Cx} {CX : CXT} {C f p g : Addr} {mc u : Value} {fd : FuncData} {ps : List Str} {sp : Sp} {E : XK} {k i : Nat} {x y m : Str} {v : V} {pos pos2 p2 apos : Pos} {e : Expr} {es : List Expr} {t : TA} {dvs : List V} {ds : List Value}
theorem pe_clsName (hg : Gl X x) (hm : X.mg x = some (.ref C)) (hdb : (x == ("__debug__" : Str)) = false := by decide) : PE X (.Name x p2) (eCon (.ref C)) := pe_imp (pe_glob hg hm (v := .ref C) rfl hdb) fun _ _ _ q => q
theorem pe_clsCon (r : ClX.CRead X.K C mc) (c : ClX.CVal X.K C mc y v u) (hg : Gl X x) (hm : X.mg x = some (.ref C)) (hdb : (x == ("__debug__" : Str)) = false := by decide)
    (hb : attributeBase (.Name x p2) y X.env (eval (.Name x p2) X.env) = eval (.Name x p2) X.env := by rfl) : PE X (.Attribute (.Name x p2) y pos) (eCon v) :=
  pe_imp (ClX.pe_cval (pe_clsName hg hm hdb) hb) fun _ _ _ q => ⟨C, mc, v, u, rfl, r, c, q⟩
theorem pe_makeL (M : Mk X.K C f) (F : FnOk X.prog X.w X.K X.mg X.base CX k f fd ps sp) (hr : Room (k + 1) X.A) (hN : X.N[i]? = some x) (hv : Vis X.env.scope x) (hb : Binds X.K fd ps ds) (hd : Vals dvs ds) (hx : Passes CX X E)
    (ha : PA X (e :: es) t) (hdb : (x == ("__debug__" : Str)) = false := by decide) (hcd : (x == ("__classdict__" : Str)) = false := by decide) (he : starEach (e :: es) X.env = (false, eval e X.env) :: starEach es X.env := by rfl) (hpl : (backTo pos (starEach es X.env)).any (·.1) = false := by rfl) :
    PE X (.Call (.Name x p2) (e :: es) [] pos) (eMakeL i C sp dvs E t) := by
  refine ⟨fun pins s σ H Q I h => ?_⟩
  obtain ⟨hs, ht⟩ := h
  refine wpAny_Call_Name_kw (thn ((pe_var (pos := p2) hN hv hdb hcd).run pins s σ H (fun v H1 => v = .ref C ∧ H1 = H) I ⟨.ref C, hs, rfl, rfl⟩) fun u s1 ⟨v, H1, I1, r1, q1⟩ => ?_)
  obtain ⟨rfl, rfl⟩ := q1
  cases r1
  refine PySem.W.callWith_K (h₀ := X.base) I.ok.mod.kin M.kp (thn (ha.run pos pins s1 σ _ _ I1 ht) fun us s2 ⟨vs, H2, I2, r, q⟩ => ⟨I2.kIn, ?_⟩) he hpl
  exact run_make M F hr hb hd hx I2 r q
end

/-- a module's constant -/
theorem pe_constI {X : Cx} {x : Str} {i : Int} {t : Tok} {p2 : Pos} (hm : X.mg x = some (.int i t)) (hg : Gl X x) (hdb : (x == ("__debug__" : Str)) = false := by decide) : PE X (.Name x p2) (tC (.int i)) := pe_imp (pe_glob hg hm (v := .int i) ⟨t, rfl⟩ hdb) fun _ _ _ q => q
def rAug : TIp := ipI fun i j => i + j
def rAugS : TIp := ipI fun i j => i - j
theorem ip_addI {X : Cx} : PIp X .Add rAug := ip_add
def rInAdd : V → V → Hp → VK → Prop := fun x y H Q => ∃ i j, x = .int i ∧ y = .int j ∧ Q (.int (i + j)) H
def rInSub : V → V → Hp → VK → Prop := fun x y H Q => ∃ i j, x = .int i ∧ y = .int j ∧ Q (.int (i - j)) H
theorem in_addI {X : Cx} : InOp X .Add rInAdd := in_add
theorem in_subI {X : Cx} : InOp X .Sub rInSub := in_sub
theorem ip_subI {X : Cx} : PIp X .Sub rAugS := ip_sub
def spRaw (sp : Sp) : Sp := fun vs H Q E => sp (vs ++ []) H Q E
/-! ### a def's promise, by its own body -/
def start (n : Nat) (vs : List V) : L2.St := vs.map some ++ List.replicate (n - vs.length) none
/-- n slots, m parameters -/
def spB (n m : Nat) (t : XK → TS) : Sp := fun vs H Q E => vs.length = m ∧ t E { nx := fun _ H' => Q .non H', rt := Q } (start n vs) H
theorem start_eq (N : List Str) (vs : List V) : L2.start N vs = start N.length vs := rfl
theorem passE {P : Program} {w : World} {K : PySem.W.Frag} {mg : Str → Option Value} {base : Heap} {N : List Str} {qual : Str} {scope : Scope} {f : Addr} {cd : Value} {A : Around} {outer : List Env} {s : Shared} {H : Hp} {E : XK} :
    Passes (L2.CX P w) (cxOf (L2.CX P w) P w K mg base N qual scope f cd A outer s H E) E := passes_call (takes_of rfl rfl rfl rfl) fun _ _ _ _ h => h
/-- where nothing is let out -/
theorem passN {X : Cx} : Passes (L2.CX X.prog X.w) X E0 := fun _ _ _ _ _ _ _ h => by
  obtain ⟨_, _, _, _, _, _, _, _, _, _, _, _, z⟩ := h
  exact z.elim
theorem ok_body {P : Program} {w : World} {K : PySem.W.Frag} {mg : Str → Option Value} {base : Heap} {x qual : Str} {st : Stmt} {f : Addr} {fd : FuncData} {N ps : List Str} {n m k : Nat} {t : XK → TS} (F : Fun K x qual st f fd) (S : FnScope N ps (defScope st)) (hn : N.length = n) (hm : ps.length = m)
    (h : ∀ (cdv : Value) (A : Around) (outer : List Env) (s : Shared) (H : Hp) (E : XK), Room k (A.deeper (envOfC qual (defScope st) s.heap.objs.size f cdv)) → PSs (cxOf (L2.CX P w) P w K mg base N qual (defScope st) f cdv A outer s H E) (defBody st) (t E)) :
    FnOk P w K mg base (L2.CX P w) (k + 1) f fd ps (spB n m t) := by
  subst hn
  subst hm
  exact F.okX S (fun vs H Q E q => q.1) fun cdv A outer s H vs Q E hr q => ⟨t E, h cdv A outer s H E hr, q.2⟩
/-! ### chains of comparisons, as tests -/
abbrev TC := L2.St → V → Hp → VK → Prop
def cLast (r : R2) (tb : TE) : TC := fun σ x H Q => tb σ H fun y H1 => r x y H1 Q
def cLink (r : R2) (tb : TE) (tl : TC) : TC := fun σ x H Q => tb σ H fun y H1 => r x y H1 fun z H2 => ∃ k, z = .bl k ∧ (if k = true then tl σ y H2 Q else Q (.bl false) H2)
def tChn (ta : TE) (tl : TC) : TE := fun σ H Q => ta σ H fun x H1 => tl σ x H1 Q
structure PCh (X : Cx) (ops : List CmpOp) (es : List Expr) (tl : TC) : Prop where
  run : ∀ (pos : Pos) (pins : List (Addr × Obj)) (s : Shared) (σ : L2.St) (H : Hp) (x : V) (v : Value) (Q : Bool → Hp → Prop), Inv X pins σ H s → RelV x v → tl σ x H (fun z H' => ∃ k, z = .bl k ∧ Q k H') → wpAny (model X.prog X.w) X.A (testChain pos v ops (evalEach es X.env)) (TP X pins σ Q) X.xe s
section
variable {X : Cx} {a b e e' : Expr} {es : List Expr} {ta tb : TE} {tl : TC} {r : R2} {op op' : CmpOp} {ops : List CmpOp} {pos : Pos}
theorem pch_last (ho : OpR X (compareOp op) r) (hb : PE X b tb) : PCh X [op] [b] (cLast r tb) :=
  ⟨fun pos pins s σ H x v Q I rx q => test_last (thn (hb.run pins s σ H _ I q) fun u s1 ⟨y, H1, I1, r1, q1⟩ => thn (ho pins s1 σ H1 x y v u _ I1 rx r1 q1) fun d s2 ⟨z, H2, I2, r2, k, e, q2⟩ => by
    subst e
    cases r2
    exact wpAny_truthy_bool ⟨H2, I2, q2⟩)⟩
theorem pch_link (ho : OpR X (compareOp op) r) (hb : PE X b tb) (hl : PCh X (op' :: ops) (e :: es) tl) : PCh X (op :: op' :: ops) (b :: e :: es) (cLink r tb tl) :=
  ⟨fun pos pins s σ H x v Q I rx q => test_link (thn (hb.run pins s σ H _ I q) fun u s1 ⟨y, H1, I1, r1, q1⟩ => thn (ho pins s1 σ H1 x y v u _ I1 rx r1 q1) fun d s2 ⟨z, H2, I2, r2, k, e, q2⟩ => by
    subst e
    cases r2
    refine wpAny_truthy_bool ?_
    cases k with
    | false =>
      obtain ⟨k', e', q'⟩ := q2
      cases e'
      exact ite_ff ⟨H2, I2, q'⟩
    | true => exact ite_tt (hl.run pos pins s2 σ H2 y u Q I2 r1 q2))⟩
theorem pt_chn (ha : PE X a ta) (hl : PCh X (op :: op' :: ops) (e :: e' :: es) tl) (hm : lastMarks (op :: op' :: ops) (e :: e' :: es) = false := by with_unfolding_all rfl) : PT X (.Compare a (op :: op' :: ops) (e :: e' :: es) pos) (tTest (tChn ta tl)) :=
  ⟨fun pins s σ H Q I h => isTrue_chain (thn (ha.run pins s σ H _ I h) fun v s1 ⟨x, H1, I1, r1, q1⟩ => hl.run pos pins s1 σ H1 x v Q I1 r1 q1) hm⟩
/-! ### x.bit_length() -/
def rBits : V → Hp → VK → Prop := fun x H Q => ∃ i, x = .int i ∧ Q (.int (Builtin.Int.intBits i : Nat)) H
theorem pe_bitsU {o : Expr} {to : TE} {apos pos : Pos} (ho : PE X o to) (hbase : attributeBase o "bit_length" X.env (eval o X.env) = eval o X.env := by rfl) (hline : (apos.endLine == pos.line) = true := by rfl) : PE X (.Call (.Attribute o "bit_length" apos) [] [] pos) (tUn rBits to) := pe_bits ho hbase hline
end
end Y

/-! Errors: defs that say super(), own exceptions, try with several clauses. -/
namespace Y
open PySem PySem.Spec PyProof.Rows L2
open PySem.W (ksEnv ksFn)

/-! ### statements under a known activation -/
structure PSA (X : Cx) (c : Code) (st : Stmt) (t : TS) : Prop where
  run : ∀ (pins : List (Addr × Obj)) (s : Shared) (σ : L2.St) (H : Hp) (D : Ends), Inv X pins σ H s → t D σ H → _root_.PySem.wpAt (model X.prog X.w) X.A c (exec st X.env) (SP X pins D) X.xe s
structure PSsA (X : Cx) (c : Code) (st : List Stmt) (t : TS) : Prop where
  run : ∀ (pins : List (Addr × Obj)) (s : Shared) (σ : L2.St) (H : Hp) (D : Ends), Inv X pins σ H s → t D σ H → _root_.PySem.wpAt (model X.prog X.w) X.A c (execs st X.env) (SP X pins D) X.xe s
section
variable {X : Cx} {c : Code} {st : Stmt} {rest body orelse : List Stmt} {t u : TS} {tc : TT} {test : Expr} {pos : Pos}
theorem psa_of (h : PS X st t) : PSA X c st t := ⟨fun pins s σ H D I q => wpAt_of_wpAny (h.run pins s σ H D I q)⟩
theorem pssa_of (h : PSs X rest t) : PSsA X c rest t := ⟨fun pins s σ H D I q => wpAt_of_wpAny (h.run pins s σ H D I q)⟩
theorem pssa_cons (h : PSA X c st t) (r : PSsA X c rest u) : PSsA X c (st :: rest) (tSeq t u) := ⟨fun pins s σ H D I q => by
  refine ks_wpAt_execs_cons (ks_wpAt_mono (h.run pins s σ H { D with nx := u D } I q) (fun f s1 hs => ?_) fun _ _ z => z)
  cases f with
  | next =>
    obtain ⟨σ1, H1, I1, q1⟩ := hs
    exact r.run pins s1 σ1 H1 D I1 q1
  | ret v => exact hs
  | brk => exact hs
  | cont => exact hs⟩
theorem pssa_one (h : PSA X c st t) : PSsA X c [st] t := ⟨fun pins s σ H D I q => by
  refine ks_wpAt_execs_cons (ks_wpAt_mono (h.run pins s σ H D I q) (fun f s1 hs => ?_) fun _ _ z => z)
  cases f with
  | next =>
    obtain ⟨σ1, H1, I1, q1⟩ := hs
    exact wpAt_of_wpAny (wpAny_execs_nil ⟨σ1, H1, I1, q1⟩)
  | ret v => exact hs
  | brk => exact hs
  | cont => exact hs⟩
theorem psa_if (hc : PT X test tc) (ha : PSsA X c body t) (hb : PSsA X c orelse u) : PSA X c (.If test body orelse pos) (tIfS tc t u) := ⟨fun pins s σ H D I q => by
  refine ks_wpAt_If (wpAt_of_wpAny (thn (hc.run pins s σ H _ I q) fun b s1 ⟨H1, I1, q1⟩ => ?_))
  cases b with
  | true => exact ha.run pins s1 σ H1 D I1 q1
  | false => exact hb.run pins s1 σ H1 D I1 q1⟩
end

/-! ### a def that closes over __class__ -/
structure FnScS (N P : List Str) (sc : Scope) : Prop where
  kind : sc.kind = .function
  co : sc.isCoroutine = false
  gen : sc.isGenerator = false
  nd : N.Nodup
  pre : N.take P.length = P
  par : ∀ x ∈ P, sc.names.lookup x = some .local
  nocell : ∀ y ∈ sc.names, y.2 ≠ .cell
  free : ∀ y ∈ sc.names, y.2 = .free → y.1 = "__class__"
def cxS (P : Program) (w : World) (K : PySem.W.Frag) (mg : Str → Option Value) (base : Heap) (N : List Str) (qual : Str) (scope : Scope) (f : Addr) (cd : Value) (cc : Addr) (A : Around) (outer : List Env) (s : Shared) (H : Hp) (E : XK) : Cx where
  prog := P
  w := w
  K := K
  mg := mg
  base := base
  A := A.deeper (ksEnv qual scope s.heap.objs.size f cd cc)
  N := N
  s_0 := s
  H_0 := H
  env := ksEnv qual scope s.heap.objs.size f cd cc
  outer := outer
  stack := ksEnv qual scope s.heap.objs.size f cd cc :: outer
  ex := []
  calm := true
  fn := fun _ => false
  pn := []
  xe := fun e s' => wpAny (model P w) (A.deeper (ksEnv qual scope s.heap.objs.size f cd cc)) (leaving (ksEnv qual scope s.heap.objs.size f cd cc) e) (fun _ s'' => L2.CX P w outer H s E e s'') (fun e' s'' => L2.CX P w outer H s E e' s'') s'
theorem lookup_nd {l : List (Str × Value)} {x : Str} {v : Value} (nd : (l.map (·.1)).Nodup) (m : (x, v) ∈ l) : l.lookup x = some v := by
  induction l with
  | nil => cases m
  | cons p r ih =>
    obtain ⟨y, z⟩ := p
    rw [List.map_cons, List.nodup_cons] at nd
    rcases List.mem_cons.mp m with e | m
    · cases e
      simp [List.lookup]
    · have hne : x ≠ y := fun e => nd.1 (by rw [← e]; exact List.mem_map_of_mem (f := (·.1)) m)
      have hb : (x == y) = false := by simpa using hne
      show (match x == y with | true => some z | false => r.lookup x) = some v
      rw [hb]
      exact ih nd.2 m
theorem zip_get {P : List Str} {us : List Value} {i : Nat} {x : Str} {u : Value} (h1 : P[i]? = some x) (h2 : us[i]? = some u) : (x, u) ∈ P.zip us := by
  refine List.mem_of_getElem? (i := i) ?_
  rw [List.getElem?_zip_eq_some]
  exact ⟨h1, h2⟩
theorem zip_keys : ∀ {P : List Str} {us : List Value}, us.length = P.length → (P.zip us).map (·.1) = P
  | [], [], _ => rfl
  | p :: P, u :: us, h => by
    rw [List.zip_cons_cons, List.map_cons, zip_keys (by simpa using h)]
  | [], _ :: _, h => by simp at h
  | _ :: _, [], h => by simp at h
theorem inv_startS {P : Program} {w : World} {K : PySem.W.Frag} {mg : Str → Option Value} {base : Heap} {N ps : List Str} {qual : Str} {scope : Scope} {f cc D : Addr} {cd cl : Value} {cld : Option Addr} {csl : Array (Option Value)} {A : Around} {outer : List Env} {s : Shared} {h1 : Heap} {tk : Nat} {H : Hp} {E : XK} {us : List Value} {vs : List V}
    (S : FnScS N ps scope) (hcc : K.lookup cc = some ⟨cl, cld, .cell (some (.ref D)), csl⟩) (hd : A.handled = none) (e0 : Env0 P w K mg base A outer s H) (hl : vs.length = ps.length) (r : Vals vs us)
    (hns : h1.Ns s.heap.objs.size (fun x => (ps.zip us).reverse.lookup x)) (hk : ∀ b o, s.heap.get? b = some o → h1.get? b = some o) :
    Inv (cxS P w K mg base N qual scope f cd cc A outer s H E) [] (L2.start N vs) H { s with heap := h1, toks := tk } := by
  have hpl : ps.length ≤ N.length := by have := congrArg List.length S.pre; rw [List.length_take] at this; omega
  have noA : ∀ b : Addr, b ∉ (cxS P w K mg base N qual scope f cd cc A outer s H E).ex := fun b z => absurd (show b ∈ ([] : List Addr) from z) (by simp)
  have cells : ∀ (y : Str) (c : Addr), (cxS P w K mg base N qual scope f cd cc A outer s H E).env.cells.lookup y = some c → y = "__class__" ∧ c = cc := fun y c h => by
    have h : ([(("__class__" : Str), cc)] : List (Str × Addr)).lookup y = some c := h
    simp only [List.lookup] at h
    split at h
    · rename_i e
      exact ⟨by simpa using e, (Option.some.inj h).symm⟩
    · cases h
  have bcc := e0.mod.kin _ _ hcc
  have hus : us.length = ps.length := by rw [← r.length]; exact hl
  have ndP : ps.Nodup := by rw [← S.pre]; exact S.nd.sublist (List.take_sublist _ _)
  refine ⟨⟨e0.mod, S.kind, rfl, rfl, Nat.le_refl _, fun y z c h1 h2 => (cells y c h1).1.trans (cells z c h2).1.symm, fun y hy => ?_, fun y c z _ => absurd (show false = true from z) (by simp), fun _ => hd, Around.frames_deeper e0.frames, .inr ⟨rfl, rfl⟩, fun b z => absurd z (noA b), e0.bs, e0.bsz, fun b _ _ => noA b, fun b z => absurd z (noA b), e0.funs, e0.frf⟩,
    rfl, e0.bare, Un.kept hk, ⟨_, hns, fun i y v h1 h2 h3 => ?_⟩, fun y c h => ?_, e0.hok.fresh (Nat.le_refl _), fun y c h => ?_, fun p hp => absurd (show p ∈ ([] : List (Addr × Obj)) from hp) (by simp), e0.hok.kept hk, ?_⟩
  · have hy : scope.names.lookup y = some .cell ∨ scope.names.lookup y = some .free := hy
    rcases hy with hy | hy
    · exact absurd rfl (S.nocell _ (PySem.mem_of_lookup hy))
    · have e := S.free _ (PySem.mem_of_lookup hy) rfl
      have e : y = "__class__" := e
      subst e
      exact ⟨cc, by show List.lookup ("__class__" : Str) [(("__class__" : Str), cc)] = some cc; simp [List.lookup]⟩
  · have hi : i < vs.length := by
      unfold L2.start at h2
      by_cases hi : i < vs.length
      · exact hi
      · rw [List.getElem?_append_right (by simpa using hi), List.getElem?_replicate] at h2
        split at h2 <;> cases h2
    have ha : vs[i]? = some v := by
      unfold L2.start at h2
      rw [List.getElem?_append_left (by simpa using hi), List.getElem?_map] at h2
      cases e : vs[i]? with
      | none => rw [e] at h2; cases h2
      | some a => rw [e] at h2; cases h2; rfl
    obtain ⟨u, hu, rv⟩ := r.get ha
    have hp : ps[i]? = some y := by
      rw [← S.pre, List.getElem?_take_of_lt (by omega)]; exact h1
    refine ⟨u, rv, .inl ⟨S.par y (List.mem_of_getElem? hp), ?_⟩⟩
    show (ps.zip us).reverse.lookup y = some u
    have hk : ((ps.zip us).map (·.1)).Nodup := by rw [zip_keys hus]; exact ndP
    rw [PySem.lookup_reverse_of_nodup _ hk]
    exact lookup_nd hk (zip_get hp hu)
  · obtain ⟨rfl, rfl⟩ := cells y c h
    exact ⟨_, ⟨_, hk _ _ (e0.bs _ _ bcc).1, rfl⟩⟩
  · obtain ⟨rfl, rfl⟩ := cells y c h
    exact (e0.bs _ _ bcc).2
  · unfold L2.start
    show _ = N.length
    rw [List.length_append, List.length_map, List.length_replicate]
    omega
/-- the rule for such a def -/
theorem fn_ofS {P : Program} {w : World} {K : PySem.W.Frag} {mg : Str → Option Value} {base : Heap} {k : Nat} {f cc D : Addr} {name qual : Str} {params : Arguments} {body : List Stmt} {scope : Scope} {dV kV doc pm cdv ct oc cl : Value} {an od cld : Option Addr}
    {osl csl : Array (Option Value)} {N ps : List Str} {sp : Sp} (lk : K.lookup f = some ⟨oc, od, .func (ksFn name qual params body scope dV kV doc pm an cdv ct cc), osl⟩) (hcd : PySem.W.codeIn K cdv qual = true)
    (hcc : K.lookup cc = some ⟨cl, cld, .cell (some (.ref D)), csl⟩) (S : FnScS N ps scope) (len : ∀ vs H Q E, sp vs H Q E → vs.length = ps.length)
    (hbody : ∀ (A : Around) (outer : List Env) (s : Shared) (H : Hp) (vs : List V) (Q : VK) (E : XK), Room k (A.deeper (ksEnv qual scope s.heap.objs.size f cdv cc)) → sp vs H Q E →
      ∃ t, PSsA (cxS P w K mg base N qual scope f cdv cc A outer s H E) (.func body (ksEnv qual scope s.heap.objs.size f cdv cc)) body t ∧ t { nx := fun _ H' => Q .non H', rt := Q } (L2.start N vs) H) :
    FnOk P w K mg base (L2.CX P w) (k + 1) f (ksFn name qual params body scope dV kV doc pm an cdv ct cc) ps sp := by
  refine ⟨len, fun A outer s H args us vs Q E hr e0 hb r hsp => ?_⟩
  have hl := len _ _ _ _ hsp
  have hus : us.length = ps.length := by rw [← r.length]; exact hl
  have KX : K.In s.heap := e0.mod.kin.keeps fun b o e => (e0.bs b o e).1
  have lim : s.heap.NoLimit := e0.mod.nolimit.keeps fun b o e => (e0.bs b o e).1
  have hloc : ∀ x ∈ ps.zip us, scope.names.lookup x.1 = some .local := fun ⟨n, v⟩ hy => S.par n (List.of_mem_zip hy).1
  refine ks_codeAny_call_defAt (fd := ksFn name qual params body scope dV kV doc pm an cdv ct cc) (body := body) (binds := ps.zip us) hr.depth (KX _ _ lk) rfl lim (PySem.W.codeRec_of KX hcd) rfl hb S.nocell hloc (fun h1 hns hk => ?_) S.co S.gen S.kind
  obtain ⟨t, ht, hq⟩ := hbody A outer s H vs Q E (hr.deeper _) hsp
  have I := inv_startS (tk := s.toks + (ps.zip us).length) (f := f) (qual := qual) (cd := cdv) (E := E) S hcc hr.hd e0 hl r hns hk
  refine ks_wpAt_mono (ht.run [] _ (L2.start N vs) H _ I hq) (fun fl s' hs => ?_) fun e s' hs => hs
  have fin : ∀ {σ' : L2.St} {H' : Hp} {v : V} {u : Value}, Inv (cxS P w K mg base N qual scope f cdv cc A outer s H E) [] σ' H' s' → RelV v u → Q v H' → CE outer P w H s Q u s' :=
    fun {σ' H' v u} J rv q => ⟨v, H', J.os, J.bare, J.base, J.hok, rv, q⟩
  cases fl with
  | ret u =>
    obtain ⟨v, σ', H', J, rv, q⟩ := hs
    exact fin J rv q
  | next =>
    obtain ⟨σ', H', J, q⟩ := hs
    exact fin (v := V.non) (u := Value.none) J rfl q
  | brk =>
    obtain ⟨_, _, _, q⟩ := hs
    exact False.elim q
  | cont =>
    obtain ⟨_, _, _, q⟩ := hs
    exact False.elim q

/-! ### super() -/
theorem sup_base {X : Cx} {pins : List (Addr × Obj)} {σ : L2.St} {H : Hp} {s : Shared} {body : List Stmt} {p0 p1 : Pos} {attr : Str} {whole : Sem Value} {f cc cda D x C : Addr} {fd : FuncData} {ar : Arg} {vs : Array Value} {file : Str} {tf : Tok} {oc ccl cl : Value} {od cdd cld : Option Addr} {osl ccs csl : Array (Option Value)} {cdD : ClassData} {ox : Obj} {odx : Option Obj} {Q : Value → Shared → Prop} {E : Value → Shared → Prop}
    (I : Inv X pins σ H s) (hks : X.env.kindOf "super" = some .globalImplicit) (hkc : X.env.kindOf "__class__" = some .free) (hat : (attr == ("__class__" : Str)) = false) (hfu : X.env.func = some f) (hf : X.K.lookup f = some ⟨oc, od, .func fd, osl⟩) (hp : (fd.params.posonlyargs ++ fd.params.args).head? = some ar)
    (hco : X.env.code = .ref cda) (hcode : X.K.lookup cda = some ⟨ccl, cdd, .fields vs, ccs⟩) (hvs : vs[2]? = some (.str file tf)) (hfile : ((X.prog.main.file : Str) == file) = true) (htop : (X.prog.main.scope.names.lookup ("super" : Str)).isSome = false) (hm : X.mg "super" = none)
    (hcl : X.env.cells.lookup ("__class__" : Str) = some cc) (hcell : X.K.lookup cc = some ⟨cl, cld, .cell (some (.ref D)), csl⟩) (hD : PySem.W.clsIn X.K D = some cdD) (hka : X.env.kindOf ar.arg = some .local) (hN : X.N[0]? = some ar.arg) (hσ : σ[0]? = some (some (.ref x)))
    (J : PySem.W.InstAt s.heap x ox C odx) (hsub : PySem.W.mroIn X.K C (.ref D) = some true)
    (h : ∀ h', h'.get? s.heap.objs.size = some (PySem.W.ks_superObj D x C) → (∀ b o, s.heap.get? b = some o → h'.get? b = some o) → Q (.ref s.heap.objs.size) { s with heap := h' }) :
    _root_.PySem.wpAt (model X.prog X.w) X.A (.func body X.env) (attributeBase (.Call (.Name "super" p0) [] [] p1) attr X.env whole) Q E s := by
  have KX := I.kIn
  obtain ⟨m, hn, hl⟩ := id I.loc
  obtain ⟨u, ru, lk⟩ := hl 0 ar.arg (.ref x) hN hσ (.inl hka)
  obtain ⟨mb, b1, b2⟩ := I.mod.blt
  have hg : s.heap.Ns X.env.globals X.mg := by rw [I.ok.glob]; exact I.mod.glob.keeps I.bk
  have hb : s.heap.Ns X.env.builtins mb := by rw [I.ok.blt]; exact b1.keeps I.bk
  have hk := I.ok.kind
  have em : m ar.arg = some (.ref x) := by
    have ru' : u = Value.ref x := ru
    subst ru'
    rcases lk with ⟨_, e⟩ | ⟨e, _⟩
    · exact e
    · rw [hka] at e
      rcases e with e | e <;> cases e
  obtain ⟨oD, hD1, hD2⟩ : ∃ oD, s.heap.get? D = some oD ∧ oD.data = .cls cdD := by
    unfold PySem.W.clsIn at hD
    split at hD
    · rename_i q1 q2 q3 q4 ho
      cases hD
      exact ⟨_, KX _ _ ho, rfl⟩
    · cases hD
  obtain ⟨hh, g, d, t, os⟩ := s
  refine ks_wpAt_super_base hks hkc hat hfu (KX _ _ hf) rfl hp hco (KX _ _ hcode) rfl hvs hfile htop ?_
  refine PySem.W.ks_loadName_global hk hks (PySem.Calls.loadGlobal_builtin hg hm hb ((b2 _ (by decide)).trans PyProof.Rows.Boot.«super») ⟨rfl, ?_⟩)
  refine PySem.wpAny_loadName_free hk hkc hcl ⟨_, KX _ _ hcell, rfl⟩ ?_
  refine wpAny_loadName_local hk hka hn em ?_
  refine ks_wpAny_isType_cls hD1 hD2 ⟨rfl, ?_⟩
  refine ks_wpAny_call_super hD1 hD2 J.at_ J.cls (fun c e => ?_) (PySem.W.looks_mroIn KX hsub) fun h' e k => h h' e k
  have z := J.no
  unfold PySem.W.notCls at z
  rw [e] at z
  exact Bool.noConfusion z
/-- the bound ValueError.__init__ called -/
theorem call_vw {prog : Program} {w : World} {A : Around} {E : Value → Shared → Prop} {h : Heap} {g : Array GenState} {d : Drawn} {t : Nat} {os : OsState} {nm q : Str} {C N u e t0 : Addr} {bs bm : List Value} {hdct : Bool} {sn : List Str} {sub : List Value} {ab : Bool} {col : Option Bool} {dd : Option Addr} {k0 k1 k2 k3 k5 : Option Value}
    {rest : List Value} {Q : Value → Shared → Prop} (hC : h.get? C = some (excClassObj nm q C N bs bm hdct sn sub ab col dd k0 k1 k2 k3 k5 "ValueError.__new__")) (he : h.get? e = some (HandSPX.excO C t0)) (hu : h.get? u = some (PySem.W.kxs_mw "ValueError.__init__" e)) (hz : rest.length ≤ sizeLine)
    (hq : ∀ h' t1, (∀ b o, b ≠ e → h.get? b = some o → h'.get? b = some o) → h'.get? e = some (HandSPX.excO C t1) → Q .none ⟨h', g, d, t, os⟩) : wpAny (model prog w) A (call (.ref u) rest) Q E ⟨h, g, d, t, os⟩ := by
  refine wpAny_call (codeAny_of_tree ?_)
  show wpAny _ A.in1 (callAny (.ref u) ⟨rest, []⟩) _ _ _
  simp only [callAny]
  refine wpAny_bind (wpAny_load hu ?_)
  simp only [PySem.W.kxs_mw, (by decide : (Value.type "method-wrapper" == Value.type "method" || Value.type "method-wrapper" == Value.type "builtin_function_or_method" || Value.type "method-wrapper" == Value.type "method-wrapper") = true), if_true]
  refine PySem.W.KFB.if_so (by decide) ?_
  refine wpAny_bind (PySem.ESX.check_bound F.excBase_ValueError hC he rfl (wpAny_bind (wpAny_pure (wpAny_pure ⟨Code.quiet_builtin _ (by decide +kernel), codeAny_builtin F.excBase_ValueError.initEntry ?_⟩))))
  rw [Around.under_plainId F.excBase_ValueError.init.plain _]
  wp_walk
  refine hq _ h.objs.size (fun b o hb ho => (Heap.get?_update_other _ _ (Ne.symm hb)).trans (Heap.get?_push_of_some _ ho)) ?_
  rw [Heap.get?_update_self _ (Heap.get?_push_of_some _ he) rfl]
  rfl
/-- what the written part says of the class at C, where super() stands in a method of the class at D and finds ValueError.__init__ -/
structure SupV (K : PySem.W.Frag) (C D : Addr) : Prop where
  ex : OexC K C
  opq : PySem.W.nsIn K PySem.cStatics "thirdparty.any" = some none
  fnd : PySem.W.ks_superIn K C D "__init__" = some (some (.builtin "ValueError.__init__"))
  sub : PySem.W.subIn K (.ref C) (.type "ValueError") = some true
  mro : PySem.W.mroIn K C (.ref D) = some true
/-- super().__init__(..) of an exception that is being made -/
def tSupV (K : PySem.W.Frag) (D : Addr) (ta : TA) : TE := fun σ H Q => ∃ a C : Addr, σ[0]? = some (some (.ref a)) ∧ H a = some (exo a C none) ∧ SupV K C D ∧ ta σ H fun vs H1 => vs.length ≤ 1000 ∧ H1 a = some (exo a C none) ∧ Q .non H1
/-- what the text says of the method that says super() -/
structure SupT (X : Cx) (D : Addr) : Prop where
  ex : ∃ (f cc cda : Addr) (fd : FuncData) (ar : Arg) (vs : Array Value) (file : Str) (tf : Tok) (oc ccl cl : Value) (od cdd cld : Option Addr) (osl ccs csl : Array (Option Value)) (cdD : ClassData),
    X.env.func = some f ∧ X.K.lookup f = some ⟨oc, od, .func fd, osl⟩ ∧ (fd.params.posonlyargs ++ fd.params.args).head? = some ar ∧ X.env.code = .ref cda ∧ X.K.lookup cda = some ⟨ccl, cdd, .fields vs, ccs⟩ ∧ vs[2]? = some (.str file tf) ∧ ((X.prog.main.file : Str) == file) = true ∧
    X.env.cells.lookup ("__class__" : Str) = some cc ∧ X.K.lookup cc = some ⟨cl, cld, .cell (some (.ref D)), csl⟩ ∧ PySem.W.clsIn X.K D = some cdD ∧ X.env.kindOf ar.arg = some .local ∧ X.N[0]? = some ar.arg
  ks : X.env.kindOf "super" = some .globalImplicit
  kc : X.env.kindOf "__class__" = some .free
  top : (X.prog.main.scope.names.lookup ("super" : Str)).isSome = false
  mg : X.mg "super" = none
section
variable {X : Cx} {D : Addr} {body : List Stmt} {p0 p1 apos pos pos2 : Pos} {e : Expr} {es : List Expr} {ta : TA}
theorem psa_supV (T : SupT X D) (ha : PA X (e :: es) ta) {pl : Sem Bool}
    (hc : eval (.Call (.Attribute (.Call (.Name "super" p0) [] [] p1) "__init__" apos) (e :: es) [] pos) X.env = (do
      let ov ← attributeBase (.Call (.Name "super" p0) [] [] p1) "__init__" X.env (eval (.Call (.Name "super" p0) [] [] p1) X.env)
      standAt apos.atName
      let (f, first) ← holding [ov] (getMethod ov "__init__" pl)
      callWith pos f first (backTo pos (starEach (e :: es) X.env)) []) := by rfl)
    (hi : interactive X.env = false := by rfl) (hs : swapsWith (.Call (.Attribute (.Call (.Name "super" p0) [] [] p1) "__init__" apos) (e :: es) [] pos) none pos2.line X.env = pure false := by rfl)
    (he : starEach (e :: es) X.env = (false, eval e X.env) :: starEach es X.env := by rfl) (hpl : (backTo pos (starEach es X.env)).any (·.1) = false := by rfl) :
    PSA X (.func body X.env) (.Expr (.Call (.Attribute (.Call (.Name "super" p0) [] [] p1) "__init__" apos) (e :: es) [] pos) pos2) (tDrop (tSupV X.K D ta)) := by
  refine ⟨fun pins s σ H K I h => ?_⟩
  obtain ⟨a, C, hσ, ea, V, q⟩ := h
  obtain ⟨f, cc, cda, fd, ar, vs, file, tf, oc, ccl, cl, od, cdd, cld, osl, ccs, csl, cdD, z1, z2, z3, z4, z5, z6, z7, z8, z9, z10, z11, z12⟩ := T.ex
  obtain ⟨t0, ho⟩ := exo_at I.hok ea
  have J : PySem.W.InstAt s.heap a _ C none := ⟨ho, rfl, rfl, trivial⟩
  obtain ⟨nm, qq, N, bs, bm, sn, sub, ab, col, dd, k0, k1, k2, k3, k5, hC, hbm⟩ := V.ex.cls
  have hcl : PySem.W.clsIn X.K C = some { name := nm, bases := bs, mro := .ref C :: bm, ns := N, qualname := qq, hasDict := true, slotNames := sn, subclasses := sub, abstract := ab, collection := col, hasDel := false } := by unfold PySem.W.clsIn; rw [hC] <;> rfl
  refine ks_wpAt_Expr_any (ks_wpAt_MethodCall (sup_base I T.ks T.kc (by decide) z1 z2 z3 z4 z5 z6 z7 T.top T.mg z8 z9 z10 z11 z12 hσ J V.mro fun h1 o1 k1' => ?_) hc) hi hs
  have I1 : Inv X pins σ H { s with heap := h1 } := by
    have z := I.kept (t' := s.toks) k1'
    exact z
  have KX := I1.kIn
  obtain ⟨hp, g, d, t, os⟩ := s
  have hI : PySem.W.Looks (model X.prog X.w) h1 (isInstance (.ref a) (.type "ValueError")) true := (PySem.W.InstAt.type (M := model X.prog X.w) (⟨k1' _ _ ho, rfl, rfl, trivial⟩ : PySem.W.InstAt h1 a _ C none)).andThen (PySem.W.looks_subIn KX V.sub)
  have hf := V.fnd
  unfold PySem.W.ks_superIn at hf
  rw [hcl] at hf
  refine PySem.W.kxs_getMethod PySem.W.kxs_ValueError o1 (PySem.W.looks_opaque KX V.opq) (l₀ := .ref C :: bm) ?_ rfl KX hf hI (PySem.W.ks_ne I.kIn J hcl) (by decide) ?_
  · exact fun A Q E s k q => wpAny_bind ((PySem.W.looks_clsIn KX hcl) A _ E s k (wpAny_pure q))
  · have kk : ∀ b o, hp.get? b = some o → (h1.push (PySem.W.kxs_mw "ValueError.__init__" a)).get? b = some o := fun b o z => Heap.get?_push_of_some _ (k1' b o z)
    have hu : (h1.push (PySem.W.kxs_mw "ValueError.__init__" a)).get? h1.objs.size = some (PySem.W.kxs_mw "ValueError.__init__" a) := Heap.get?_push_at rfl rfl
    have szu : hp.objs.size ≤ h1.objs.size := by
      exact Nat.le_of_lt (Heap.lt_size o1)
    have I2 : Inv X ((h1.objs.size, PySem.W.kxs_mw "ValueError.__init__" a) :: pins) σ H ⟨h1.push (PySem.W.kxs_mw "ValueError.__init__" a), g, d, t + 1, os⟩ := by
      have z : Inv X pins σ H ⟨h1.push (PySem.W.kxs_mw "ValueError.__init__" a), g, d, t + 1, os⟩ := I.kept (t' := t + 1) kk
      refine z.pins_of fun p hp' => ?_
      rcases List.mem_cons.mp hp' with e | hp'
      · subst e
        have hl := I.lt
        refine ⟨hu, I.hok.fresh szu, fun y => ?_, I.nofs szu, fun v y => ?_⟩
        · have y : h1.objs.size = X.env.locals := y
          have hl : X.env.locals < hp.objs.size := hl
          rw [← y] at hl
          exact absurd (Nat.lt_of_lt_of_le hl szu) (Nat.lt_irrefl _)
        · cases y
      · exact z.pin p (List.mem_append_right _ hp')
    rw [he]
    refine PySem.W.kxs_callWith (i := "ValueError.__init__") (x := a) (by show (false || (backTo pos (starEach es X.env)).any (·.1)) = false; rw [hpl]; rfl) ?_
    have hsp := ha.run pos _ _ σ H _ I2 q
    rw [he] at hsp
    refine PySem.Calls.evalArgs_plain (wpAny_mono hsp (fun us s2 h2 => ?_) fun _ _ z => z)
    obtain ⟨ws, H2, I3, rw', hl, ea2, q2⟩ := h2
    have pu := (I3.pin (h1.objs.size, PySem.W.kxs_mw "ValueError.__init__" a) (List.mem_append_right _ List.mem_cons_self)).1
    refine ⟨pu, ?_⟩
    obtain ⟨t1, ho1⟩ := exo_at I3.hok ea2
    have I4 : Inv X pins σ H2 s2 := I3.pins_of fun p hp' => I3.pin p (by
      rcases List.mem_append.mp (List.mem_append_right X.pn hp') with z | z
      · exact List.mem_append_left _ z
      · exact List.mem_append_right _ (List.mem_cons_of_mem _ z))
    have hlen : us.length ≤ sizeLine := by
      rw [← Paired.length rw', sizeLine_eq]
      omega
    obtain ⟨hp2, g2, d2, tk2, os2⟩ := s2
    show wpAny _ _ (call (.ref h1.objs.size) us) _ _ _
    refine call_vw (I4.kIn _ _ hC) ho1 pu hlen fun h' t2 k hx => ?_
    have J4 := I4.write (t' := tk2) (x := a) (e := a) (o := exo a C none) (by rw [ea2]; exact True.intro) (.inl rfl) k ⟨_, hx⟩ (exo_ok hx)
    have eu : upd H2 a (exo a C none) = H2 := by
      funext b
      by_cases hb : b = a
      · rw [hb, upd_same, ea2]
      · rw [upd_ne hb]
    rw [eu] at J4
    exact ⟨σ, H2, J4, q2⟩
end

/-! ### an error's own __init__ -/
theorem lookup_fs_nil {f : Str} : (([] : List (Str × V)).lookup f) = none := rfl
/-- the promise of such an __init__: the fields fs are set, in this order -/
def exFs (fs : List Str) (ys : List V) : List (Str × V) := (fs.zip ys).reverse
def spEx (Cs : List Addr) (fs : List Str) : Sp := fun vs H Q _ => ∃ (a C : Addr) (ys : List V), C ∈ Cs ∧ vs = .ref a :: ys ∧ ys.length = fs.length ∧ H a = some (exo a C none) ∧
  ∀ d, H d = none → d ≠ a → Q .non (upd (upd H d (exd d (exFs fs ys))) a (exo a C (some d)))
/-- C(..), an error with its fields -/
def tMkC (C : Addr) (fs : List Str) (ta : TA) : L2.St → Hp → XK → Prop := fun σ H Q => ta σ H fun vs H1 => vs.length = fs.length ∧ ∀ d, H1 d = none → Q (.ref C) (some d) (upd H1 d (.xd (exFs fs vs)))
theorem pmk_imp {X : Cx} {e : Expr} {t t' : L2.St → Hp → XK → Prop} (h : PMk X e t) (i : ∀ σ H Q, t' σ H Q → t σ H Q) : PMk X e t' := fun pins s σ H Q I q => h pins s σ H Q I (i σ H Q q)
theorem mo_pa {X : Cx} {es : List Expr} {ta : TA} (h : PA X es ta) : PA X es (moA ta) := pa_mo h
theorem mkC_of {C : Addr} {Cs : List Addr} {fs : List Str} {ta : TA} (hC : C ∈ Cs) (hl : fs.length ≤ 900) {σ : L2.St} {H : Hp} {Q : XK} (q : tMkC C fs ta σ H Q) : tMkO C (spEx Cs fs) [] (moA ta) σ H Q := by
  refine ⟨_, q, fun vs H1 ⟨e, h⟩ => ⟨by omega, fun a ha => ⟨a, C, vs, hC, by rw [List.append_nil], e, upd_same, fun d hd hne => ⟨rfl, d, exFs fs vs, upd_same, ?_, ?_, ?_⟩⟩⟩⟩
  · rw [upd_ne hne, upd_same]
  · rw [upd_ne hne] at hd
    exact hd
  · rw [upd_ne hne] at hd
    have e2 : upd (del (upd (upd (upd H1 a (exo a C none)) d (exd d (exFs fs vs))) a (exo a C (some d))) a) d (.xd (exFs fs vs)) = upd H1 d (.xd (exFs fs vs)) := by
      funext b
      by_cases hb : b = d
      · rw [hb, upd_same, upd_same]
      · rw [upd_ne hb, upd_ne hb]
        by_cases hba : b = a
        · rw [hba, del_same, ha]
        · rw [del_ne hba, upd_ne hba, upd_ne hb, upd_ne hba]
    rw [e2]
    exact h d hd
theorem pmk_ex {X : Cx} {CX : CXT} {x : Str} {C fI : Addr} {Cs : List Addr} {fs : List Str} {k : Nat} {fd : FuncData} {ps : List Str} {e : Expr} {es : List Expr} {ta : TA} {p pos : Pos} (T : OexC X.K C) (iC : PySem.W.findIn X.K (.ref C) "__init__" = some (some (.ref fI))) (tI : PySem.W.typeIn X.K (.ref fI) = some (.type "function"))
    (F1 : FnOk X.prog X.w X.K X.mg X.base CX k fI fd ps (spEx Cs fs)) (hC : C ∈ Cs) (hl : fs.length ≤ 900) (hr : Room (k + 1) X.A) (hb : Binds X.K fd ps []) (hx : Passes CX X (fun _ _ _ => False)) (hg : Gl X x) (hm : X.mg x = some (.ref C)) (ha : PA X (e :: es) ta)
    (hdb : (x == ("__debug__" : Str)) = false := by decide) (he : starEach (e :: es) X.env = (false, eval e X.env) :: starEach es X.env := by rfl) (hpl : (backTo pos (starEach es X.env)).any (·.1) = false := by rfl) :
    PMk X (.Call (.Name x p) (e :: es) [] pos) (tMkC C fs ta) :=
  pmk_imp (pmk_oex (dvs := []) (ds := []) T iC tI F1 hr hb .nil hx hg hm (pa_mo ha) hdb he hpl) fun _ _ _ q => mkC_of hC hl q
/-- raise C(..) -/
def sRaise (E : XK) (t : L2.St → Hp → XK → Prop) : TS := fun _ σ H => t σ H E
def sRaiseS (W : WX) (t : L2.St → Hp → XK → Prop) : TS := fun _ σ H => t σ H fun cls d H' => W cls d σ H'
theorem ps_raiseE {X : Cx} {E : XK} {e : Expr} {t : L2.St → Hp → XK → Prop} {pos : Pos} (hc : X.calm = true) (tk : Takes X (fun cls d _ H => E cls d H)) (he : PMk X e t) : PS X (.Raise (some e) none pos) (sRaise E t) := ps_raise hc tk he
theorem ps_raiseS {X : Cx} {W : WX} {e : Expr} {t : L2.St → Hp → XK → Prop} {pos : Pos} (hc : X.calm = true) (tk : Takes X W) (he : PMk X e t) : PS X (.Raise (some e) none pos) (sRaiseS W t) := ps_raise hc tk he

/-! ### try, with several clauses -/
structure Clz where
  c : Value
  i : Option Nat
  ts : Addr → Value → Option Addr → TS
def endsI : Option Nat → Ends → Ends
  | none, D => D
  | some i, D => { nx := fun σ' H' => D.nx (σ'.set i none) H', rt := D.rt, bk := fun σ' H' => D.bk (σ'.set i none) H', ct := fun σ' H' => D.ct (σ'.set i none) H' }
def setI : Option Nat → V → L2.St → L2.St
  | none, _, σ => σ
  | some i, v, σ => σ.set i (some v)
/-- a clause takes the exception -/
def hitN (K : PySem.W.Frag) (D : Ends) (cls : Value) (d : Option Addr) (σ : L2.St) (H : Hp) : List Clz → Prop
  | [] => False
  | z :: r => (PySem.W.exmOne K cls z.c = some true ∧ ∀ a, H a = none → z.ts a cls d (endsI z.i D) (setI z.i (.ref a) σ) H) ∨ (PySem.W.exmOne K cls z.c = some false ∧ hitN K D cls d σ H r)
inductive HnOk (X : Cx) : List ExceptHandler → List Clz → Prop
  | nil : HnOk X [] []
  | anon {x : Str} {c : Value} {ts : Addr → Value → Option Addr → TS} {b₀ : Stmt} {suite : List Stmt} {np pos' : Pos} {hds : List ExceptHandler} {l : List Clz} (hc : Names X x c)
      (hsu : ∀ (a : Addr) (oe : Obj) (cls : Value) (d : Option Addr) (pn : List (Addr × Obj)), Zc cls d oe → (∃ vs, oe.data = .fields vs) → PSs (X.suite a ((a, oe) :: pn)) (b₀ :: suite) (ts a cls d)) (r : HnOk X hds l) :
      HnOk X (.ExceptHandler (some (.Name x np)) none (b₀ :: suite) pos' :: hds) (⟨c, none, ts⟩ :: l)
  | named {x n : Str} {i : Nat} {c : Value} {ts : Addr → Value → Option Addr → TS} {b₀ : Stmt} {suite : List Stmt} {np pos' : Pos} {hds : List ExceptHandler} {l : List Clz} (hc : Names X x c) (hi : X.N[i]? = some n) (hln : X.env.kindOf n = some .local)
      (hsu : ∀ (a : Addr) (oe : Obj) (cls : Value) (d : Option Addr) (pn : List (Addr × Obj)), Zc cls d oe → (∃ vs, oe.data = .fields vs) → PSs (X.suite a ((a, oe) :: pn)) (b₀ :: suite) (ts a cls d)) (r : HnOk X hds l) :
      HnOk X (.ExceptHandler (some (.Name x np)) (some n) (b₀ :: suite) pos' :: hds) (⟨c, some i, ts⟩ :: l)
section
variable {X : Cx} {body : List Stmt} {h₀ : ExceptHandler} {hds : List ExceptHandler} {l : List Clz} {pos : Pos} {tb : WX → TS}
theorem ps_tryN (hs : X.stack = X.env :: X.outer) (hf : X.env.frame = some X.env.locals) (hN : X.N.Nodup)
    (hb : ∀ (W : WX) (pn : List (Addr × Obj)) (xe : Value → Shared → Prop), Takes (X.tr pn xe) W → PassesOwn (model X.prog X.w) X.A X.env xe → PSs (X.tr pn xe) body (tb W))
    (hh : HnOk X (h₀ :: hds) l) : PS X (.Try body (h₀ :: hds) [] [] pos) (fun D σ H => tb (fun cls d σ H => hitN X.K D cls d σ H l) D σ H) := ⟨fun pins s σ H D I h => by
  have ok := I.ok
  have frame : X.A.frames = some (X.env :: X.outer) := ok.frames.trans (congrArg some hs)
  refine wpAny_Try_except (wpAny_mono ((hb _ (X.pn ++ pins) _ (fun u s' xx => ?_) PassesOwn.looking).run [] s σ H D (I.toTry _) h) (fun f s1 hsp => ?_) fun e s1 he => he)
  · obtain ⟨a, B, sI, pins', σ', H', cls, d, rfl, J', nb, up, sky, na, os, ag, w⟩ := xx
    have J : Inv X pins σ' H' sI := J'.ofTry ok
    have sk : Sky B (X.env :: X.outer) a (Zc cls d) X.env.locals s'.heap := hs ▸ sky
    refine Sky.land Zc.steady frame hf sk fun hL fL uL => ?_
    have JL : Inv X pins σ' H' { s' with heap := hL } := J.landed nb fL.1 (up.trans uL) os ag
    obtain ⟨oL, vL, gL, zL, dL⟩ := fL.there
    have apart : a ∉ frs (X.env :: X.outer) := fun hm => by
      obtain ⟨_, o', e', hnf⟩ := fL.2.2.1.mem hm
      rw [gL] at e'
      cases e'
      exact hnf _ dL
    have aL : a ≠ X.env.locals := fun z => apart (List.mem_filterMap.mpr ⟨X.env, List.mem_cons_self, by rw [hf, z]⟩)
    have aF : a ∉ X.fs := fun hm => by
      obtain ⟨e, he, q⟩ := List.mem_filterMap.mp hm
      exact apart (List.mem_filterMap.mpr ⟨e, List.mem_cons_of_mem _ he, q⟩)
    have SL := JL.suite gL dL na aL aF
    have LT : PySem.W.Looks (model X.prog X.w) hL (typeOf (.ref a)) cls := fun A Q E s k q => wpAny_typeOf_ref (k _ _ gL) (by rw [zL.1]; exact q)
    have names : ∀ {x : Str} {c : Value} {np : Pos} {Q : Value → Shared → Prop} {E : Value → Shared → Prop}, Names X x c → Q c { s' with heap := hL } → wpAny (model X.prog X.w) (X.A.mark (some (.ref a))) (eval (.Name x np) X.env) Q E { s' with heap := hL } := fun {x c np Q E} hc q => by
      obtain ⟨hg, hdbg, hm | ⟨hm, hv, hnn⟩⟩ := hc
      · exact ld_glob (X := X.suite a ((a, oL) :: (X.pn ++ pins))) SL hg hm q hdbg
      · exact ld_blt (X := X.suite a ((a, oL) :: (X.pn ++ pins))) SL hg hm hv q hnn hdbg
    suffices go : ∀ {hs' : List ExceptHandler} {l' : List Clz}, HnOk X hs' l' → hitN X.K D cls d σ' H' l' → wpAny (model X.prog X.w) X.A (handleBy (.ref a) X.env hs') (SP X pins D) X.xe { s' with heap := hL } from go hh w
    intro hs' l' hk
    induction hk with
    | nil => exact fun w => w.elim
    | @anon x c ts b₀ suite np pos' hds2 l2 hc hsu r ih =>
      intro w
      refine wpAny_handleBy_cons (codeAny_handlers_test ?_) (by intro q; cases q)
      rcases w with ⟨e, w⟩ | ⟨e, w⟩
      · refine names hc ((PySem.W.exm_one (M := model X.prog X.w) JL.kIn LT e).here ?_)
        refine codeAny_handlers_suite (HandSPX.lands_againZ fL fun h4 f4 u4 => ?_)
        have J4 : Inv X pins σ' H' { s' with heap := h4 } := J.landed nb f4.1 ((up.trans uL).trans u4) os ag
        obtain ⟨o4, v4, g4, z4, d4⟩ := f4.there
        refine wpAny_mono ((hsu a o4 cls d (X.pn ++ pins) z4 ⟨_, d4⟩).run [] _ σ' H' _ (J4.suite g4 d4 na aL aF) (w a na)) (fun f s6 hsp => ?_) (fun _ _ z => False.elim z)
        cases f with
        | ret u =>
          obtain ⟨v6, σ6, H6, S6, r6, q6⟩ := hsp
          exact ⟨_, _, _, S6.unsuite ok, r6, q6⟩
        | next | brk | cont =>
          obtain ⟨σ6, H6, S6, q6⟩ := hsp
          exact ⟨_, _, S6.unsuite ok, q6⟩
      · exact names hc ((PySem.W.exm_one (M := model X.prog X.w) JL.kIn LT e).here (ih w))
    | @named x n i c ts b₀ suite np pos' hds2 l2 hc hi hln hsu r ih =>
      intro w
      refine wpAny_handleBy_cons (codeAny_handlers_test ?_) (by intro q; cases q)
      rcases w with ⟨e, w⟩ | ⟨e, w⟩
      · refine names hc ((PySem.W.exm_one (M := model X.prog X.w) JL.kIn LT e).here ?_)
        refine codeAny_handlers_suite_as (HandSPX.lands_againZ fL fun h4 f4 u4 => ?_)
        have J4 : Inv X pins σ' H' { s' with heap := h4 } := J.landed nb f4.1 ((up.trans uL).trans u4) os ag
        obtain ⟨o4, v4, g4, z4, d4⟩ := f4.there
        refine store_ok (X := X.suite a ((a, o4) :: (X.pn ++ pins))) (v := .ref a) (J4.suite g4 d4 na aL aF) hN hi (.inl hln) rfl (fun s5 S5 => ?_) (.inr hln)
        refine wpAny_mono ((hsu a o4 cls d (X.pn ++ pins) z4 ⟨_, d4⟩).run [] s5 _ H' _ S5 (w a na)) (fun f s6 hsp => ?_) (fun _ _ z => False.elim z)
        have away : ∀ {σ6 : L2.St} {H6 : Hp} {Q : Shared → Prop}, Inv (X.suite a ((a, o4) :: (X.pn ++ pins))) [] σ6 H6 s6 → (∀ s7, Inv X pins (σ6.set i none) H6 s7 → Q s7) →
            wpAny (model X.prog X.w) X.A (do bindName X.env n .none; unbindBehindTheSuite X.env n pos') (fun _ s7 => Q s7) X.xe s6 := fun {σ6 H6 Q} S6 hq => gone_ok (S6.unsuite ok) hN hi hln hq
        cases f with
        | ret u =>
          obtain ⟨v6, σ6, H6, S6, r6, q6⟩ := hsp
          exact away S6 fun s7 J7 => ⟨_, _, _, J7, r6, q6⟩
        | next | brk | cont =>
          obtain ⟨σ6, H6, S6, q6⟩ := hsp
          exact away S6 fun s7 J7 => ⟨_, _, J7, q6⟩
      · exact names hc ((PySem.W.exm_one (M := model X.prog X.w) JL.kIn LT e).here (ih w))
  · cases f with
    | next =>
      obtain ⟨σ', H', J', q⟩ := hsp
      exact wpAny_execs_nil ⟨σ', H', J'.ofTry ok, q⟩
    | ret u =>
      obtain ⟨v, σ', H', J', r, q⟩ := hsp
      exact ⟨v, σ', H', J'.ofTry ok, r, q⟩
    | brk | cont =>
      obtain ⟨σ', H', J', q⟩ := hsp
      exact ⟨σ', H', J'.ofTry ok, q⟩⟩
/-- which clause takes the exception of the class cls -/
inductive Hits (K : PySem.W.Frag) (cls : Value) : List Value → Nat → Prop
  | here {c : Value} {r : List Value} (h : PySem.W.exmOne K cls c = some true) : Hits K cls (c :: r) 0
  | there {c : Value} {r : List Value} {k : Nat} (h : PySem.W.exmOne K cls c = some false) (t : Hits K cls r k) : Hits K cls (c :: r) (k + 1)
abbrev Sui := Option Nat × (Addr → Value → Option Addr → TS)
/-- the wish of a try's body, by a table of classes -/
def wT (tab : List (Value × Nat)) (cl : List Sui) (D : Ends) : WX := fun cls d σ H => ∃ k i ts, (cls, k) ∈ tab ∧ cl[k]? = some (i, ts) ∧ ∀ a, H a = none → ts a cls d (endsI i D) (setI i (.ref a) σ) H
def sTry (tab : List (Value × Nat)) (cl : List Sui) (tb : WX → TS) : TS := fun D σ H => tb (wT tab cl D) D σ H
theorem hits_of {K : PySem.W.Frag} {D : Ends} {cls : Value} {d : Option Addr} {σ : L2.St} {H : Hp} {i : Option Nat} {ts : Addr → Value → Option Addr → TS} (q : ∀ a, H a = none → ts a cls d (endsI i D) (setI i (.ref a) σ) H) :
    ∀ {l : List Clz} {k : Nat}, Hits K cls (l.map (·.c)) k → (l.map fun z => ((z.i, z.ts) : Sui))[k]? = some (i, ts) → hitN K D cls d σ H l
  | [], _, _, h => by cases h
  | z :: l, 0, h, e => by
    have e : ((z.i, z.ts) : Sui) = (i, ts) := by simpa using e
    cases e
    cases h with
    | here h => exact .inl ⟨h, q⟩
  | z :: l, k + 1, h, e => by
    cases h with
    | there h t => exact .inr ⟨h, hits_of q t (by simpa using e)⟩
theorem ps_tryT {tab : List (Value × Nat)} (tk0 : ∀ p ∈ tab, Hits X.K p.1 (l.map (·.c)) p.2) (hs : X.stack = X.env :: X.outer) (hf : X.env.frame = some X.env.locals) (hN : X.N.Nodup)
    (hb : ∀ (W : WX) (pn : List (Addr × Obj)) (xe : Value → Shared → Prop), Takes (X.tr pn xe) W → PassesOwn (model X.prog X.w) X.A X.env xe → PSs (X.tr pn xe) body (tb W))
    (hh : HnOk X (h₀ :: hds) l) : PS X (.Try body (h₀ :: hds) [] [] pos) (sTry tab (l.map fun z => (z.i, z.ts)) tb) := by
  refine ps_imp (ps_tryN (tb := fun W D σ H => ∃ W', (∀ c d σ H, W' c d σ H → W c d σ H) ∧ tb W' D σ H) hs hf hN (fun W pn xe tk pa => ⟨fun pins s σ H D I ⟨W', i, q⟩ => (hb W' pn xe (tk.imp i) pa).run pins s σ H D I q⟩) hh) fun D σ H q => ⟨_, fun c d σ H h => ?_, q⟩
  obtain ⟨k, i, ts, m, e, h⟩ := h
  exact hits_of h (tk0 _ m) e
end

/-! ### calls in a try's body: what is raised is wished for at the slots -/
section
variable {X : Cx} {CX : CXT} {k : Nat} {f C g p2' : Addr} {fd : FuncData} {ps : List Str} {sp : Sp} {E : L2.St → XK} {x m : Str} {p pos apos : Pos} {e o : Expr} {es : List Expr} {ta : TE} {t : TA}
def tCS (sp : Sp) (E : L2.St → XK) (t : TA) : TE := fun σ H Q => t σ H fun vs H1 => sp vs H1 Q (E σ)
def tMS (C : Addr) (m : Str) (sp : Sp) (E : L2.St → XK) (ta : TE) (t : TA) : TE := fun σ H Q => ta σ H fun x H1 => ∃ a dx fs, x = .ref a ∧ H1 a = some (.ins C dx fs) ∧ fs.lookup m = none ∧ t σ H1 fun vs H2 => sp (x :: vs) H2 Q (E σ)
def tNewS (C : Addr) (sp : Sp) (E : L2.St → XK) (t : TA) : TE := fun σ H Q => t σ H fun vs H1 => ∀ x dx, H1 x = none → H1 dx = none → dx ≠ x →
  sp (.ref x :: vs) (upd (upd H1 dx (.own x)) x (.ins C dx [])) (fun v H2 => v = .non ∧ Q (.ref x) H2) (E σ)
theorem pe_cS (F : FnOk X.prog X.w X.K X.mg X.base CX k f fd ps sp) (hr : Room k X.A) (hg : Gl X x) (hm : X.mg x = some (.ref f)) (hk : PySem.W.keepIn X.K (.ref f) = true) (hb : Binds X.K fd ps []) (hx : ∀ σ, PassesAt CX X σ (E σ))
    (ha : PA X (e :: es) t) (hdb : (x == ("__debug__" : Str)) = false := by decide) (he : starEach (e :: es) X.env = (false, eval e X.env) :: starEach es X.env := by rfl) (hpl : (backTo pos (starEach es X.env)).any (·.1) = false := by rfl) :
    PE X (.Call (.Name x p) (e :: es) [] pos) (tCS sp E t) := pe_callS F hr hg hm hk hb hx ha hdb he hpl
theorem pe_cS0 (F : FnOk X.prog X.w X.K X.mg X.base CX k f fd ps sp) (hr : Room k X.A) (hg : Gl X x) (hm : X.mg x = some (.ref f)) (hk : PySem.W.keepIn X.K (.ref f) = true) (hb : Binds X.K fd ps []) (hx : ∀ σ, PassesAt CX X σ (E σ))
    (hdb : (x == ("__debug__" : Str)) = false := by decide) : PE X (.Call (.Name x p) [] [] pos) (tCS sp E tNil) :=
  ⟨fun _ _ σ _ _ I h => wpAny_Call_Name_kw (ld_glob I hg hm (PySem.W.callWith_K0 I.kIn hk (run_fnS (us := []) F hr hb (hx σ) I .nil h)) hdb)⟩
theorem pe_mS {pl : Sem Bool} (he : PE X o ta) (c : Cls X.K C) (hm : Meth X.K C m f) (F : FnOk X.prog X.w X.K X.mg X.base CX k f fd ps sp) (hr : Room k X.A) (hb : Binds X.K fd ps []) (hx : ∀ σ, PassesAt CX X σ (E σ)) (ha : PA X (e :: es) t)
    (hst : starEach (e :: es) X.env = (false, eval e X.env) :: starEach es X.env := by rfl) (hpl : (backTo pos (starEach es X.env)).any (·.1) = false := by rfl)
    (ht : eval (.Call (.Attribute o m apos) (e :: es) [] pos) X.env = (do
      let ov ← eval o X.env
      standAt apos.atName
      let (f, first) ← holding [ov] (getMethod ov m pl)
      callWith pos f first (backTo pos (starEach (e :: es) X.env)) (backToKw pos (keywordEach [] X.env))) := by rfl) :
    PE X (.Call (.Attribute o m apos) (e :: es) [] pos) (tMS C m sp E ta t) := by
  refine ⟨fun pins s σ H Q I h => PySem.W.methodCall_KW (pl := pl) (thn (he.run pins s σ H _ I h) fun u s1 ⟨x, H1, I1, rx, a, dx, fs, ex, ea, l, q⟩ => ?_) ht⟩
  subst ex
  obtain rfl : u = Value.ref a := rx
  refine getmeth_ok I1 ea c hm l (PySem.W.callWith_K (first := [.ref a]) (h₀ := X.base) I.ok.mod.kin hm.kp (thn (ha.run pos pins s1 σ H1 _ I1 q) fun us s2 ⟨vs, H2, I2, r, q2⟩ => ⟨I2.kIn, ?_⟩) hst hpl)
  exact run_fnS (us := .ref a :: us) (vs := .ref a :: vs) F hr hb (hx σ) I2 (.cons rfl r) q2
theorem pe_mS0 {pl : Sem Bool} (he : PE X o ta) (c : Cls X.K C) (hm : Meth X.K C m f) (F : FnOk X.prog X.w X.K X.mg X.base CX k f fd ps sp) (hr : Room k X.A) (hb : Binds X.K fd ps []) (hx : ∀ σ, PassesAt CX X σ (E σ))
    (ht : eval (.Call (.Attribute o m apos) [] [] pos) X.env = (do
      let ov ← eval o X.env
      standAt apos.atName
      let (f, first) ← holding [ov] (getMethod ov m pl)
      callWith pos f first (backTo pos (starEach [] X.env)) (backToKw pos (keywordEach [] X.env))) := by rfl) :
    PE X (.Call (.Attribute o m apos) [] [] pos) (tMS C m sp E ta tNil) := by
  refine ⟨fun pins s σ H Q I h => PySem.W.methodCall_KW (pl := pl) (thn (he.run pins s σ H _ I h) fun u s1 ⟨x, H1, I1, rx, a, dx, fs, ex, ea, l, q⟩ => ?_) ht⟩
  subst ex
  obtain rfl : u = Value.ref a := rx
  exact getmeth_ok I1 ea c hm l (PySem.W.callWith_K0 (first := [.ref a]) I1.kIn hm.kp (run_fnS (us := [.ref a]) (vs := [.ref a]) F hr hb (hx σ) I1 (.cons rfl .nil) q))
theorem run_newS {E : XK} {pins : List (Addr × Obj)} {σ : L2.St} {H : Hp} {s : Shared} {Q : VK} {us : List Value} {vs : List V} (M : Mk X.K C f) (F : FnOk X.prog X.w X.K X.mg X.base CX k f fd ps sp) (hr : Room (k + 1) X.A) (hb : Binds X.K fd ps [])
    (hx : PassesAt CX X σ E) (I : Inv X pins σ H s) (r : Vals vs us)
    (h : ∀ x dx, H x = none → H dx = none → dx ≠ x → sp (.ref x :: vs) (upd (upd H dx (.own x)) x (.ins C dx [])) (fun v H2 => v = .non ∧ Q (.ref x) H2) E) : wpAny (model X.prog X.w) X.A (call (.ref C) us) (EP X pins σ Q) X.xe s := by
  have nn := Nat.le_refl s.heap.objs.size
  have hq := h (s.heap.objs.size + 1) s.heap.objs.size (I.hok.fresh (Nat.le_succ _)) (I.hok.fresh nn) (Nat.ne_of_lt (Nat.lt_succ_self _))
  have I2 := Inv.made (C := C) I
  have r2 : Vals (V.ref (s.heap.objs.size + 1) :: vs) (Value.ref (s.heap.objs.size + 1) :: us) := .cons rfl r
  have hl : (Value.ref (s.heap.objs.size + 1) :: us).length = ps.length := r2.length.symm.trans (F.len _ _ _ _ hq)
  have b := hb _ (Value.ref (s.heap.objs.size + 1) :: us) I2.kIn (by rw [List.append_nil]; exact hl)
  rw [List.append_nil] at b
  have e0 := I2.env0.make C us []
  refine wpAny_call (make_map (f := f) I.kIn M.makes M.init (beq_iff_eq.mp M.fn) (codeAny_mono (F.run _ X.stack _ _ ⟨Value.ref (s.heap.objs.size + 1) :: us, []⟩ _ _ _ _ (hr.make C us []) e0 b r2 hq) fun r s' hq' => ?_))
  cases r with
  | error e => exact hx pins _ _ e s' I2 hq'
  | ok fl =>
    cases fl with
    | ret u =>
      obtain ⟨v, H', I3, rv, ev, q3⟩ := I2.after hq'
      subst ev
      exact ⟨rv, V.ref (s.heap.objs.size + 1), H', I3, rfl, q3⟩
    | next | brk | cont => exact False.elim hq'
theorem pe_newS (M : Mk X.K C f) (F : FnOk X.prog X.w X.K X.mg X.base CX k f fd ps sp) (hr : Room (k + 1) X.A) (hg : Gl X x) (hm : X.mg x = some (.ref C)) (hb : Binds X.K fd ps []) (hx : ∀ σ, PassesAt CX X σ (E σ))
    (ha : PA X (e :: es) t) (hdb : (x == ("__debug__" : Str)) = false := by decide) (he : starEach (e :: es) X.env = (false, eval e X.env) :: starEach es X.env := by rfl) (hpl : (backTo pos (starEach es X.env)).any (·.1) = false := by rfl) :
    PE X (.Call (.Name x p) (e :: es) [] pos) (tNewS C sp E t) :=
  ⟨fun pins s σ H Q I h => wpAny_Call_Name_kw (ld_glob I hg hm (PySem.W.callWith_K (h₀ := X.base) I.ok.mod.kin M.kp (thn (ha.run pos pins s σ H _ I h) fun us s1 ⟨vs, H1, I1, r, q⟩ => ⟨I1.kIn, run_newS M F hr hb (hx σ) I1 r q⟩) he hpl) hdb)⟩
end

/-! ### in an except suite: isinstance, fields -/
/-- its dict stands -/
def DOk (d : Option Addr) (H : Hp) : Prop := ∃ dd fs, d = some dd ∧ H dd = some (.xd fs)
/-- isinstance(e, c), e the exception in hand, by a table -/
def rIsX (tbl : List (Value × V × Bool)) (a : Addr) (cls : Value) (d : Option Addr) : List V → Hp → VK → Prop := fun xs H Q => (∃ c b, xs = [.ref a, c] ∧ (cls, c, b) ∈ tbl ∧ DOk d H ∧ Q (.bl b) H) ∨ rIsI xs H Q
structure IsOk (K : PySem.W.Frag) (cls : Value) (c : V) (b : Bool) : Prop where
  ex : ∃ (D : Addr) (cv : Value), cls = .ref D ∧ ExcC K D ∧ (∀ u, RelV c u → u = cv) ∧ PySem.W.kitOne K (.ref D) cv = some b
theorem c_isX {X : Cx} {a : Addr} {oe : Obj} {cls : Value} {d : Option Addr} {pn : List (Addr × Obj)} {tbl : List (Value × V × Bool)} (T : ∀ p ∈ tbl, IsOk X.K p.1 p.2.1 p.2.2) (hz : Zc cls d oe) (hf : ∃ vs, oe.data = .fields vs) :
    CallR (X.suite a ((a, oe) :: pn)) (.builtin "isinstance") (rIsX tbl a cls d) := by
  intro pins s σ H xs us Q I r h
  rcases h with ⟨c, b, rfl, m, ⟨dd, fs, ed, ea⟩, q⟩ | h
  · obtain ⟨D, cv, ec, C, hcv, e⟩ := (T _ m).ex
    cases r with
    | cons rx rr =>
      cases rr with
      | cons rt rr =>
        cases rr
        obtain rfl := hcv _ rt
        cases rx
        obtain ⟨vs, hv⟩ := hf
        have hget := (I.pin (a, oe) (List.mem_append_left _ List.mem_cons_self)).1
        have ho : ObjOk X.prog X.w H s.heap dd (.xd fs) := I.hok dd _ ea
        obtain ⟨mA, ⟨od, es, ep, ho, _⟩, _⟩ := ho
        have J : PySem.W.InstAt s.heap a oe D (some od) := ⟨hget, by rw [hz.1]; exact ec, by unfold PySem.W.notCls; rw [hv] <;> rfl, by rw [hz.2, ed]; exact ho⟩
        have hcl : (PySem.W.clsIn X.K D).isSome = true := by
          obtain ⟨cd, hc, _⟩ := PySem.W.any_some C.hd
          rw [hc]
          rfl
        exact PySem.W.kia_one (PySem.W.kitx_exc hcl C.hg C.hk C.hs C.ha C.hn C.ht C.hm) I.kIn J e (fun z => nomatch z) fun tk => ⟨.bl b, H, I.kept (t' := tk) fun _ _ z => z, rfl, q⟩
  · exact c_isi pins s σ H xs us Q I r h
/-- e.f, e the exception in hand -/
def eXf (a : Addr) (cls : Value) (d : Option Addr) (Cs : List Addr) (f : Str) (te : TE) : TE := fun σ H Q => te σ H fun x H1 => x = .ref a ∧ ∃ C, C ∈ Cs ∧ cls = .ref C ∧ ∃ (dd : Addr) (fs : List (Str × V)) (v : V), d = some dd ∧ H1 dd = some (.xd fs) ∧ fs.lookup f = some v ∧ Q v H1
structure XfOk (K : PySem.W.Frag) (C : Addr) (f : Str) : Prop where
  xf : XfC K C
  no : PySem.W.findIn K (.ref C) f = some none
theorem pe_eXf {X : Cx} {a : Addr} {oe : Obj} {cls : Value} {d : Option Addr} {pn : List (Addr × Obj)} {e : Expr} {te : TE} {pos : Pos} {n : Str} {Cs : List Addr} (T : ∀ C ∈ Cs, XfOk X.K C n) (hz : Zc cls d oe) (hf : ∃ vs, oe.data = .fields vs) (he : PE (X.suite a ((a, oe) :: pn)) e te)
    (hb : attributeBase e n X.env (eval e X.env) = eval e X.env := by rfl) : PE (X.suite a ((a, oe) :: pn)) (.Attribute e n pos) (eXf a cls d Cs n te) := by
  refine ⟨fun pins s σ H Q I h => attr_of hb (thn (he.run pins s σ H _ I h) fun u s1 hh => ?_)⟩
  obtain ⟨x, H1, I1, rx, rfl, C, hC, rfl, dd, fs, v, rfl, ea, l, q⟩ := hh
  obtain rfl : u = Value.ref a := rx
  have T1 := (T C hC).xf
  obtain ⟨ha, _⟩ := I1.pin (a, oe) (List.mem_append_left _ List.mem_cons_self)
  obtain ⟨vs, hd⟩ := hf
  obtain ⟨mA, hns, hr⟩ : ObjOk X.prog X.w H1 s1.heap dd (.xd fs) := I1.hok dd _ ea
  obtain ⟨od, ho, hl⟩ := lookIn_ns hns
  obtain ⟨u, hu, ru⟩ := RelO.some_of (v := v) (o := mA n) (by rw [← l]; exact hr n)
  have J : PySem.W.InstAt s1.heap a oe C (some od) := ⟨ha, hz.1, by unfold PySem.W.notCls; rw [hd] <;> rfl, by rw [hz.2]; exact ho⟩
  exact HandSPX.exc_get I1.kIn J T1.ga T1.gg T1.exC (PySem.W.findObj_own T1.hdC (T C hC).no rfl (by rw [hl, hu])) (handed_of ru) ⟨v, H1, I1.tok _, ru, q⟩

/-! ### a def of the text that says super(), by its body -/
structure FunS (P : Program) (K : PySem.W.Frag) (x qual : Str) (st : Stmt) (f : Addr) (fd : FuncData) (D : Addr) : Prop where
  ex : ∃ (oc cl ccl dV kV doc pm ct : Value) (od cld cdd an : Option Addr) (osl csl ccs : Array (Option Value)) (cda cc : Addr) (vs : Array Value) (file : Str) (tf : Tok) (cdD : ClassData),
    fd = ksFn x qual (defArgs st) (defBody st) (defScope st) dV kV doc pm an (.ref cda) ct cc ∧ K.lookup f = some ⟨oc, od, .func fd, osl⟩ ∧ PySem.W.codeIn K (.ref cda) qual = true ∧ K.lookup cc = some ⟨cl, cld, .cell (some (.ref D)), csl⟩ ∧
    K.lookup cda = some ⟨ccl, cdd, .fields vs, ccs⟩ ∧ vs[2]? = some (.str file tf) ∧ ((P.main.file : Str) == file) = true ∧ PySem.W.clsIn K D = some cdD
  kp : PySem.W.keepIn K (.ref f) = true
theorem FunS.ok {P : Program} {w : World} {K : PySem.W.Frag} {mg : Str → Option Value} {base : Heap} {x qual : Str} {st : Stmt} {f D : Addr} {fd : FuncData} {N ps : List Str} {k : Nat} {sp : Sp} {ar : Arg} (F : FunS P K x qual st f fd D) (S : FnScS N ps (defScope st))
    (ha : ((defArgs st).posonlyargs ++ (defArgs st).args).head? = some ar) (hka : (defScope st).names.lookup ar.arg = some .local) (hN : N[0]? = some ar.arg) (hks : (defScope st).names.lookup ("super" : Str) = some .globalImplicit) (hkc : (defScope st).names.lookup ("__class__" : Str) = some .free)
    (htop : (P.main.scope.names.lookup ("super" : Str)).isSome = false) (hmg : mg "super" = none) (len : ∀ vs H Q E, sp vs H Q E → vs.length = ps.length)
    (hbody : ∀ (cdv : Value) (cc : Addr) (A : Around) (outer : List Env) (s : Shared) (H : Hp) (vs : List V) (Q : VK) (E : XK), Room k (A.deeper (ksEnv qual (defScope st) s.heap.objs.size f cdv cc)) → SupT (cxS P w K mg base N qual (defScope st) f cdv cc A outer s H E) D → sp vs H Q E →
      ∃ t, PSsA (cxS P w K mg base N qual (defScope st) f cdv cc A outer s H E) (.func (defBody st) (ksEnv qual (defScope st) s.heap.objs.size f cdv cc)) (defBody st) t ∧ t { nx := fun _ H' => Q .non H', rt := Q } (L2.start N vs) H) :
    FnOk P w K mg base (L2.CX P w) (k + 1) f fd ps sp := by
  obtain ⟨oc, cl, ccl, dV, kV, doc, pm, ct, od, cld, cdd, an, osl, csl, ccs, cda, cc, vs, file, tf, cdD, e, lk, hcd, hcc, hcode, hv, hfile, hD⟩ := F.ex
  subst e
  refine fn_ofS lk hcd hcc S len fun A outer s H vs' Q E hr hsp => hbody (.ref cda) cc A outer s H vs' Q E hr ?_ hsp
  refine ⟨⟨f, cc, cda, _, ar, vs, file, tf, oc, ccl, cl, od, cdd, cld, osl, ccs, csl, cdD, rfl, lk, ha, rfl, hcode, hv, hfile, ?_, hcc, hD, hka, hN⟩, hks, hkc, htop, hmg⟩
  show List.lookup ("__class__" : Str) [(("__class__" : Str), cc)] = some cc
  simp [List.lookup]
/-- an error with one field -/
theorem ex1 {K : PySem.W.Frag} {Cs : List Addr} {D : Addr} {f m : Str} (h : ∀ C ∈ Cs, SupV K C D ∧ PySem.W.findIn K (.ref C) f = some none) {vs : List V} {H : Hp} {Q : VK} {E : XK} (q : spEx Cs [f] vs H Q E) {n x : Str} :
    tSeq (tDrop (tSupV K D (tCons (tC (.str m)) tNil))) (tOst K f (tVar 0) (tVar 1)) { nx := fun _ H' => Q .non H', rt := Q } (L2.start [n, x] vs) H := by
  obtain ⟨a, C, ys, hC, rfl, hl, ea, q⟩ := q
  obtain ⟨V, na⟩ := h C hC
  cases ys with
  | nil => cases hl
  | cons y ys =>
    cases ys with
    | cons _ _ => cases hl
    | nil => exact ⟨a, C, rfl, ea, V, (by show 1 ≤ 1000; decide), ea, y, rfl, .ref a, rfl, a, C, rfl, V.ex, na, .inl ⟨ea, fun dx hd hne => q dx hd hne⟩⟩
theorem spEx_len {Cs : List Addr} {fs : List Str} (vs : List V) (H : Hp) (Q : VK) (E : XK) (q : spEx Cs fs vs H Q E) : vs.length = fs.length + 1 := by
  obtain ⟨a, C, ys, _, rfl, hl, _⟩ := q
  rw [List.length_cons, hl]
theorem all_nil {α : Type} {p : α → Prop} : ∀ x ∈ ([] : List α), p x := fun _ h => nomatch h
theorem all_cons {α : Type} {p : α → Prop} {a : α} {l : List α} (h : p a) (t : ∀ x ∈ l, p x) : ∀ x ∈ a :: l, p x := fun x m => by
  rcases List.mem_cons.mp m with e | m
  · rw [e]; exact h
  · exact t x m
end Y

/-! Objects of several classes: dispatch, inherited members, super().m(..), defaults. -/
namespace Y
open PySem PySem.Spec PyProof.Rows L2
open PySem.W (ksEnv ksFn)

/-! ### a method, a field, a property by the object's class -/
structure MD (X : Cx) (m : Str) (k : Nat) (p : Addr × Sp) : Prop where
  ex : ∃ (f : Addr) (fd : FuncData) (ps : List Str), Cls X.K p.1 ∧ Meth X.K p.1 m f ∧ FnOk X.prog X.w X.K X.mg X.base (L2.CX X.prog X.w) k f fd ps p.2 ∧ Binds X.K fd ps []
structure PD (X : Cx) (f : Str) (k : Nat) (p : Addr × Sp) : Prop where
  ex : ∃ (pa g : Addr) (fd : FuncData) (ps : List Str), Cls X.K p.1 ∧ PropOf X.K p.1 f pa g ∧ FnOk X.prog X.w X.K X.mg X.base (L2.CX X.prog X.w) k g fd ps p.2 ∧ Binds X.K fd ps []
structure FD (K : PySem.W.Frag) (f : Str) (C : Addr) : Prop where
  c : Cls K C
  n : NoAttr K C f
def tMD (l : List (Addr × Sp)) (m : Str) (E : L2.St → XK) (ta : TE) (t : TA) : TE := fun σ H Q => ta σ H fun x H1 => ∃ a C dx fs sp, x = .ref a ∧ H1 a = some (.ins C dx fs) ∧ (C, sp) ∈ l ∧ fs.lookup m = none ∧ t σ H1 fun vs H2 => sp (x :: vs) H2 Q (E σ)
def eFldD (Cs : List Addr) (f : Str) (te : TE) : TE := fun σ H Q => te σ H fun x H1 => ∃ a C dx fs v, x = .ref a ∧ H1 a = some (.ins C dx fs) ∧ C ∈ Cs ∧ fs.lookup f = some v ∧ Q v H1
def sSetFD (Cs : List Addr) (f : Str) (te tv : TE) : TS := fun D σ H => tv σ H fun y H1 => te σ H1 fun x H2 => ∃ a C dx fs, x = .ref a ∧ H2 a = some (.ins C dx fs) ∧ C ∈ Cs ∧ fs.length < 1000 ∧ D.nx σ (upd H2 a (.ins C dx (putF f y fs)))
def sAugFD (Cs : List Addr) (f : Str) (te tv : TE) (rd : V → V → Hp → VK → Prop) : TS := fun D σ H => te σ H fun x H1 => ∃ a C dx fs v, x = .ref a ∧ H1 a = some (.ins C dx fs) ∧ C ∈ Cs ∧ fs.lookup f = some v ∧
  tv σ H1 fun y H2 => rd v y H2 fun z H3 => ∃ dx' fs', H3 a = some (.ins C dx' fs') ∧ fs'.length < 1000 ∧ D.nx σ (upd H3 a (.ins C dx' (putF f z fs')))
def ePropD (l : List (Addr × Sp)) (te : TE) : TE := fun σ H Q => te σ H fun x H1 => ∃ a C dx fs sp, x = .ref a ∧ H1 a = some (.ins C dx fs) ∧ (C, sp) ∈ l ∧ sp [.ref a] H1 Q E0
theorem pass_at {X : Cx} {CX : CXT} {E : XK} (hx : Passes CX X E) (σ : L2.St) : PassesAt CX X σ ((fun _ => E) σ) := fun pins H s e s' I c => hx pins σ H s e s' I c
section
variable {X : Cx} {k : Nat} {l : List (Addr × Sp)} {Cs : List Addr} {m f : Str} {E : L2.St → XK} {p pos pos' apos : Pos} {e ev o : Expr} {es : List Expr} {ta te tv : TE} {t : TA}
theorem pe_mD {pl : Sem Bool} (he : PE X o ta) (T : ∀ p ∈ l, MD X m k p) (hr : Room k X.A) (hx : ∀ σ, PassesAt (L2.CX X.prog X.w) X σ (E σ)) (ha : PA X (e :: es) t)
    (hst : starEach (e :: es) X.env = (false, eval e X.env) :: starEach es X.env := by rfl) (hpl : (backTo pos (starEach es X.env)).any (·.1) = false := by rfl)
    (ht : eval (.Call (.Attribute o m apos) (e :: es) [] pos) X.env = (do
      let ov ← eval o X.env
      standAt apos.atName
      let (f, first) ← holding [ov] (getMethod ov m pl)
      callWith pos f first (backTo pos (starEach (e :: es) X.env)) (backToKw pos (keywordEach [] X.env))) := by rfl) :
    PE X (.Call (.Attribute o m apos) (e :: es) [] pos) (tMD l m E ta t) := by
  refine ⟨fun pins s σ H Q I h => PySem.W.methodCall_KW (pl := pl) (thn (he.run pins s σ H _ I h) fun u s1 ⟨x, H1, I1, rx, a, C, dx, fs, sp, ex, ea, hC, l, q⟩ => ?_) ht⟩
  obtain ⟨f, fd, ps, c, hm, F, hb⟩ := (T _ hC).ex
  subst ex
  obtain rfl : u = Value.ref a := rx
  refine getmeth_ok I1 ea c hm l (PySem.W.callWith_K (first := [.ref a]) (h₀ := X.base) I.ok.mod.kin hm.kp (thn (ha.run pos pins s1 σ H1 _ I1 q) fun us s2 ⟨vs, H2, I2, r, q2⟩ => ⟨I2.kIn, ?_⟩) hst hpl)
  exact run_fnS (us := .ref a :: us) (vs := .ref a :: vs) F hr hb (hx σ) I2 (.cons rfl r) q2
theorem pe_mD0 {pl : Sem Bool} (he : PE X o ta) (T : ∀ p ∈ l, MD X m k p) (hr : Room k X.A) (hx : ∀ σ, PassesAt (L2.CX X.prog X.w) X σ (E σ))
    (ht : eval (.Call (.Attribute o m apos) [] [] pos) X.env = (do
      let ov ← eval o X.env
      standAt apos.atName
      let (f, first) ← holding [ov] (getMethod ov m pl)
      callWith pos f first (backTo pos (starEach [] X.env)) (backToKw pos (keywordEach [] X.env))) := by rfl) :
    PE X (.Call (.Attribute o m apos) [] [] pos) (tMD l m E ta tNil) := by
  refine ⟨fun pins s σ H Q I h => PySem.W.methodCall_KW (pl := pl) (thn (he.run pins s σ H _ I h) fun u s1 ⟨x, H1, I1, rx, a, C, dx, fs, sp, ex, ea, hC, l, q⟩ => ?_) ht⟩
  obtain ⟨f, fd, ps, c, hm, F, hb⟩ := (T _ hC).ex
  subst ex
  obtain rfl : u = Value.ref a := rx
  exact getmeth_ok I1 ea c hm l (PySem.W.callWith_K0 (first := [.ref a]) I1.kIn hm.kp (run_fnS (us := [.ref a]) (vs := [.ref a]) F hr hb (hx σ) I1 (.cons rfl .nil) q))
theorem pe_fldD (T : ∀ C ∈ Cs, FD X.K f C) (he : PE X e te) (hb : attributeBase e f X.env (eval e X.env) = eval e X.env := by rfl) : PE X (.Attribute e f pos) (eFldD Cs f te) :=
  pe_imp (pe_fld (pe_mo he) hb) fun σ H Q q => ⟨_, q, fun v H' ⟨a, C, dx, fs, w, e1, e2, hC, l, q⟩ => ⟨a, C, dx, fs, w, e1, e2, (T C hC).c, (T C hC).n, l, q⟩⟩
theorem ps_setFD (T : ∀ C ∈ Cs, FD X.K f C) (ha : PE X o te) (hv : PE X ev tv) (hs : swapsWith ev (some (.Attribute o f pos')) pos.line X.env = pure false := by rfl) : PS X (.Assign [.Attribute o f pos'] ev pos) (sSetFD Cs f te tv) :=
  ps_imp (ps_fld (pe_mo ha) (pe_mo hv) hs) fun D σ H q => ⟨_, q, fun y H1 q1 => ⟨_, q1, fun x H2 ⟨a, C, dx, fs, e1, e2, hC, l, q2⟩ => ⟨a, C, dx, fs, e1, e2, (T C hC).c, (T C hC).n, l, q2⟩⟩⟩
theorem ps_augFD {op : Operator} {rd : V → V → Hp → VK → Prop} (T : ∀ C ∈ Cs, FD X.K f C) (ha : PE X o te) (hv : PE X ev tv) (hop : InOp X op rd) : PS X (.AugAssign (.Attribute o f pos') op ev pos) (sAugFD Cs f te tv rd) :=
  ps_imp (ps_fldaug (pe_mo ha) (pe_mo hv) hop) fun D σ H q => ⟨_, q, fun x H1 ⟨a, C, dx, fs, v, e1, e2, hC, l, q2⟩ => ⟨a, C, dx, fs, v, e1, e2, (T C hC).c, (T C hC).n, l, ⟨_, q2, fun y H2 q3 => q3⟩⟩⟩
theorem pe_propD (he : PE X e te) (T : ∀ p ∈ l, PD X f k p) (hr : Room (k + 1) X.A) (hx : Passes (L2.CX X.prog X.w) X.nox E0) (hab : attributeBase e f X.env (eval e X.env) = eval e X.env := by rfl) : PE X (.Attribute e f pos) (ePropD l te) := by
  refine ⟨fun pins s σ H Q I h => attr_of hab (thn (he.run pins s σ H _ I h) fun u s1 ⟨x, H1, I1, rx, a, C, dx, fs, sp, ex, ea, hC, q⟩ => ?_)⟩
  obtain ⟨pa, g, fd, ps, c, hp, F, hb⟩ := (T _ hC).ex
  subst ex
  obtain rfl : u = Value.ref a := rx
  exact getprop_ok I1 ea c hp F hr hb .nil hx q
end

/-! ### super().m(..), m of an own class -/
structure SupM (K : PySem.W.Frag) (m : Str) (D f2 : Addr) (C : Addr) : Prop where
  opq : PySem.W.nsIn K PySem.cStatics "thirdparty.any" = some none
  fnd : PySem.W.ks_superIn K C D m = some (some (.ref f2))
  ty : PySem.W.typeIn K (.ref f2) = some (.type "function")
  fn : PySem.W.fnIn K f2 = true
  cls : (PySem.W.clsIn K C).isSome = true
  mro : PySem.W.mroIn K C (.ref D) = some true
def tSupM (Cs : List Addr) (sp : Sp) (E : XK) (t : TA) : TE := fun σ H Q => ∃ a C dx fs, σ[0]? = some (some (.ref a)) ∧ H a = some (.ins C dx fs) ∧ C ∈ Cs ∧ t σ H fun vs H1 => sp (.ref a :: vs) H1 Q E
section
variable {X : Cx} {D f2 : Addr} {Cs : List Addr} {m : Str} {k : Nat} {fd2 : FuncData} {ps2 : List Str} {sp : Sp} {E : XK} {body : List Stmt} {p0 p1 apos pos pos2 : Pos} {e : Expr} {es : List Expr} {ta : TA}
theorem psa_supM (T : SupT X D) (S : ∀ C ∈ Cs, SupM X.K m D f2 C) (F : FnOk X.prog X.w X.K X.mg X.base (L2.CX X.prog X.w) k f2 fd2 ps2 sp) (hr : Room k X.A) (hb : Binds X.K fd2 ps2 []) (hx : Passes (L2.CX X.prog X.w) X E) (ha : PA X (e :: es) ta) (hmc : (m == ("__class__" : Str)) = false := by decide) {pl : Sem Bool}
    (hc : eval (.Call (.Attribute (.Call (.Name "super" p0) [] [] p1) m apos) (e :: es) [] pos) X.env = (do
      let ov ← attributeBase (.Call (.Name "super" p0) [] [] p1) m X.env (eval (.Call (.Name "super" p0) [] [] p1) X.env)
      standAt apos.atName
      let (f, first) ← holding [ov] (getMethod ov m pl)
      callWith pos f first (backTo pos (starEach (e :: es) X.env)) []) := by rfl)
    (hi : interactive X.env = false := by rfl) (hs : swapsWith (.Call (.Attribute (.Call (.Name "super" p0) [] [] p1) m apos) (e :: es) [] pos) none pos2.line X.env = pure false := by rfl)
    (he : starEach (e :: es) X.env = (false, eval e X.env) :: starEach es X.env := by rfl) (hpl : (backTo pos (starEach es X.env)).any (·.1) = false := by rfl) :
    PSA X (.func body X.env) (.Expr (.Call (.Attribute (.Call (.Name "super" p0) [] [] p1) m apos) (e :: es) [] pos) pos2) (tDrop (tSupM Cs sp E ta)) := by
  refine ⟨fun pins s σ H K I h => ?_⟩
  obtain ⟨a, C, dx, fs, hσ, ea, hC, q⟩ := h
  obtain ⟨f, cc, cda, fd, ar, vs, file, tf, oc, ccl, cl, od, cdd, cld, osl, ccs, csl, cdD, z1, z2, z3, z4, z5, z6, z7, z8, z9, z10, z11, z12⟩ := T.ex
  obtain ⟨opq, fnd, ty, fnn, cls, mro⟩ := S C hC
  obtain ⟨mA, J0, _⟩ := ins_get I.hok ea
  obtain ⟨odx, J, _⟩ := J0.look
  obtain ⟨cd, hcl⟩ := Option.isSome_iff_exists.mp cls
  refine ks_wpAt_Expr_any (ks_wpAt_MethodCall (sup_base I T.ks T.kc hmc z1 z2 z3 z4 z5 z6 z7 T.top T.mg z8 z9 z10 z11 z12 hσ J mro fun h1 o1 k1 => ?_) hc) hi hs
  have KX : X.K.In h1 := I.kIn.keeps k1
  obtain ⟨hp, g, d, t, os⟩ := s
  obtain ⟨of, hof, hofc⟩ : ∃ of, h1.get? f2 = some of ∧ of.cls = .type "function" := by
    have ht' : (X.K.lookup f2).map (·.cls) = some (.type "function") := ty
    cases z : X.K.lookup f2 with
    | none => rw [z] at ht'; cases ht'
    | some of => rw [z] at ht'; exact ⟨of, KX _ _ z, Option.some.inj ht'⟩
  have hf := fnd
  unfold PySem.W.ks_superIn at hf
  rw [hcl] at hf
  refine ks_wpAny_getMethod_super o1 (PySem.W.looks_opaque KX opq) (l₀ := cd.mro) (fun A Q E s k q => wpAny_bind ((PySem.W.looks_clsIn KX hcl) A _ E s k (wpAny_pure q))) rfl KX hf hof hofc (PySem.W.ks_ne I.kIn J hcl) hmc ?_
  have kk : ∀ b o, hp.get? b = some o → (h1.push { cls := .type "method", data := .fields #[.ref f2, .ref a] }).get? b = some o := fun b o z => Heap.get?_push_of_some _ (k1 b o z)
  have hu : (h1.push { cls := .type "method", data := .fields #[.ref f2, .ref a] }).get? h1.objs.size = some { cls := .type "method", data := .fields #[.ref f2, .ref a] } := Heap.get?_push_at rfl rfl
  have szu : hp.objs.size ≤ h1.objs.size := Nat.le_of_lt (Heap.lt_size o1)
  have I2 : Inv X ((h1.objs.size, { cls := .type "method", data := .fields #[.ref f2, .ref a] }) :: pins) σ H ⟨h1.push { cls := .type "method", data := .fields #[.ref f2, .ref a] }, g, d, t + 1, os⟩ := by
    have z : Inv X pins σ H ⟨h1.push { cls := .type "method", data := .fields #[.ref f2, .ref a] }, g, d, t + 1, os⟩ := I.kept (t' := t + 1) kk
    refine z.pins_of fun p hp' => ?_
    rcases List.mem_cons.mp hp' with e | hp'
    · subst e
      have hl := I.lt
      refine ⟨hu, I.hok.fresh szu, fun y => ?_, I.nofs szu, fun v y => ?_⟩
      · have y : h1.objs.size = X.env.locals := y
        have hl : X.env.locals < hp.objs.size := hl
        rw [← y] at hl
        exact absurd (Nat.lt_of_lt_of_le hl szu) (Nat.lt_irrefl _)
      · cases y
    · exact z.pin p (List.mem_append_right _ hp')
  rw [he]
  refine PySem.W.callWith_of (P := PySem.W.MethP X.K h1.objs.size f2 (.ref a)) (by show ((false || (backTo pos (starEach es X.env)).any (·.1)) || false) = false; rw [hpl]; rfl) (PySem.W.keeps_M fnn) ?_
  have hsp := ha.run pos _ _ σ H _ I2 q
  rw [he] at hsp
  refine PySem.Calls.evalArgs_plain (wpAny_mono hsp (fun us s2 h2 => ?_) fun _ _ z => z)
  obtain ⟨ws, H2, I3, rw', q2⟩ := h2
  have pu := (I3.pin (h1.objs.size, { cls := .type "method", data := .fields #[.ref f2, .ref a] }) (List.mem_append_right _ List.mem_cons_self)).1
  refine ⟨⟨pu, I3.kIn⟩, ?_⟩
  have I4 : Inv X pins σ H2 s2 := I3.pins_of fun p hp' => I3.pin p (by
    rcases List.mem_append.mp (List.mem_append_right X.pn hp') with z | z
    · exact List.mem_append_left _ z
    · exact List.mem_append_right _ (List.mem_cons_of_mem _ z))
  have r2 : Vals (V.ref a :: ws) (Value.ref a :: us) := .cons rfl rw'
  have hl : (Value.ref a :: us).length = ps2.length := r2.length.symm.trans (F.len _ _ _ _ q2)
  have b := hb s2 (Value.ref a :: us) I4.kIn (by rw [List.append_nil]; exact hl)
  rw [List.append_nil] at b
  refine wpAny_call (PySem.W.method_call pu (codeAny_mono (F.run X.A X.stack s2 H2 ⟨Value.ref a :: us, []⟩ (Value.ref a :: us) _ _ E hr I4.env0 b r2 q2) fun r s' hq => ?_))
  cases r with
  | error e => exact hx pins σ H2 s2 e s' I4 hq
  | ok fl =>
    cases fl with
    | ret u =>
      obtain ⟨v, H3, I5, rv, q3⟩ := I4.after hq
      exact ⟨σ, H3, I5, q3⟩
    | next | brk | cont => exact False.elim hq
end

/-! ### a def that says super(), by its body; defaults -/
theorem ok_bodyS {P : Program} {w : World} {K : PySem.W.Frag} {mg : Str → Option Value} {base : Heap} {x qual : Str} {st : Stmt} {f D : Addr} {fd : FuncData} {N ps : List Str} {n m k : Nat} {t : XK → TS} {ar : Arg} (F : FunS P K x qual st f fd D) (S : FnScS N ps (defScope st)) (hn : N.length = n) (hm : ps.length = m)
    (ha : ((defArgs st).posonlyargs ++ (defArgs st).args).head? = some ar) (hka : (defScope st).names.lookup ar.arg = some .local) (hN : N[0]? = some ar.arg) (hks : (defScope st).names.lookup ("super" : Str) = some .globalImplicit) (hkc : (defScope st).names.lookup ("__class__" : Str) = some .free)
    (htop : (P.main.scope.names.lookup ("super" : Str)).isSome = false) (hmg : mg "super" = none)
    (h : ∀ (cdv : Value) (cc : Addr) (A : Around) (outer : List Env) (s : Shared) (H : Hp) (E : XK), Room k (A.deeper (ksEnv qual (defScope st) s.heap.objs.size f cdv cc)) → SupT (cxS P w K mg base N qual (defScope st) f cdv cc A outer s H E) D →
      PSsA (cxS P w K mg base N qual (defScope st) f cdv cc A outer s H E) (.func (defBody st) (ksEnv qual (defScope st) s.heap.objs.size f cdv cc)) (defBody st) (t E)) :
    FnOk P w K mg base (L2.CX P w) (k + 1) f fd ps (spB n m t) := by
  subst hn
  subst hm
  exact F.ok S ha hka hN hks hkc htop hmg (fun vs H Q E q => q.1) fun cdv cc A outer s H vs Q E hr T q => ⟨t E, h cdv cc A outer s H E hr T, q.2⟩
theorem passS {P : Program} {w : World} {K : PySem.W.Frag} {mg : Str → Option Value} {base : Heap} {N : List Str} {qual : Str} {scope : Scope} {f cc : Addr} {cd : Value} {A : Around} {outer : List Env} {s : Shared} {H : Hp} {E : XK} :
    Passes (L2.CX P w) (cxS P w K mg base N qual scope f cd cc A outer s H E) E := passes_call (takes_of rfl rfl rfl rfl) fun _ _ _ _ h => h
/-- n values are written, the others are the defaults ds -/
theorem binds_dfl {K : PySem.W.Frag} {fd : FuncData} {ps : List Str} {T : Addr} {o : Obj} {its : Array Value} {n j : Nat} {ds : List Value} (lT : K.lookup T = some o) (oT : o.data = .seq its j) (hn : n + ds.length = ps.length)
    (h : ∀ us : List Value, us.length = n → ∃ k, bindArgs fd ⟨us, []⟩ = seqItems? (.ref T) >>= k ∧ k (some its) = pure (ps.zip (us ++ ds))) : Binds K fd ps ds := fun s us X hl => by
  have l2 : us.length = n := by
    rw [List.length_append] at hl
    omega
  obtain ⟨k, e1, e2⟩ := h us l2
  refine BindsTo.of_looks fun M => ?_
  rw [e1]
  exact looks_items X lT oT (.of_pure e2)

/-! ### tables, from the text's facts -/
theorem md_mk {X : Cx} {m : Str} {k k' : Nat} {C f : Addr} {fd : FuncData} {ps : List Str} {sp : Sp} (c : Cls X.K C) (hm : Meth X.K C m f) (F : FnOk X.prog X.w X.K X.mg X.base (L2.CX X.prog X.w) k' f fd ps sp) (hk : k' ≤ k) (hb : Binds X.K fd ps []) : MD X m k (C, sp) :=
  ⟨f, fd, ps, c, hm, F.mono hk, hb⟩
theorem pd_mk {X : Cx} {m : Str} {k k' : Nat} {C f : Addr} {fd : FuncData} {ps : List Str} {sp : Sp} (c : Cls X.K C) (hp : ∃ pa, PropOf X.K C m pa f) (F : FnOk X.prog X.w X.K X.mg X.base (L2.CX X.prog X.w) k' f fd ps sp) (hk : k' ≤ k) (hb : Binds X.K fd ps []) : PD X m k (C, sp) := by
  obtain ⟨pa, hp⟩ := hp
  exact ⟨pa, f, fd, ps, c, hp, F.mono hk, hb⟩
theorem fd_mk {K : PySem.W.Frag} {f : Str} {C : Addr} (c : Cls K C) (n : NoAttr K C f) : FD K f C := ⟨c, n⟩
theorem cls_some {K : PySem.W.Frag} {C : Addr} (h : PySem.W.hasDictIn K C = true) : (PySem.W.clsIn K C).isSome = true := by
  obtain ⟨cd, hc, _⟩ := PySem.W.any_some h
  rw [hc]
  rfl
theorem funS_mk {P : Program} {K : PySem.W.Frag} {x qual : Str} {st : Stmt} {f D cc cda : Addr} {oc cl ccl dV kV doc pm ct : Value} {od cld cdd an : Option Addr} {osl csl ccs : Array (Option Value)} {vs : Array Value} {file : Str} {tf : Tok}
    (lk : K.lookup f = some ⟨oc, od, .func (ksFn x qual (defArgs st) (defBody st) (defScope st) dV kV doc pm an (.ref cda) ct cc), osl⟩) (hc : PySem.W.codeIn K (.ref cda) qual = true) (hcc : K.lookup cc = some ⟨cl, cld, .cell (some (.ref D)), csl⟩)
    (hcode : K.lookup cda = some ⟨ccl, cdd, .fields vs, ccs⟩) (hv : vs[2]? = some (.str file tf)) (hf : ((P.main.file : Str) == file) = true) (hd : PySem.W.hasDictIn K D = true) (kp : PySem.W.keepIn K (.ref f) = true) :
    FunS P K x qual st f (ksFn x qual (defArgs st) (defBody st) (defScope st) dV kV doc pm an (.ref cda) ct cc) D := by
  obtain ⟨cd, hcl⟩ := Option.isSome_iff_exists.mp (cls_some hd)
  exact ⟨⟨oc, cl, ccl, dV, kV, doc, pm, ct, od, cld, cdd, an, osl, csl, ccs, cda, cc, vs, file, tf, cd, rfl, lk, hc, hcc, hcode, hv, hf, hcl⟩, kp⟩

/-! ### o[i] += e -/
def rGetL : V → V → Hp → VK → Prop := fun x y H Q => ∃ p xs i v, x = .ref p ∧ y = .int i ∧ H p = some (.lst xs) ∧ atI xs i = some v ∧ Q v H
theorem get_listI {X : Cx} : PGet X rGetL := by
  intro pins s σ H x y v u Q I rx ry h
  obtain ⟨p, xs, i, z, rfl, rfl, hq, he, q⟩ := h
  cases rx
  obtain ⟨t, rfl⟩ := ry
  obtain ⟨its, r, pl, hz⟩ := I.list (sqL (S := SK X.K) rfl (.inl (.inl hq)))
  obtain ⟨j, h1, h2, h3, h4, h5⟩ := atI_get he
  obtain ⟨w, ew, rw'⟩ := r.get h2
  have hl := r.length
  have hn := line63
  have fin : EP X pins σ Q w s := ⟨z, H, I, rw', q⟩
  by_cases h0 : 0 ≤ i
  · have hj : i.toNat = j := by
      rw [seqIndex_of h0 h5] at h1
      exact Option.some.inj h1
    exact wpAny_getItem_list pl.isList h0 (by omega) (by rw [hj]; simpa using ew) fin
  · have hj : (i + (its.toArray.size : Int)).toNat = j := by
      rw [seqIndex_neg (by omega) h4] at h1
      rw [List.size_toArray, ← hl]
      exact Option.some.inj h1
    exact wpAny_getItem_list_neg pl.isList (by omega) (by rw [List.size_toArray] <;> omega) (by omega) (by rw [hj]; simpa using ew) fin
theorem ps_augSI {X : Cx} {o i e : Expr} {to ti te : TE} {tip : TIp} {op : Operator} {pos tpos : Pos} (ho : PE X o to) (hi : PE X i ti) (he : PE X e te) (hp : PIp X op tip)
    (ha : ∀ ov iv new, augStore i ov iv new = (do holding [new, ov, iv] (setItem ov iv new); release [new, ov, iv] []; pure .next) := by intros; rfl) : PS X (.AugAssign (.Subscript o i tpos) op e pos) (tAugS to ti te rGetL tip rSetL) := ps_augS ho hi get_listI he hp set_list ha
end Y

/-! enumerate over a list or a tuple; isinstance with a tuple of types; insert; messages that are f-strings. -/
namespace Y
open PySem PySem.Spec PyProof.Rows L2

section
open Builtin
theorem meets_enum1 {v : Value} {o : Obj} {H : Heap → Prop} (B : Begins v o H) :
    Meets (Builtin.«enumerate.__new__» ⟨[.type "enumerate", v], []⟩) (fun _ R s => H s.heap ∧
      R (.ok (.ret (.ref (s.heap.push o).objs.size))) { s with heap := (s.heap.push o).push { cls := .type "enumerate", data := .fields #[.none, .bool false, .ref s.heap.objs.size, rawInt 0, .none, .none] } }) :=
  .of_wp fun prog w A R s h => by
    obtain ⟨hp, g, d, tk, os⟩ := s
    obtain ⟨h1, h⟩ := h
    have hsub := sub_enumerate
    have q1 : ∀ {A' : Around} {E : Value → Shared → Prop} {Q : Value → Shared → Prop}, Q (.ref hp.objs.size) ⟨hp.push o, g, d, tk, os⟩ → wpAny (model prog w) A' (pyIter v) Q E ⟨hp, g, d, tk, os⟩ :=
      fun q => B.iter prog w _ _ ⟨hp, g, d, tk, os⟩ _ h1 q
    wp_walk using q1
    refine wpAny_stack_any fun st => wpAny_pure ?_
    split
    · rename_i c _ _ _ _ _
      cases (c == Value.type "enumerate")
      · wp_walk using q1
        exact ⟨_, rfl, h⟩
      · wp_walk using q1
        exact ⟨_, rfl, h⟩
    · wp_walk using q1
      exact ⟨_, rfl, h⟩
end
theorem enum1_begins {prog : Program} {w : World} {A : Around} {E : Value → Shared → Prop} {s : Shared} {v : Value} {o : Obj} {H : Heap → Prop} {Q : Value → Shared → Prop} (B : Begins v o H) (h1 : H s.heap)
    (h : ∀ h', IsEnum h' (s.heap.objs.size + 1) s.heap.objs.size 0 .none → h'.get? s.heap.objs.size = some o → h'.objs.size = s.heap.objs.size + 2 →
      (∀ b o, s.heap.get? b = some o → h'.get? b = some o) → Q (.ref (s.heap.objs.size + 1)) { s with heap := h' }) :
    wpAny (model prog w) A (call (.type "enumerate") [v]) Q E s := by
  refine callType_new F.called_enumerate (by decide) (F.typeCall_enumerate_1 _) (F.newCall_enumerate_1 _) (fun obj => F.args_object_init_2 obj _) F.entry_enumerate_new
    (meets_enum1 B) ⟨h1, ?_⟩
  have hz : (s.heap.push o).objs.size = s.heap.objs.size + 1 := Heap.size_push ..
  show _ ∧ _
  rw [hz]
  have he : IsEnum ((s.heap.push o).push { cls := .type "enumerate", data := .fields #[.none, .bool false, .ref s.heap.objs.size, rawInt 0, .none, .none] }) (s.heap.objs.size + 1) s.heap.objs.size 0 .none := by
    have := Heap.get?_push_size (s.heap.push o) (o := { cls := .type "enumerate", data := .fields #[.none, .bool false, .ref s.heap.objs.size, rawInt 0, .none, .none] }) rfl
    rw [hz] at this
    exact this
  exact ⟨⟨_, he, rfl⟩, h _ he (Heap.get?_push_of_some _ (Heap.get?_push_size _ B.free)) (by rw [Heap.size_push, hz]) fun b o x => Heap.get?_push_of_some _ (Heap.get?_push_of_some _ x)⟩
def IteT (K : PySem.W.Frag) (a : Addr) : It :=
  ⟨fun i H => ∃ (xs : List V) (x : V), SqT K H a xs ∧ xs[i]? = some x, fun i H v H' => ∃ T x, v = .ref T ∧ H T = none ∧ H' = upd H T (.tup [.int (i : Nat), x]) ∧ ∀ xs, SqT K H a xs → xs[i]? = some x, fun i H => ∃ xs : List V, SqT K H a xs ∧ xs.length = i⟩
theorem turn_enumT {P : Program} {w : World} {K : PySem.W.Frag} {elts : List Expr} {kk : Nat} {tpos : Pos} (a e it : Addr) :
    Turn P w K (.Tuple elts kk tpos) (IteT K a) [e, it] e (fun i h => (∃ old, IsEnum h e it ((i : Nat) : Int) old) ∧ h.IsTupleIter it a i ∧ e ≠ it ∧ a ≠ it ∧ e ≠ a) where
  mem := by simp
  obj := fun i h st b hb => by
    obtain ⟨⟨old, he⟩, ⟨o, ho, hc, hd⟩, _⟩ := st
    have e' : b = e ∨ b = it := by simpa using hb
    rcases e' with z | z
    · rw [z]; exact ⟨_, he, fun v q => nomatch q⟩
    · rw [z]; exact ⟨o, ho, fun v q => by rw [hd] at q; cases q⟩
  keep := fun i h h' st k => by
    obtain ⟨⟨old, he⟩, ⟨o, ho, hc, hd⟩, hne⟩ := st
    exact ⟨⟨old, k e (by simp) _ he⟩, ⟨o, k it (by simp) o ho, hc, hd⟩, hne⟩
  item := by
    intro X hP hw hK hc i pins s σ H E I hf st hg
    subst hP hw hK
    obtain ⟨⟨old, he⟩, hit, hne, hna, hea⟩ := st
    obtain ⟨xs, x, hq, hx⟩ := hg
    obtain ⟨its, rv, p, hz⟩ := I.tuple hq
    have hi : i < xs.length := (List.getElem?_eq_some_iff.mp hx).1
    have hl := rv.length
    have hel : e < s.heap.objs.size := Heap.lt_size he
    have hil : it < s.heap.objs.size := by obtain ⟨_, q, _⟩ := hit; exact Heap.lt_size q
    have D := Draws.tuple (prog := X.prog) (w := X.w) (A := X.A.in1) (I.ok.hd hc) it a hna its.toArray
    refine wpAny_pyNext_enum_itemD D he ⟨hit, p⟩ (by rw [List.size_toArray]; omega) hne (by simp [hne, hea]) fun u h' tk hu ho hst hT hsz hk => ?_
    have ru : RelV x u := by
      obtain ⟨u', hu', ru⟩ := rv.get hx
      have hu2 : its[i]? = some u := by simpa using hu
      rw [hu'] at hu2
      cases hu2
      exact ru
    refine ⟨_, rfl, wpAny_letOwnedTupleGo_enum (s := { s with heap := h', toks := tk + 1 }) ho fun h'' he' sb => ?_⟩
    have hT2 : h''.get? s.heap.objs.size = some { cls := .type "tuple", data := .seq #[.int i tk, u] } := (sb.2 _ (Nat.ne_of_gt hel)).trans hT
    have new : ObjOk X.prog X.w (upd H s.heap.objs.size (.tup [.int (i : Nat), x])) h'' s.heap.objs.size (.tup [.int (i : Nat), x]) :=
      ⟨by show 2 ≤ sizeLine; decide, [.int i tk, u], .cons ⟨_, rfl⟩ (.cons ru .nil), ⟨_, hT2, rfl, _, rfl⟩⟩
    have I1 : Inv X pins σ (upd H s.heap.objs.size (.tup [.int (i : Nat), x])) { s with heap := h'', toks := tk + 1 } :=
      I.turnedNew (ch := [e, it]) (fun b ob hb q => (sb.2 b (fun z => hb (by simp [z]))).trans (hk b ob (fun z => hb (by simp [z])) (fun z => hb (by simp [z])) q)) hf (Nat.le_refl _) new
    refine ⟨.ref s.heap.objs.size, _, I1, rfl, ⟨_, x, rfl, I.hok.fresh (Nat.le_refl _), rfl, fun ys hy => by rw [I.tuple_inj hy hq]; exact hx⟩, ⟨⟨u, ?_⟩, ?_, hne, hna, hea⟩, fun b hb => ?_⟩
    · have e1 : ((i + 1 : Nat) : Int) = (i : Int) + 1 := by omega
      rw [e1]; exact he'
    · obtain ⟨o, ho1, ho2, ho3⟩ := hst.1
      exact ⟨o, (sb.2 it (Ne.symm hne)).trans ho1, ho2, ho3⟩
    · have hb' : b < s.heap.objs.size := by
        have e' : b = e ∨ b = it := by simpa using hb
        rcases e' with z | z
        · rw [z]; exact hel
        · rw [z]; exact hil
      rw [upd_ne (Nat.ne_of_lt hb')]
      exact (hf b hb).1
  done := by
    intro X hP hw hK hc i pins s σ H E I hf st hg
    subst hP hw hK
    obtain ⟨⟨old, he⟩, hit, hne, hna, hea⟩ := st
    obtain ⟨xs, hq, hx⟩ := hg
    obtain ⟨its, rv, p, hz⟩ := I.tuple hq
    obtain ⟨f0, f1, f2, f3, f4, f5⟩ := hf it (by simp)
    have hl := rv.length
    have D := Draws.tuple (prog := X.prog) (w := X.w) (A := X.A.in1) (I.ok.hd hc) it a hna its.toArray
    have hn : its.toArray.size = i := by rw [List.size_toArray]; omega
    exact wpAny_pyNext_enum_endD D he (by rw [hn]; exact ⟨hit, p⟩) fun h' eb => ⟨rfl, I.turned (t' := s.toks) (fun b o hb q => eb b o hb q) f0 f1 f3 f4 f5⟩
  self := fun A i s Q E st h => let ⟨⟨_, he⟩, _⟩ := st; wpAny_pyIter_enum he h
/-- enumerate(e), e a list or a tuple -/
def iEn (K : PySem.W.Frag) (te : TE) : TI := fun σ H R => te σ H fun x H1 => ∃ a, x = .ref a ∧ (((∃ xs, SqL K H1 a xs) ∧ R (Ite K a) H1) ∨ ((∃ xs, SqT K H1 a xs) ∧ R (IteT K a) H1))
theorem pi_en {X : Cx} {e : Expr} {te : TE} {p pos tpos : Pos} {elts : List Expr} {kk : Nat} (hg : Gl X "enumerate") (hm : X.mg "enumerate" = none) (he : PE X e te) (hs : starEach [e] X.env = (false, eval e X.env) :: starEach [] X.env := by rfl) (hs2 : starEach [e] X.env = [(false, eval e X.env)] := by rfl) :
    PI X (.Tuple elts kk tpos) (.Call (.Name "enumerate" p) [e] [] pos) (iEn X.K te) := by
  refine ⟨fun pins s σ H R I h => ?_⟩
  refine Call_ (ld_blt I hg hm boot_enumerate (PyProof.Rows.callWith_type1 (thn ((pa_cons (pe_mo he) pa_nil hs).run pos pins s σ H (fun vs H1 => ∃ x, vs = [x] ∧ ∃ a, x = .ref a ∧ (((∃ xs, SqL X.K H1 a xs) ∧ R (Ite X.K a) H1) ∨ ((∃ xs, SqT X.K H1 a xs) ∧ R (IteT X.K a) H1))) I ⟨_, h, fun v H' q => ⟨v, rfl, q⟩⟩) fun us s1 ⟨vs, H1, I1, r1, q1⟩ => ?_) hs2 rfl))
  obtain ⟨x, rfl, a, rfl, q⟩ := q1
  cases r1 with
  | cons r rr =>
    cases rr
    cases r
    have fp : ∀ {b : Addr}, b ∈ [s1.heap.objs.size + 1, s1.heap.objs.size] → FpOk X pins H1 b := fun {b} hb => by
      have e' : b = s1.heap.objs.size + 1 ∨ b = s1.heap.objs.size := by simpa using hb
      have hle : s1.heap.objs.size ≤ b := by
        rcases e' with z | z
        · rw [z]; exact Nat.le_add_right _ _
        · rw [z]; exact Nat.le_refl _
      exact I1.fpOk hle (I1.hok.fresh hle)
    rcases q with ⟨⟨xs, hq⟩, q⟩ | ⟨⟨xs, hq⟩, q⟩
    · obtain ⟨its, rv, p', hz⟩ := I1.list hq
      refine call_enumerate_list p'.isList fun h' he hit hsz hk => wpAny_pyIter_enum he ?_
      have I2 : Inv X pins σ H1 { s1 with heap := h' } := I1.kept (t' := s1.toks) hk
      exact ⟨s1.heap.objs.size + 1, [s1.heap.objs.size + 1, s1.heap.objs.size], _, _, H1, rfl, I2, turn_enum a (s1.heap.objs.size + 1) s1.heap.objs.size, ⟨⟨.none, he⟩, hit, Nat.succ_ne_self _⟩, fun b hb => fp hb, q⟩
    · obtain ⟨its, rv, p', hz⟩ := I1.tuple hq
      have pT : s1.heap.IsTuple a its.toArray := p'
      have hal : a < s1.heap.objs.size := by obtain ⟨o, ho, _⟩ := pT; exact Heap.lt_size ho
      refine enum1_begins (begins_tuple a its.toArray) pT fun h' he hit hsz hk => wpAny_pyIter_enum he ?_
      have I2 : Inv X pins σ H1 { s1 with heap := h' } := I1.kept (t' := s1.toks) hk
      exact ⟨s1.heap.objs.size + 1, [s1.heap.objs.size + 1, s1.heap.objs.size], _, _, H1, rfl, I2, turn_enumT a (s1.heap.objs.size + 1) s1.heap.objs.size, ⟨⟨.none, he⟩, ⟨_, hit, rfl, rfl⟩, Nat.succ_ne_self _, Nat.ne_of_lt hal, Nat.ne_of_gt (Nat.lt_succ_of_lt hal)⟩, fun b hb => fp hb, q⟩
theorem walk_enumT {K : PySem.W.Frag} {a : Addr} {xs : List V} : Walk (IteT K a) xs.length (fun H => SqT K H a xs) (YPair (fun i => some (.int (i : Nat))) (fun i => xs[i]?)) := by
  refine ⟨fun i _ hi q => ⟨xs, xs[i], q, by simp [hi]⟩, fun _ q => ⟨xs, q, rfl⟩, fun i H v H' _ q y => ?_⟩
  obtain ⟨T, x, h1, h2, h3, h4⟩ := y
  exact ⟨T, .int (i : Nat), x, h1, h2, h3, rfl, h4 xs q⟩
/-- the turns of for i, x in enumerate(p); the pair itself is a new tuple -/
def EnS (S : Sta) (gi gj : TG) (s1 : TS) (nx : L2.St → Hp → Prop) (rt : VK) (x : V) (σ : L2.St) (H : Hp) : Prop := ∃ p xs, x = .ref p ∧ ∃ Pv : Nat → L2.St → Hp → Prop, Pv 0 σ H ∧ Stays S p xs (fun i H => ∃ σ, Pv i σ H) ∧
  (∀ (i : Nat) y σ H T, xs[i]? = some y → Pv i σ H → H T = none → gi (.int (i : Int)) σ (upd H T (.tup [.int (i : Int), y])) fun σ' H' => gj y σ' H' fun σ2 H2 => s1 ⟨Pv (i + 1), rt, nx, Pv (i + 1)⟩ σ2 H2) ∧ ∀ σ H, Pv xs.length σ H → nx σ H
def sForEn (S : Sta) (te : TE) (gi gj : TG) (tb : TS) : TS := fun D σ H => te σ H fun x H1 => EnS S gi gj tb D.nx D.rt x σ H1
theorem gpair {gj : TG} {z : V} {Q : L2.St → Hp → Prop} : (fun σ' H' => gCons gj gNil [z] σ' H' Q) = fun σ' H' => gj z σ' H' Q := by
  funext σ' H'
  have e : (fun σ2 H2 => gNil [] σ2 H2 Q) = Q := by
    funext σ2 H2
    exact propext ⟨And.right, fun h => ⟨rfl, h⟩⟩
  refine propext ⟨fun ⟨v, r, e1, h⟩ => ?_, fun h => ⟨z, [], rfl, ?_⟩⟩
  · cases e1
    rw [e] at h
    exact h
  · rw [e]
    exact h
theorem ps_forEn {X : Cx} {S : Sta} {e ea eb : Expr} {te : TE} {gi gj : TG} {tb : TS} {body : List Stmt} {pos p pos2 tpos : Pos} {kk : Nat} (st : S = SK X.K) (hp : PassesOwn (model X.prog X.w) X.A X.env X.xe) (hc : X.calm = true) (hgl : Gl X "enumerate") (hm : X.mg "enumerate" = none) (he : PE X e te)
    (hgi : PG X ea gi) (hgj : PG X eb gj) (hb : PSs X body tb) (hs : starEach [e] X.env = (false, eval e X.env) :: starEach [] X.env := by rfl) (hs2 : starEach [e] X.env = [(false, eval e X.env)] := by rfl)
    (hs' : ∀ x, foldedSetIterable (.Call (.Name "enumerate" p) [e] [] pos2) X.env x = pure x := by intro _; rfl)
    (h1 : (assignEach [ea, eb] X.env).map (·.2) = assign ea X.env :: (assignEach [eb] X.env).map (·.2) := by rfl) (h2 : (assignEach [eb] X.env).map (·.2) = assign eb X.env :: (assignEach [] X.env).map (·.2) := by rfl)
    (h3 : (assignEach [ea, eb] X.env).length = 2 := by rfl) (h4 : (assignEach [ea, eb] X.env).findIdx? (·.1) = none := by rfl) :
    PS X (.For (.Tuple [ea, eb] kk tpos) (.Call (.Name "enumerate" p) [e] [] pos2) body [] pos) (sForEn S te gi gj tb) :=
  ps_imp (ps_for hp hc (pi_en hgl hm (pe_mo he) hs hs2) (pg_tup hc (pgs_cons hgi (pgs_cons hgj pgs_nil h2) h1) h3 h4) hb hs') fun D σ H q => ⟨_, q, fun x H1 ⟨a, xs, e, Pv, h0, hst, ht, hd⟩ => by
    refine ⟨a, e, ?_⟩
    have tn : ∀ (i : Nat) x σ H H', i < xs.length → Pv i σ H → YPair (fun i => some (.int (i : Nat))) (fun i => xs[i]?) i H x H' → gTup X.K 2 (gCons gi (gCons gj gNil)) x σ H' fun σ2 H2 => tb { D with nx := Pv (i + 1), ct := Pv (i + 1), bk := D.nx } σ2 H2 := by
      rintro i x σ H H' hi p ⟨T, y, z, rfl, hT, rfl, h5, h6⟩
      have e5 : V.int (i : Nat) = y := by injection h5
      subst e5
      exact ⟨T, [.int (i : Nat), z], rfl, .inl (.inl upd_same), rfl, .int (i : Nat), [z], rfl, by
        have h := ht i z σ H T h6 p hT
        rw [← gpair] at h
        exact h⟩
    rcases hst with z | z
    · exact .inl ⟨⟨xs, sqL st (z 0 H1 (Nat.zero_le _) ⟨σ, h0⟩)⟩, for_it walk_enum Pv h0 (fun i σ H hi p => sqL st (z i H hi ⟨σ, p⟩)) tn hd⟩
    · exact .inr ⟨⟨xs, sqT st (z 0 H1 (Nat.zero_le _) ⟨σ, h0⟩)⟩, for_it walk_enumT Pv h0 (fun i σ H hi p => sqT st (z i H hi ⟨σ, p⟩)) tn hd⟩⟩
/-! ### isinstance(x, (T1, T2, ..)) of built-in types -/
inductive Tys : List V → List String → Prop
  | nil : Tys [] []
  | cons {n : String} {vs : List V} {ns : List String} (h : Tys vs ns) : Tys (.ty n :: vs) (n :: ns)
def rIsT : List V → Hp → VK → Prop := fun xs H Q => ∃ x p vs ns t, xs = [x, .ref p] ∧ H p = some (.tup vs) ∧ Tys vs ns ∧ TyN H x t ∧ (∀ n ∈ ns, kitB t n = some (isA t n)) ∧ Q (.bl (ns.any (isA t))) H
theorem Tys.cls : ∀ {vs : List V} {ns : List String}, Tys vs ns → Paired ClsV vs (ns.map Value.type)
  | _, _, .nil => .nil
  | _, _, .cons h => .cons (.ty _) h.cls
theorem kit_any {K : PySem.W.Frag} {t : String} : ∀ {ns : List String}, (∀ n ∈ ns, kitB t n = some (isA t n)) → PySem.W.kitAny K (.type t) (ns.map Value.type) = some (ns.any (isA t))
  | [], _ => rfl
  | n :: ns, h => by
    have h1 := kit_ty (K := K) (h n List.mem_cons_self)
    have h2 := kit_any (K := K) (ns := ns) fun m hm => h m (List.mem_cons_of_mem _ hm)
    refine kitAny_cons h1 (fun hb => ?_) fun hb => ?_
    · rw [h2, List.any_cons, hb, Bool.false_or]
    · rw [List.any_cons, hb, Bool.true_or]
theorem c_isT {X : Cx} : CallR X (.builtin "isinstance") rIsT := call_imp call_isiT fun xs H Q q => by
  obtain ⟨x, p, vs, ns, t, e, h, k, ty, ha, q⟩ := q
  exact ⟨x, p, vs, .type t, ns.map Value.type, ns.any (isA t), e, h, k.cls, ty.x, kit_any ha, q⟩

/-! ### xs.insert(i, y) -/
def rIns : V → List V → Hp → VK → Prop := fun x vs H Q => ∃ (l : Addr) (xs : List V) (i : Int) (y : V), x = .ref l ∧ vs = [.int i, y] ∧ H l = some (.lst xs) ∧ xs.length < sizeLine ∧ 0 ≤ i ∧ i < 2 ^ 63 ∧ Q .non (upd H l (.lst (xs.take i.toNat ++ [y] ++ xs.drop i.toNat)))
def eIns (te : TE) (ta : TA) : TE := fun σ H Q => te σ H fun x H1 => ∃ l, x = .ref l ∧ (∃ xs, H1 l = some (.lst xs)) ∧ ta σ H1 fun vs H2 => rIns x vs H2 Q
theorem pe_ins {X : Cx} {o e : Expr} {es : List Expr} {te : TE} {ta : TA} {apos cpos : Pos} (ho : PE X o te) (ha : PA X (e :: es) ta)
    (hbase : attributeBase o "insert" X.env (eval o X.env) = eval o X.env := by rfl)
    (hfew : ((backTo cpos (starEach (e :: es) X.env)).all (fun x => !x.1) && (backToKw cpos (keywordEach [] X.env)).all (fun x => x.1.isSome)
      && decide ((e :: es).length + ([] : List Keyword).length + (if ([] : List Keyword).isEmpty then 0 else 1) < 30)) = true := by rfl)
    (hline : (apos.endLine == cpos.line) = true := by rfl) (hs : starEach (e :: es) X.env = (false, eval e X.env) :: starEach es X.env := by rfl) (hplain : (backTo cpos (starEach es X.env)).any (·.1) = false := by rfl) :
    PE X (.Call (.Attribute o "insert" apos) (e :: es) [] cpos) (eIns te ta) :=
  pe_imp (pe_bm PySem.F.plainAttrs_list PySem.F.slot_list_insert PySem.F.type_list_insert mt_insert (pe_mo ho) ha hbase hfew hline hs hplain) fun σ H Q q =>
    ⟨_, q, fun x H1 ⟨l, e1, ⟨xs, hl⟩, q1⟩ => by subst e1; exact ⟨.inl ⟨rfl, _, .inl (.inl hl)⟩, q1⟩⟩

/-! ### messages: f-strings of texts and small numbers -/
def fmtOk : V → Prop
  | .int i => i.natAbs.log2 < 1920
  | .str y => y.length ≤ 100000
  | _ => False
def ShortE (t : TE) (σ : L2.St) (H : Hp) : Prop := ∀ Q : VK, (∀ y : Str, y.length ≤ 100000 → Q (.str y) H) → t σ H Q
theorem short_c {m : Str} {σ : L2.St} {H : Hp} (h : m.length ≤ 100000) : ShortE (tC (.str m)) σ H := fun Q k => k m h
theorem short_f {n : Nat} {v : V} {σ : L2.St} {H : Hp} (e : σ[n]? = some (some v)) (h : fmtOk v) : ShortE (tFmt (tVar n)) σ H := fun Q k => by
  refine ⟨v, e, ?_⟩
  cases v with
  | int i => exact .inr ⟨i, rfl, h, k _ (Nat.le_trans (int_text_len_1921 h) (by decide))⟩
  | str y => exact .inl ⟨y, rfl, by have h : y.length ≤ 100000 := h; rw [sizeLine_eq]; omega, k _ h⟩
  | _ => exact h.elim
theorem tjs_ok : ∀ {ts : List TE} {acc : Str} {σ : L2.St} {H : Hp} {Q : Str → Hp → Prop}, (∀ t ∈ ts, ShortE t σ H) → acc.length + 100000 * ts.length ≤ 16777216 → (∀ z, Q z H) → tJs ts acc σ H Q
  | [], acc, σ, H, Q, _, _, k => k acc
  | t :: ts, acc, σ, H, Q, h, hl, k => h t List.mem_cons_self _ fun y hy => by
    rw [List.length_cons] at hl
    have e : (acc ++ y).length = acc.length + y.length := Str.length_append ..
    exact ⟨y, rfl, by rw [e, sizeLine_eq]; omega, tjs_ok (fun t ht => h t (List.mem_cons_of_mem _ ht)) (by rw [e]; omega) k⟩
/-! ### errors whose message shows their field -/
def spExF (Cs : List Addr) (fs : List Str) : Sp := fun vs H Q E => (∀ y ∈ vs.tail, fmtOk y) ∧ spEx Cs fs vs H Q E
def tMkF (C : Addr) (fs : List Str) (ta : TA) : L2.St → Hp → XK → Prop := fun σ H Q => ta σ H fun vs H1 => (∀ y ∈ vs, fmtOk y) ∧ vs.length = fs.length ∧ ∀ d, H1 d = none → Q (.ref C) (some d) (upd H1 d (.xd (exFs fs vs)))
theorem mkF_of {C : Addr} {Cs : List Addr} {fs : List Str} {ta : TA} (hC : C ∈ Cs) (hl : fs.length ≤ 900) {σ : L2.St} {H : Hp} {Q : XK} (q : tMkF C fs ta σ H Q) : tMkO C (spExF Cs fs) [] (moA ta) σ H Q := by
  refine ⟨_, q, fun vs H1 ⟨g, e, h⟩ => ⟨by omega, fun a ha => ⟨by rw [List.append_nil]; exact g, a, C, vs, hC, by rw [List.append_nil], e, upd_same, fun d hd hne => ⟨rfl, d, exFs fs vs, upd_same, ?_, ?_, ?_⟩⟩⟩⟩
  · rw [upd_ne hne, upd_same]
  · rw [upd_ne hne] at hd
    exact hd
  · rw [upd_ne hne] at hd
    have e2 : upd (del (upd (upd (upd H1 a (exo a C none)) d (exd d (exFs fs vs))) a (exo a C (some d))) a) d (.xd (exFs fs vs)) = upd H1 d (.xd (exFs fs vs)) := by
      funext b
      by_cases hb : b = d
      · rw [hb, upd_same, upd_same]
      · rw [upd_ne hb, upd_ne hb]
        by_cases hba : b = a
        · rw [hba, del_same, ha]
        · rw [del_ne hba, upd_ne hba, upd_ne hb, upd_ne hba]
    rw [e2]
    exact h d hd
theorem pmk_exF {X : Cx} {CX : CXT} {x : Str} {C fI : Addr} {Cs : List Addr} {fs : List Str} {k : Nat} {fd : FuncData} {ps : List Str} {e : Expr} {es : List Expr} {ta : TA} {p pos : Pos} (T : OexC X.K C) (iC : PySem.W.findIn X.K (.ref C) "__init__" = some (some (.ref fI))) (tI : PySem.W.typeIn X.K (.ref fI) = some (.type "function"))
    (F1 : FnOk X.prog X.w X.K X.mg X.base CX k fI fd ps (spExF Cs fs)) (hC : C ∈ Cs) (hl : fs.length ≤ 900) (hr : Room (k + 1) X.A) (hb : Binds X.K fd ps []) (hx : Passes CX X (fun _ _ _ => False)) (hg : Gl X x) (hm : X.mg x = some (.ref C)) (ha : PA X (e :: es) ta)
    (hdb : (x == ("__debug__" : Str)) = false := by decide) (he : starEach (e :: es) X.env = (false, eval e X.env) :: starEach es X.env := by rfl) (hpl : (backTo pos (starEach es X.env)).any (·.1) = false := by rfl) :
    PMk X (.Call (.Name x p) (e :: es) [] pos) (tMkF C fs ta) :=
  pmk_imp (pmk_oex (dvs := []) (ds := []) T iC tI F1 hr hb .nil hx hg hm (pa_mo ha) hdb he hpl) fun _ _ _ q => mkF_of hC hl q
theorem exF {K : PySem.W.Frag} {Cs : List Addr} {D : Addr} {f : Str} {ts : List TE} (hl : ts.length ≤ 100) (hts : ∀ (a : V) (x : V) (H : Hp), fmtOk x → ∀ t ∈ ts, ShortE t [some a, some x] H) (h : ∀ C ∈ Cs, SupV K C D ∧ PySem.W.findIn K (.ref C) f = some none) {vs : List V} {H : Hp} {Q : VK} {E : XK} (q : spExF Cs [f] vs H Q E) {n x : Str} :
    tSeq (tDrop (tSupV K D (tCons (fun σ H Q => tJs ts Str.empty σ H fun out H1 => Q (.str out) H1) tNil))) (tOst K f (tVar 0) (tVar 1)) { nx := fun _ H' => Q .non H', rt := Q } (L2.start [n, x] vs) H := by
  obtain ⟨g, a, C, ys, hC, rfl, hl2, ea, q⟩ := q
  obtain ⟨V, na⟩ := h C hC
  cases ys with
  | nil => cases hl2
  | cons y ys =>
    cases ys with
    | cons _ _ => cases hl2
    | nil =>
      refine ⟨a, C, rfl, ea, V, ?_⟩
      refine tjs_ok (hts (.ref a) y H (g y List.mem_cons_self)) (by have : (Str.empty).length = 0 := rfl; omega) fun z => ?_
      exact ⟨by show 1 ≤ 1000; decide, ea, y, rfl, .ref a, rfl, a, C, rfl, V.ex, na, .inl ⟨ea, fun dx hd hne => q dx hd hne⟩⟩
theorem spExF_len {Cs : List Addr} {fs : List Str} (vs : List V) (H : Hp) (Q : VK) (E : XK) (q : spExF Cs fs vs H Q E) : vs.length = fs.length + 1 := spEx_len vs H Q E q.2
end Y

/-! Symbolic execution of readings: what is known of a heap (FH), one rule a construct. -/
namespace Y
open PySem PySem.Spec PyProof.Rows L2

/-! ### what is known of a heap -/
/-- tuples stay -/
def Per (H H' : Hp) : Prop := ∀ t xs, H t = some (.tup xs) → H' t = some (.tup xs)
theorem Per.refl (H : Hp) : Per H H := fun _ _ h => h
theorem per_new {H : Hp} {p : Addr} {o : HO} (h : H p = none) : Per H (upd H p o) := fun t xs e => (upd_ne (ne_of_none e h)).trans e
def NoTup : HO → Prop
  | .tup _ => False
  | _ => True
theorem per_put {H : Hp} {p : Addr} {o o' : HO} (h : H p = some o) (n : NoTup o) : Per H (upd H p o') := fun t xs e => by
  refine (upd_ne ?_).trans e
  intro z
  subst z
  rw [h] at e
  cases e
  exact n
/-- a statement of the object at an address and of the objects that it owns -/
structure Pr where
  s : Addr → Hp → List Addr → Prop
  loc : ∀ {p H H' ks}, s p H ks → (∀ a ∈ ks, H' a = H a) → Per H H' → s p H' ks
  liv : ∀ {p H ks}, s p H ks → ∀ a ∈ ks, H a ≠ none
  key : ∀ {p H ks}, s p H ks → p ∈ ks
abbrev Ent := Addr × Pr
inductive FHs (H : Hp) : List Ent → List Addr → Prop
  | nil : FHs H [] []
  | cons {p φ k L ks} (h : φ.s p H k) (r : FHs H L ks) (nd : k.Nodup) (dj : ∀ a ∈ k, a ∉ ks) : FHs H ((p, φ) :: L) (k ++ ks)
class FH (H : Hp) (L : outParam (List Ent)) : Prop where
  ex : ∃ ks, FHs H L ks
/-- of the object alone -/
def lift (φ : HO → Prop) : Pr where
  s := fun p H ks => ks = [p] ∧ ∃ o, H p = some o ∧ φ o
  loc := fun {p H H' ks} ⟨e, o, h, hφ⟩ k _ => ⟨e, o, (k p (by rw [e]; exact List.mem_cons_self)).trans h, hφ⟩
  liv := fun {p H ks} ⟨e, o, h, _⟩ a m => by
    rw [e] at m
    have e2 : a = p := by simpa using m
    rw [e2, h]
    simp
  key := fun {p H ks} ⟨e, _⟩ => by rw [e]; exact List.mem_cons_self
def Is (o : HO) : Pr := lift fun x => x = o
/-- a list that is read: tracked or locked -/
def IsR (xs : List V) : Pr := lift fun x => x = .lst xs ∨ ∃ o, x = .frz o (.lst xs)
inductive Put (p : Addr) (φ φ' : Pr) : List Ent → List Ent → Prop where
  | here {L} : Put p φ φ' ((p, φ) :: L) ((p, φ') :: L)
  | there {q L L'} (h : Put p φ φ' L L') : Put p φ φ' (q :: L) (q :: L')
section
variable {H H' : Hp} {L L' R : List Ent} {p q : Addr} {o o' : HO} {φ φ' : Pr} {xs : List V} {ks : List Addr} {x y : Ent}
theorem FHs.liv (F : FHs H L ks) : ∀ a ∈ ks, H a ≠ none := by
  induction F with
  | nil => intro a m; cases m
  | cons h r nd dj ih => exact fun a m => (List.mem_append.mp m).elim (Pr.liv _ h a) (ih a)
theorem FHs.keep (F : FHs H L ks) (k : ∀ a ∈ ks, H' a = H a) (e : Per H H') : FHs H' L ks := by
  induction F with
  | nil => exact .nil
  | cons h r nd dj ih => exact .cons (Pr.loc _ h (fun a m => k a (List.mem_append_left _ m)) e) (ih fun a m => k a (List.mem_append_right _ m)) nd dj
theorem FHs.nodup (F : FHs H L ks) : ks.Nodup := by
  induction F with
  | nil => exact List.nodup_nil
  | cons h r nd dj ih => exact List.nodup_append.mpr ⟨nd, ih, fun a m b m' e => dj a m (e ▸ m')⟩
theorem FHs.mem (F : FHs H L ks) (m : (p, φ) ∈ L) : ∃ k, φ.s p H k ∧ ∀ a ∈ k, a ∈ ks := by
  induction F with
  | nil => cases m
  | cons h r nd dj ih =>
    rcases List.mem_cons.mp m with e | m
    · cases e
      exact ⟨_, h, fun a m => List.mem_append_left _ m⟩
    · obtain ⟨k, h1, h2⟩ := ih m
      exact ⟨k, h1, fun a m => List.mem_append_right _ (h2 a m)⟩
theorem FHs.perm (F : FHs H L ks) (e : L.Perm L') : ∃ ks', FHs H L' ks' ∧ ks.Perm ks' := by
  induction e generalizing ks with
  | nil => exact ⟨_, F, List.Perm.refl _⟩
  | cons x _ ih =>
    cases F with
    | cons h r nd dj =>
      obtain ⟨ks', r', e'⟩ := ih r
      exact ⟨_, .cons h r' nd (fun a m m' => dj a m (e'.mem_iff.mpr m')), e'.append_left _⟩
  | swap x y l =>
    cases F with
    | cons h r nd dj =>
      cases r with
      | @cons p2 φ2 k2 L2 ks2 h2 r2 nd2 dj2 =>
        rename_i k1
        refine ⟨_, .cons h2 (.cons h r2 nd fun a m m' => dj a m (List.mem_append_right _ m')) nd2 fun a m m' => ?_, ?_⟩
        · rcases List.mem_append.mp m' with m' | m'
          · exact dj a m' (List.mem_append_left _ m)
          · exact dj2 a m m'
        · rw [← List.append_assoc, ← List.append_assoc]
          exact List.perm_append_comm.append_right _
  | trans _ _ ih1 ih2 =>
    obtain ⟨k1, F1, e1⟩ := ih1 F
    obtain ⟨k2, F2, e2⟩ := ih2 F1
    exact ⟨k2, F2, e1.trans e2⟩
theorem FHs.app {A B : List Ent} : ∀ {ks : List Addr}, FHs H (A ++ B) ks → ∃ k1 k2, FHs H A k1 ∧ FHs H B k2 ∧ ks = k1 ++ k2 := by
  induction A with
  | nil => exact fun {ks} F => ⟨[], ks, .nil, F, rfl⟩
  | cons x A ih =>
    intro ks F
    cases F with
    | cons h r nd dj =>
      obtain ⟨k1, k2, F1, F2, e⟩ := ih r
      subst e
      exact ⟨_, k2, .cons h F1 nd (fun a m m' => dj a m (List.mem_append_left _ m')), F2, (List.append_assoc _ _ _).symm⟩
theorem FHs.join {A B : List Ent} {k1 k2 : List Addr} (F1 : FHs H A k1) (F2 : FHs H B k2) (dj : ∀ a ∈ k1, a ∉ k2) : FHs H (A ++ B) (k1 ++ k2) := by
  induction F1 with
  | nil => exact F2
  | cons h r nd dj' ih =>
    rw [List.append_assoc]
    refine .cons h (ih fun a m => dj a (List.mem_append_right _ m)) nd fun a m m' => ?_
    rcases List.mem_append.mp m' with m' | m'
    · exact dj' a m m'
    · exact dj a (List.mem_append_left _ m) m'
theorem FHs.sub (F : FHs H L ks) (s : L'.Sublist L) : ∃ ks', FHs H L' ks' ∧ ks'.Sublist ks := by
  induction s generalizing ks with
  | slnil => exact ⟨_, F, List.Sublist.refl _⟩
  | cons x _ ih =>
    cases F with
    | cons h r nd dj =>
      obtain ⟨ks', r', e'⟩ := ih r
      exact ⟨ks', r', e'.trans (List.sublist_append_right _ _)⟩
  | cons_cons x _ ih =>
    cases F with
    | cons h r nd dj =>
      obtain ⟨ks', r', e'⟩ := ih r
      exact ⟨_, .cons h r' nd (fun a m m' => dj a m (e'.subset m')), (List.Sublist.refl _).append e'⟩
theorem FH.is (F : FH H L) {φ : HO → Prop} (m : (p, lift φ) ∈ L) : ∃ o, H p = some o ∧ φ o := by
  obtain ⟨ks, F⟩ := F.ex
  obtain ⟨k, ⟨_, h⟩, _⟩ := F.mem m
  exact h
theorem FH.get (F : FH H L) (m : (p, Is o) ∈ L) : H p = some o := by
  obtain ⟨o', h, e⟩ := F.is m
  exact h.trans (congrArg some e)
theorem FH.getR (F : FH H L) (m : (p, IsR xs) ∈ L) : Rd H p (.lst xs) := by
  obtain ⟨o', h, e | ⟨o, e⟩⟩ := F.is m
  · subst e; exact .inl h
  · subst e; exact .inr ⟨o, h⟩
theorem RdS.of {S : Sta} {u : HO} (h : Rd H p u) : RdS S H p u := .inl h
theorem FHs.other (F : FHs H L ks) (h : H p = none) : FHs (upd H p o) L ks := F.keep (fun a m => upd_ne fun e => F.liv a m (by rw [e]; exact h)) (per_new h)
theorem FH.other (F : FH H L) (h : H p = none) : FH (upd H p o) L := by
  obtain ⟨ks, F⟩ := F.ex
  exact ⟨ks, F.other h⟩
theorem FH.new (F : FH H L) (h : H p = none) : FH (upd H p o) ((p, Is o) :: L) := by
  obtain ⟨ks, F⟩ := F.ex
  refine ⟨[p] ++ ks, .cons ⟨rfl, o, upd_same, rfl⟩ (F.other h) (by simp) fun a m m' => ?_⟩
  have e : a = p := by simpa using m
  exact F.liv a m' (by rw [e]; exact h)
theorem Put.mem (m : Put p φ φ' L L') : (p, φ) ∈ L := by
  induction m with
  | here => exact List.mem_cons_self
  | there _ ih => exact List.mem_cons_of_mem _ ih
theorem Put.perm (m : Put p φ φ' L L') : ∃ R, L.Perm ((p, φ) :: R) ∧ L'.Perm ((p, φ') :: R) := by
  induction m with
  | @here L => exact ⟨L, List.Perm.refl _, List.Perm.refl _⟩
  | @there q _ _ _ ih =>
    obtain ⟨R, h1, h2⟩ := ih
    exact ⟨q :: R, (h1.cons _).trans (List.Perm.swap _ _ _), (h2.cons _).trans (List.Perm.swap _ _ _)⟩
theorem FHs.put (F : FHs H L ks) (m : Put p (Is o) (Is o') L L') (n : NoTup o) (h : H p = some o) : FHs (upd H p o') L' ks := by
  induction m generalizing ks with
  | here =>
    cases F with
    | cons h' r nd dj =>
      obtain ⟨e, _⟩ := h'
      subst e
      exact .cons ⟨rfl, o', upd_same, rfl⟩ (r.keep (fun a m => upd_ne fun e => dj a (by rw [e]; exact List.mem_cons_self) m) (per_put h n)) nd dj
  | there m ih =>
    cases F with
    | @cons p1 φ1 k1 L1 ks1 h' r nd dj =>
      have hp : p ∈ ks1 := by
        obtain ⟨k, hk, hs⟩ := r.mem m.mem
        exact hs p (Pr.key _ hk)
      exact .cons (Pr.loc _ h' (fun a m => upd_ne fun e => dj a m (by rw [e]; exact hp)) (per_put h n)) (ih r) nd dj
theorem FH.put (F : FH H L) (m : Put p (Is o) (Is o') L L') (n : NoTup o) : FH (upd H p o') L' := by
  have h := F.get m.mem
  obtain ⟨ks, F⟩ := F.ex
  exact ⟨ks, F.put m n h⟩
theorem FHs.weak (F : FHs H L ks) (m : Put p φ φ' L L') (i : ∀ k, φ.s p H k → φ'.s p H k) : FHs H L' ks := by
  induction m generalizing ks with
  | here =>
    cases F with
    | cons h' r nd dj => exact .cons (i _ h') r nd dj
  | there m ih =>
    cases F with
    | cons h' r nd dj => exact .cons h' (ih r) nd dj
/-- an entry says something else -/
theorem FH.weak (F : FH H L) (m : Put p φ φ' L L') (i : ∀ k, φ.s p H k → φ'.s p H k) : FH H L' := by
  obtain ⟨ks, F⟩ := F.ex
  exact ⟨ks, F.weak m i⟩
theorem FH.open_ {φ : HO → Prop} (F : FH H L) (m : (p, lift φ) ∈ L) : ∃ o, φ o ∧ ∀ L', Put p (lift φ) (Is o) L L' → FH H L' := by
  obtain ⟨o, h, hφ⟩ := F.is m
  exact ⟨o, hφ, fun L' pu => F.weak pu fun k ⟨e, _⟩ => ⟨e, o, h, rfl⟩⟩
theorem FH.close {φ : HO → Prop} (F : FH H L) (hφ : φ o) (pu : Put p (Is o) (lift φ) L L') : FH H L' := F.weak pu fun k ⟨e, o', h, e'⟩ => ⟨e, o', h, by rw [e']; exact hφ⟩
theorem FH.sub (F : FH H L) (s : L'.Sublist L) : FH H L' := by
  obtain ⟨ks, F⟩ := F.ex
  obtain ⟨ks', F', _⟩ := F.sub s
  exact ⟨ks', F'⟩
theorem FH.tail (F : FH H (x :: L)) : FH H L := F.sub (List.sublist_cons_self _ _)
theorem FH.one {x : Ent} (F : FH H L) (m : x ∈ L) : FH H [x] := F.sub (List.singleton_sublist.mpr m)
theorem FH.perm (F : FH H L) (e : L.Perm L') : FH H L' := by
  obtain ⟨ks, F⟩ := F.ex
  obtain ⟨ks', F', _⟩ := F.perm e
  exact ⟨ks', F'⟩
theorem FH.nil : FH H [] := ⟨[], .nil⟩
/-- an entry to the front -/
theorem pull (m : x ∈ L) : ∃ R, L.Perm (x :: R) := by
  obtain ⟨s, t, e⟩ := List.append_of_mem m
  subst e
  exact ⟨s ++ t, List.perm_middle⟩
theorem pull2 (m : x ∈ L) (m' : y ∈ L) (ne : x.1 ≠ y.1) : ∃ R, L.Perm (x :: y :: R) := by
  obtain ⟨R, h⟩ := pull m
  have m2 := h.mem_iff.mp m'
  rcases List.mem_cons.mp m2 with e | m2
  · exact absurd (congrArg Prod.fst e).symm ne
  · obtain ⟨R', h'⟩ := pull m2
    exact ⟨R', h.trans (h'.cons _)⟩
theorem FH.diff {φ ψ : HO → Prop} (F : FH H L) (m : (p, lift φ) ∈ L) (m' : (q, lift ψ) ∈ L) (h : ∀ o, φ o → ψ o → False) : p ≠ q := by
  intro e
  subst e
  obtain ⟨o, h1, ho⟩ := F.is m
  obtain ⟨o', h2, ho'⟩ := F.is m'
  rw [h1] at h2
  cases h2
  exact h o ho ho'
/-! a thing of several objects -/
def comp {α : Type} (E : Addr → α → List Ent) (P : α → Prop) : Pr where
  s := fun p H ks => p ∈ ks ∧ ∃ a, P a ∧ FHs H (E p a) ks
  loc := fun {p H H' ks} ⟨m, a, h, F⟩ k e => ⟨m, a, h, F.keep k e⟩
  liv := fun {p H ks} ⟨m, a, h, F⟩ => F.liv
  key := fun {p H ks} ⟨m, _⟩ => m
theorem FH.unfold {α : Type} {E : Addr → α → List Ent} {P : α → Prop} (F : FH H ((p, comp E P) :: L)) : ∃ a, P a ∧ FH H (E p a ++ L) := by
  obtain ⟨ks, F⟩ := F.ex
  cases F with
  | cons h r nd dj =>
    obtain ⟨m, a, hp, F'⟩ := h
    exact ⟨a, hp, _, F'.join r dj⟩
theorem FH.fold {α : Type} {E : Addr → α → List Ent} {P : α → Prop} (a : α) (hp : P a) (F : FH H (E p a ++ L)) (m : p ∈ (E p a).map (·.1)) : FH H ((p, comp E P) :: L) := by
  obtain ⟨ks, F⟩ := F.ex
  obtain ⟨k1, k2, F1, F2, e⟩ := F.app
  subst e
  have nd := List.nodup_append.mp (F1.join F2 (fun a m m' => (List.nodup_append.mp F.nodup).2.2 a m a m' rfl)).nodup
  obtain ⟨x, hx, ex⟩ := List.mem_map.mp m
  obtain ⟨k, hk, hs⟩ := F1.mem (p := x.1) (φ := x.2) hx
  exact ⟨k1 ++ k2, .cons ⟨by rw [← ex]; exact hs _ (Pr.key _ hk), a, hp, F1⟩ F2 nd.1 fun a m m' => nd.2.2 a m a m' rfl⟩
end
/-- x is taken out of L -/
inductive Take (x : Ent) : List Ent → List Ent → Prop where
  | here {L} : Take x (x :: L) L
  | there {y L L'} (h : Take x L L') : Take x (y :: L) (y :: L')
/-- some of L, in any order -/
inductive Sel : List Ent → List Ent → Prop where
  | nil {L} : Sel [] L
  | all {L} : Sel L L
  | cons {x R L L'} (h : Take x L L') (s : Sel R L') : Sel (x :: R) L
  | drop {x R L} (s : Sel R L) : Sel R (x :: L)
theorem Take.perm {x : Ent} {L L' : List Ent} (h : Take x L L') : L.Perm (x :: L') := by
  induction h with
  | here => exact List.Perm.refl _
  | there _ ih => exact (ih.cons _).trans (List.Perm.swap _ _ _)
theorem Sel.ok {R L : List Ent} (s : Sel R L) : ∃ M, L.Perm (R ++ M) := by
  induction s with
  | nil => exact ⟨_, List.Perm.refl _⟩
  | all => exact ⟨[], by rw [List.append_nil]⟩
  | cons h _ ih =>
    obtain ⟨M, e⟩ := ih
    exact ⟨M, h.perm.trans (e.cons _)⟩
  | @drop x _ _ _ ih =>
    obtain ⟨M, e⟩ := ih
    exact ⟨x :: M, (e.cons x).trans List.perm_middle.symm⟩
theorem FH.sel {H : Hp} {L R : List Ent} (F : FH H L) (s : Sel R L) : FH H R := by
  obtain ⟨M, e⟩ := s.ok
  exact (F.perm e).sub (List.sublist_append_left _ _)

/-! ### one rule a construct -/
abbrev K0 := L2.St → Hp → Prop
section
variable {σ : L2.St} {H H' : Hp} {Q : VK} {QB : Bool → Hp → Prop} {QL : List V → Hp → Prop} {QO : Option Int → Hp → Prop} {QS : L2.St → Hp → Prop} {te ta tb tc : TE} {t u : TT} {tl : TA} {r r' : R2} {rc : List V → Hp → VK → Prop} {s1 s2 : TS} {nx bk ct : K0} {rt : VK} {v x y : V} {g : TG} {i j : Int} {b : Bool} {E : XK} {sp : Sp} {C : Addr} {P : Prop} [Decidable P] {A B : Prop} {S : Sta}
theorem is_var {n : Nat} (h : tVar n σ H Q) : tVar n σ H Q := h
theorem is_g {n : Nat} (h : gName n v σ H QS) : gName n v σ H QS := h
theorem is_au {n : Nat} {te : TE} {ti : TIp} {D : Ends} (h : tAug n te ti D σ H) : tAug n te ti D σ H := h
theorem is_ml {n : Nat} {D : List V} (h : eMakeL n C sp D E tl σ H Q) : eMakeL n C sp D E tl σ H Q := h
theorem is_isi {l : List V} (h : rIsI l H Q) : rIsI l H Q := h
theorem is_pow (h : rPow x y H Q) : rPow x y H Q := h
theorem is_ix (h : rIx S x y H Q) : rIx S x y H Q := h
theorem is_len {l : List V} (h : rLen S l H Q) : rLen S l H Q := h
theorem is_sl {x : V} {lo hi : Option Int} (h : rSl S x lo hi H Q) : rSl S x lo hi H Q := h
theorem is_eq (h : rEq x y H Q) : rEq x y H Q := h
theorem is_ne (h : rNe x y H Q) : rNe x y H Q := h
theorem is_is (h : rIs x y H Q) : rIs x y H Q := h
theorem is_isn (h : rIsNot x y H Q) : rIsNot x y H Q := h
theorem x_c (h : Q v H) : tC v σ H Q := h
theorem x_con (h : Q v H) : eCon v σ H Q := h
theorem x_op (h : ta σ H fun x H1 => tb σ H1 fun y H2 => r x y H2 Q) : tOp r ta tb σ H Q := h
theorem x_un {ru : V → Hp → VK → Prop} (h : ta σ H fun x H1 => ru x H1 Q) : tUn ru ta σ H Q := h
theorem x_add (h : Q (.int (i + j)) H) : rAdd (.int i) (.int j) H Q := .inl ⟨i, j, rfl, rfl, h⟩
theorem x_sub (h : Q (.int (i - j)) H) : rSub (.int i) (.int j) H Q := ⟨i, j, rfl, rfl, h⟩
theorem x_mul (c : CMul i j) (h : Q (.int (i * j)) H) : rMul (.int i) (.int j) H Q := ⟨i, j, rfl, rfl, c, h⟩
theorem x_fdiv (c : CDivW i j) (h : Q (.int (i / j)) H) : rFdiv (.int i) (.int j) H Q := ⟨i, j, rfl, rfl, c, h⟩
theorem x_mod (c : 0 < j) (h : Q (.int (i % j)) H) : rMod (.int i) (.int j) H Q := ⟨i, j, rfl, rfl, c, h⟩
theorem x_pow (c : CPow i j) (h : Q (.int (i ^ j.toNat)) H) : rPow (.int i) (.int j) H Q := ⟨i, j, rfl, rfl, c, h⟩
theorem x_shl (c : CPow i j) (h : Q (.int (i * 2 ^ j.toNat)) H) : rShl (.int i) (.int j) H Q := ⟨i, j, rfl, rfl, c, h⟩
theorem x_band (h : Q (.int (Builtin.bitAnd i j)) H) : rAnd (.int i) (.int j) H Q := ⟨i, j, rfl, rfl, h⟩
theorem x_neg (h : Q (.int (-i)) H) : rNeg (.int i) H Q := ⟨i, rfl, h⟩
theorem x_lt (h : Q (.bl (decide (i < j))) H) : rLt (.int i) (.int j) H Q := ⟨i, j, rfl, rfl, h⟩
theorem x_le (h : Q (.bl (decide (i ≤ j))) H) : rLe (.int i) (.int j) H Q := ⟨i, j, rfl, rfl, h⟩
theorem x_gt (h : Q (.bl (decide (j < i))) H) : rGt (.int i) (.int j) H Q := ⟨i, j, rfl, rfl, h⟩
theorem x_ge (h : Q (.bl (decide (j ≤ i))) H) : rGe (.int i) (.int j) H Q := ⟨i, j, rfl, rfl, h⟩
theorem x_eqI (h : Q (.bl (decide (i = j))) H) : rEq (.int i) (.int j) H Q := ⟨rfl, by rw [show decide (V.int i = V.int j) = decide (i = j) by rw [Bool.eq_iff_iff]; simp]; exact h⟩
theorem x_neI (h : Q (.bl (decide (i ≠ j))) H) : rNe (.int i) (.int j) H Q := ⟨rfl, by rw [show (!decide (V.int i = V.int j)) = decide (i ≠ j) by rw [Bool.eq_iff_iff]; simp]; exact h⟩
theorem x_eqB {a b : Bool} (h : Q (.bl (decide (a = b))) H) : rEq (.bl a) (.bl b) H Q := ⟨rfl, by rw [show decide (V.bl a = V.bl b) = decide (a = b) by rw [Bool.eq_iff_iff]; simp]; exact h⟩
theorem x_neB {a b : Bool} (h : Q (.bl (decide (a ≠ b))) H) : rNe (.bl a) (.bl b) H Q := ⟨rfl, by rw [show (!decide (V.bl a = V.bl b)) = decide (a ≠ b) by rw [Bool.eq_iff_iff]; simp]; exact h⟩
theorem x_eqS {a b : Str} (h : Q (.bl (decide (a = b))) H) : rEq (.str a) (.str b) H Q := ⟨rfl, by rw [show decide (V.str a = V.str b) = decide (a = b) by rw [Bool.eq_iff_iff]; simp]; exact h⟩
theorem x_neS {a b : Str} (h : Q (.bl (decide (a ≠ b))) H) : rNe (.str a) (.str b) H Q := ⟨rfl, by rw [show (!decide (V.str a = V.str b)) = decide (a ≠ b) by rw [Bool.eq_iff_iff]; simp]; exact h⟩
theorem x_isN (h : Q (.bl true) H) : rIs .non .non H Q := ⟨rfl, h⟩
theorem x_isnN (h : Q (.bl false) H) : rIsNot .non .non H Q := ⟨rfl, h⟩
theorem x_isI (h : Q (.bl false) H) : rIs (.int i) .non H Q := ⟨rfl, h⟩
theorem x_isnI (h : Q (.bl true) H) : rIsNot (.int i) .non H Q := ⟨rfl, h⟩
theorem x_isR (h : Q (.bl false) H) : rIs (.ref C) .non H Q := ⟨rfl, h⟩
theorem x_isnR (h : Q (.bl true) H) : rIsNot (.ref C) .non H Q := ⟨rfl, h⟩
theorem x_isB (h : Q (.bl false) H) : rIs (.bl b) .non H Q := ⟨rfl, h⟩
theorem x_isnB (h : Q (.bl true) H) : rIsNot (.bl b) .non H Q := ⟨rfl, h⟩
/-! tests -/
theorem x_test (h : te σ H fun x H' => ∃ k, x = .bl k ∧ QB k H') : tTest te σ H QB := h
theorem x_tB (h : te σ H fun x H' => ∃ k, x = .bl k ∧ QB k H') : tB te σ H QB := h
theorem x_bl {QK : Bool → Prop} (h : QK b) : ∃ k, V.bl b = .bl k ∧ QK k := ⟨b, rfl, h⟩
theorem x_not (h : t σ H fun c H1 => QB (!c) H1) : tNot t σ H QB := h
theorem x_and (h : t σ H fun c H1 => if c = true then u σ H1 QB else QB false H1) : tAnd t u σ H QB := h
theorem x_or (h : t σ H fun c H1 => if c = true then QB true H1 else u σ H1 QB) : tOr t u σ H QB := h
theorem x_andV (h : ta σ H fun x H1 => ∃ c, x = .bl c ∧ if c = true then tb σ H1 Q else Q (.bl false) H1) : tAndV ta tb σ H Q := h
theorem x_orV (h : ta σ H fun x H1 => ∃ c, x = .bl c ∧ if c = true then Q (.bl true) H1 else tb σ H1 Q) : tOrV ta tb σ H Q := h
theorem x_notV (h : ta σ H fun x H1 => ∃ c, x = .bl c ∧ Q (.bl (!c)) H1) : tNotV ta σ H Q := h
theorem x_tIf (h : t σ H fun c H1 => if c = true then ta σ H1 Q else tb σ H1 Q) : tIf t ta tb σ H Q := h
theorem x_chain (h : ta σ H fun x H1 => tb σ H1 fun y H2 => r x y H2 fun z H3 => ∃ k, z = .bl k ∧ (if k = true then tc σ H3 fun w' H4 => r' y w' H4 Q else Q (.bl false) H3)) : tChain r r' ta tb tc σ H Q := h
/-! decisions -/
theorem x_ite (h1 : P → A) (h2 : ¬ P → B) : if decide P = true then A else B := by
  by_cases h : P
  · rw [if_pos (decide_eq_true h)]; exact h1 h
  · rw [if_neg (by rw [decide_eq_false h]; exact Bool.false_ne_true)]; exact h2 h
theorem x_niteP (h1 : ¬ P → A) (h2 : P → B) : if (!decide P) = true then A else B := by
  by_cases h : P
  · rw [decide_eq_true h, if_neg (by simp)]; exact h2 h
  · rw [decide_eq_false h, if_pos (by simp)]; exact h1 h
theorem x_iteT (h : A) : if true = true then A else B := by rw [if_pos rfl]; exact h
theorem x_iteF (h : B) : if false = true then A else B := by rw [if_neg Bool.false_ne_true]; exact h
theorem x_niteT (h : B) : if (!true) = true then A else B := x_iteF h
theorem x_niteF (h : A) : if (!false) = true then A else B := x_iteT h
theorem x_itec (h1 : b = true → A) (h2 : b = false → B) : if b = true then A else B := by
  cases b with
  | true => exact x_iteT (h1 rfl)
  | false => exact x_iteF (h2 rfl)
theorem x_nitec (h1 : b = false → A) (h2 : b = true → B) : if (!b) = true then A else B := by
  cases b with
  | true => exact x_iteF (h2 rfl)
  | false => exact x_iteT (h1 rfl)
/-! statements -/
theorem x_seq (h : s1 ⟨s2 ⟨nx, rt, bk, ct⟩, rt, bk, ct⟩ σ H) : tSeq s1 s2 ⟨nx, rt, bk, ct⟩ σ H := h
theorem x_next (h : nx σ H) : tNext ⟨nx, rt, bk, ct⟩ σ H := h
theorem x_brk (h : bk σ H) : tBreak ⟨nx, rt, bk, ct⟩ σ H := h
theorem x_cont (h : ct σ H) : tCont ⟨nx, rt, bk, ct⟩ σ H := h
theorem x_drop (h : te σ H fun _ H1 => nx σ H1) : tDrop te ⟨nx, rt, bk, ct⟩ σ H := h
theorem x_ret (h : te σ H rt) : tRet te ⟨nx, rt, bk, ct⟩ σ H := h
theorem x_retN (h : rt .non H) : tRetN ⟨nx, rt, bk, ct⟩ σ H := h
theorem x_ifS (h : t σ H fun b H1 => if b = true then s1 ⟨nx, rt, bk, ct⟩ σ H1 else s2 ⟨nx, rt, bk, ct⟩ σ H1) : tIfS t s1 s2 ⟨nx, rt, bk, ct⟩ σ H := h
theorem x_asg (h : te σ H fun x H1 => g x σ H1 nx) : tAsg te g ⟨nx, rt, bk, ct⟩ σ H := h
theorem x_augA (h : Q (.int (i + j)) H) : rAug (.int i) (.int j) H Q := ⟨i, j, rfl, rfl, h⟩
theorem x_augS (h : Q (.int (i - j)) H) : rAugS (.int i) (.int j) H Q := ⟨i, j, rfl, rfl, h⟩
/-! calls, displays -/
theorem x_nil (h : QL [] H) : tNil σ H QL := h
theorem x_cons (h : ta σ H fun x H1 => tl σ H1 fun xs H2 => QL (x :: xs) H2) : tCons ta tl σ H QL := h
theorem x_cb (h : tl σ H fun vs H1 => rc vs H1 Q) : tCB rc tl σ H Q := h
theorem x_call (h : tl σ H fun vs H1 => sp (vs ++ []) H1 Q E) : tCall sp [] E tl σ H Q := h
theorem x_chn {tl : TC} (h : ta σ H fun x H1 => tl σ x H1 Q) : tChn ta tl σ H Q := h
theorem x_clast (h : tb σ H fun y H1 => r x y H1 Q) : cLast r tb σ x H Q := h
theorem x_clink {tl : TC} (h : tb σ H fun y H1 => r x y H1 fun z H2 => ∃ k, z = .bl k ∧ (if k = true then tl σ y H2 Q else Q (.bl false) H2)) : cLink r tb tl σ x H Q := h
theorem x_bits (h : Q (.int (Builtin.Int.intBits i : Nat)) H) : rBits (.int i) H Q := ⟨i, rfl, h⟩
theorem x_app {vs : List V} (h : sp vs H Q E) : sp (vs ++ []) H Q E := by rw [List.append_nil]; exact h
theorem x_app' {vs : List V} (h : sp (x :: vs) H Q E) : sp (x :: (vs ++ [])) H Q E := by rw [List.append_nil]; exact h
theorem x_raw {vs : List V} (h : sp vs H Q E) : spRaw sp vs H Q E := by unfold spRaw; rw [List.append_nil]; exact h
theorem x_cmeth (h : tl σ H fun vs H2 => sp (.ref C :: vs) H2 Q E) : ClX.tCMeth C sp E (eCon (.ref C)) tl σ H Q := ⟨rfl, h⟩
def Kmake (C : Addr) (sp : Sp) (vs : List V) (H1 : Hp) (Q : VK) (E : XK) : Prop := ∀ x dx, H1 x = none → H1 dx = none → dx ≠ x → sp (.ref x :: (vs ++ [])) (upd (upd H1 dx (.own x)) x (.ins C dx [])) (fun v H2 => v = .non ∧ Q (.ref x) H2) E
theorem x_make (h : tl σ H fun vs H1 => Kmake C sp vs H1 Q E) : tMake C sp [] E tl σ H Q := h
theorem x_meth {m : Str} (h : ta σ H fun x H1 => ∃ a dx fs, x = .ref a ∧ H1 a = some (.ins C dx fs) ∧ fs.lookup m = none ∧ tl σ H1 fun vs H2 => sp (x :: (vs ++ [])) H2 Q E) : tMeth C m sp [] E ta tl σ H Q := h
def Klst (xs : List V) (H1 : Hp) (Q : VK) : Prop := xs.length ≤ sizeLine ∧ ∀ p, H1 p = none → Q (.ref p) (upd H1 p (.lst xs))
theorem x_lst (h : tl σ H fun xs H1 => Klst xs H1 Q) : tLst tl σ H Q := h
def Ktup (xs : List V) (H1 : Hp) (Q : VK) : Prop := xs.length ≤ sizeLine ∧ ∀ p, H1 p = none → Q (.ref p) (upd H1 p (.tup xs))
theorem x_tup (h : tl σ H fun xs H1 => Ktup xs H1 Q) : tTup tl σ H Q := h
theorem x_intI (h : Q (.int i) H) : rInt [.int i] H Q := .inl ⟨i, rfl, h⟩
theorem x_intB (h : Q (.int (if b then 1 else 0)) H) : rInt [.bl b] H Q := .inr ⟨b, rfl, h⟩
theorem isi_of {n t : String} {bb : Bool} (ty : TyN H x t) (k : kitB t n = some bb) (e : isA t n = bb) (h : Q (.bl bb) H) : rIsI [x, .ty n] H Q := ⟨x, n, t, rfl, ty, by rw [e]; exact k, by rw [e]; exact h⟩

theorem kit_int_int : kitB "int" "int" = some true := by decide +kernel
theorem x_isi_int_int (h : Q (.bl true) H) : rIsI [.int i, .ty "int"] H Q := isi_of (.int i) kit_int_int rfl h
theorem kit_int_bool : kitB "int" "bool" = some false := by decide +kernel
theorem x_isi_int_bool (h : Q (.bl false) H) : rIsI [.int i, .ty "bool"] H Q := isi_of (.int i) kit_int_bool rfl h
theorem kit_int_str : kitB "int" "str" = some false := by decide +kernel
theorem x_isi_int_str (h : Q (.bl false) H) : rIsI [.int i, .ty "str"] H Q := isi_of (.int i) kit_int_str rfl h
theorem kit_int_list : kitB "int" "list" = some false := by decide +kernel
theorem x_isi_int_list (h : Q (.bl false) H) : rIsI [.int i, .ty "list"] H Q := isi_of (.int i) kit_int_list rfl h
theorem kit_int_tuple : kitB "int" "tuple" = some false := by decide +kernel
theorem x_isi_int_tuple (h : Q (.bl false) H) : rIsI [.int i, .ty "tuple"] H Q := isi_of (.int i) kit_int_tuple rfl h
theorem kit_int_dict : kitB "int" "dict" = some false := by decide +kernel
theorem x_isi_int_dict (h : Q (.bl false) H) : rIsI [.int i, .ty "dict"] H Q := isi_of (.int i) kit_int_dict rfl h
theorem kit_bool_int : kitB "bool" "int" = some true := by decide +kernel
theorem x_isi_bool_int (h : Q (.bl true) H) : rIsI [.bl b, .ty "int"] H Q := isi_of (.bl b) kit_bool_int rfl h
theorem kit_bool_bool : kitB "bool" "bool" = some true := by decide +kernel
theorem x_isi_bool_bool (h : Q (.bl true) H) : rIsI [.bl b, .ty "bool"] H Q := isi_of (.bl b) kit_bool_bool rfl h
theorem kit_bool_str : kitB "bool" "str" = some false := by decide +kernel
theorem x_isi_bool_str (h : Q (.bl false) H) : rIsI [.bl b, .ty "str"] H Q := isi_of (.bl b) kit_bool_str rfl h
theorem kit_bool_list : kitB "bool" "list" = some false := by decide +kernel
theorem x_isi_bool_list (h : Q (.bl false) H) : rIsI [.bl b, .ty "list"] H Q := isi_of (.bl b) kit_bool_list rfl h
theorem kit_bool_tuple : kitB "bool" "tuple" = some false := by decide +kernel
theorem x_isi_bool_tuple (h : Q (.bl false) H) : rIsI [.bl b, .ty "tuple"] H Q := isi_of (.bl b) kit_bool_tuple rfl h
theorem kit_bool_dict : kitB "bool" "dict" = some false := by decide +kernel
theorem x_isi_bool_dict (h : Q (.bl false) H) : rIsI [.bl b, .ty "dict"] H Q := isi_of (.bl b) kit_bool_dict rfl h
theorem kit_str_int : kitB "str" "int" = some false := by decide +kernel
theorem x_isi_str_int {zs : Str} (h : Q (.bl false) H) : rIsI [.str zs, .ty "int"] H Q := isi_of (.str zs) kit_str_int rfl h
theorem kit_str_bool : kitB "str" "bool" = some false := by decide +kernel
theorem x_isi_str_bool {zs : Str} (h : Q (.bl false) H) : rIsI [.str zs, .ty "bool"] H Q := isi_of (.str zs) kit_str_bool rfl h
theorem kit_str_str : kitB "str" "str" = some true := by decide +kernel
theorem x_isi_str_str {zs : Str} (h : Q (.bl true) H) : rIsI [.str zs, .ty "str"] H Q := isi_of (.str zs) kit_str_str rfl h
theorem kit_str_list : kitB "str" "list" = some false := by decide +kernel
theorem x_isi_str_list {zs : Str} (h : Q (.bl false) H) : rIsI [.str zs, .ty "list"] H Q := isi_of (.str zs) kit_str_list rfl h
theorem kit_str_tuple : kitB "str" "tuple" = some false := by decide +kernel
theorem x_isi_str_tuple {zs : Str} (h : Q (.bl false) H) : rIsI [.str zs, .ty "tuple"] H Q := isi_of (.str zs) kit_str_tuple rfl h
theorem kit_str_dict : kitB "str" "dict" = some false := by decide +kernel
theorem x_isi_str_dict {zs : Str} (h : Q (.bl false) H) : rIsI [.str zs, .ty "dict"] H Q := isi_of (.str zs) kit_str_dict rfl h
theorem kit_NoneType_int : kitB "NoneType" "int" = some false := by decide +kernel
theorem x_isi_NoneType_int (h : Q (.bl false) H) : rIsI [.non, .ty "int"] H Q := isi_of (.non) kit_NoneType_int rfl h
theorem kit_NoneType_bool : kitB "NoneType" "bool" = some false := by decide +kernel
theorem x_isi_NoneType_bool (h : Q (.bl false) H) : rIsI [.non, .ty "bool"] H Q := isi_of (.non) kit_NoneType_bool rfl h
theorem kit_NoneType_str : kitB "NoneType" "str" = some false := by decide +kernel
theorem x_isi_NoneType_str (h : Q (.bl false) H) : rIsI [.non, .ty "str"] H Q := isi_of (.non) kit_NoneType_str rfl h
theorem kit_NoneType_list : kitB "NoneType" "list" = some false := by decide +kernel
theorem x_isi_NoneType_list (h : Q (.bl false) H) : rIsI [.non, .ty "list"] H Q := isi_of (.non) kit_NoneType_list rfl h
theorem kit_NoneType_tuple : kitB "NoneType" "tuple" = some false := by decide +kernel
theorem x_isi_NoneType_tuple (h : Q (.bl false) H) : rIsI [.non, .ty "tuple"] H Q := isi_of (.non) kit_NoneType_tuple rfl h
theorem kit_NoneType_dict : kitB "NoneType" "dict" = some false := by decide +kernel
theorem x_isi_NoneType_dict (h : Q (.bl false) H) : rIsI [.non, .ty "dict"] H Q := isi_of (.non) kit_NoneType_dict rfl h
theorem kit_list_int : kitB "list" "int" = some false := by decide +kernel
theorem kit_list_bool : kitB "list" "bool" = some false := by decide +kernel
theorem kit_list_str : kitB "list" "str" = some false := by decide +kernel
theorem kit_list_list : kitB "list" "list" = some true := by decide +kernel
theorem kit_list_tuple : kitB "list" "tuple" = some false := by decide +kernel
theorem kit_list_dict : kitB "list" "dict" = some false := by decide +kernel
theorem kit_tuple_int : kitB "tuple" "int" = some false := by decide +kernel
theorem kit_tuple_bool : kitB "tuple" "bool" = some false := by decide +kernel
theorem kit_tuple_str : kitB "tuple" "str" = some false := by decide +kernel
theorem kit_tuple_list : kitB "tuple" "list" = some false := by decide +kernel
theorem kit_tuple_tuple : kitB "tuple" "tuple" = some true := by decide +kernel
theorem kit_tuple_dict : kitB "tuple" "dict" = some false := by decide +kernel
theorem kit_dict_int : kitB "dict" "int" = some false := by decide +kernel
theorem kit_dict_bool : kitB "dict" "bool" = some false := by decide +kernel
theorem kit_dict_str : kitB "dict" "str" = some false := by decide +kernel
theorem kit_dict_list : kitB "dict" "list" = some false := by decide +kernel
theorem kit_dict_tuple : kitB "dict" "tuple" = some false := by decide +kernel
theorem kit_dict_dict : kitB "dict" "dict" = some true := by decide +kernel

/-! the heap -/
variable {L L' : List Ent} {p q : Addr} {xs : List V} {f : Str} {dx : Addr} {fs : List (Str × V)} {lo hi : Option Int}
theorem x_ixL (F : FH H L) (m : (p, Is (.lst xs)) ∈ L) (a : atI xs i = some v) (h : Q v H) : rIx S (.ref p) (.int i) H Q := .inl ⟨p, xs, i, v, rfl, rfl, .inl (.inl (.inl (F.get m))), a, h⟩
theorem x_ixT (F : FH H L) (m : (p, Is (.tup xs)) ∈ L) (a : atI xs i = some v) (h : Q v H) : rIx S (.ref p) (.int i) H Q := .inl ⟨p, xs, i, v, rfl, rfl, .inr (.inl (.inl (F.get m))), a, h⟩
theorem x_ixR (F : FH H L) (m : (p, IsR xs) ∈ L) (a : atI xs i = some v) (h : Q v H) : rIx S (.ref p) (.int i) H Q := .inl ⟨p, xs, i, v, rfl, rfl, .inl (.inl (F.getR m)), a, h⟩
theorem x_lenL (F : FH H L) (m : (p, Is (.lst xs)) ∈ L) (h : Q (.int (xs.length : Int)) H) : rLen S [.ref p] H Q := .inl ⟨p, xs, rfl, .inl (.inl (.inl (F.get m))), h⟩
theorem x_lenT (F : FH H L) (m : (p, Is (.tup xs)) ∈ L) (h : Q (.int (xs.length : Int)) H) : rLen S [.ref p] H Q := .inl ⟨p, xs, rfl, .inr (.inl (.inl (F.get m))), h⟩
theorem x_lenR (F : FH H L) (m : (p, IsR xs) ∈ L) (h : Q (.int (xs.length : Int)) H) : rLen S [.ref p] H Q := .inl ⟨p, xs, rfl, .inl (.inl (F.getR m)), h⟩
theorem x_fld (h : te σ H fun x H1 => ∃ a dx fs v, x = .ref a ∧ H1 a = some (.ins C dx fs) ∧ fs.lookup f = some v ∧ Q v H1) : eFld C f te σ H Q := h
theorem x_fldG {QV : V → Prop} (F : FH H L) (m : (p, Is (.ins C dx fs)) ∈ L) (l : fs.lookup f = some v) (h : QV v) : ∃ a dx fs v, V.ref p = .ref a ∧ H a = some (.ins C dx fs) ∧ fs.lookup f = some v ∧ QV v := ⟨p, dx, fs, v, rfl, F.get m, l, h⟩
theorem x_methG {m : Str} {B : Prop} (F : FH H L) (hm : (p, Is (.ins C dx fs)) ∈ L) (l : fs.lookup m = none) (h : B) : ∃ a dx fs, V.ref p = .ref a ∧ H a = some (.ins C dx fs) ∧ fs.lookup m = none ∧ B := ⟨p, dx, fs, rfl, F.get hm, l, h⟩
theorem x_inOwnF (F : FH H L) (m : (p, Is (.ins C dx fs)) ∈ L) (h : sp [.ref p, y] H (fun v H' => ∃ b, v = .bl b ∧ Q (.bl b) H') E) : rInOwn C false sp E y (.ref p) H Q := ⟨p, dx, fs, rfl, F.get m, h⟩
theorem x_inOwnT (F : FH H L) (m : (p, Is (.ins C dx fs)) ∈ L) (h : sp [.ref p, y] H (fun v H' => ∃ b, v = .bl b ∧ Q (.bl (!b)) H') E) : rInOwn C true sp E y (.ref p) H Q := ⟨p, dx, fs, rfl, F.get m, h⟩
theorem x_setF (h : tb σ H fun y H1 => te σ H1 fun x H2 => ∃ a dx fs, x = .ref a ∧ H2 a = some (.ins C dx fs) ∧ fs.length < 1000 ∧ nx σ (upd H2 a (.ins C dx (putF f y fs)))) : sSetF C f te tb ⟨nx, rt, bk, ct⟩ σ H := h
theorem x_setFG {QH : Hp → Prop} {fs' : List (Str × V)} (F : FH H L) (m : (p, Is (.ins C dx fs)) ∈ L) (hl : fs.length < 1000) (e : putF f y fs = fs') (pu : Put p (Is (.ins C dx fs)) (Is (.ins C dx fs')) L L') (h : ∀ H', FH H' L' → QH H') : ∃ a dx fs, V.ref p = .ref a ∧ H a = some (.ins C dx fs) ∧ fs.length < 1000 ∧ QH (upd H a (.ins C dx (putF f y fs))) :=
  ⟨p, dx, fs, rfl, F.get m, hl, by rw [e]; exact h _ (F.put pu trivial)⟩
theorem x_gsub {to ti : TE} {ts : TSet} (h : to σ H fun o H1 => ti σ H1 fun i H2 => ts o i v H2 fun H3 => QS σ H3) : gSub to ti ts v σ H QS := h
theorem x_setL {k : Nat} {QH : Hp → Prop} (F : FH H L) (m : (p, Is (.lst xs)) ∈ L) (a : ixN xs.length i = some k) (pu : Put p (Is (.lst xs)) (Is (.lst (xs.set k v))) L L') (h : ∀ H', FH H' L' → QH H') : rSetL (.ref p) (.int i) v H QH :=
  ⟨p, xs, i, k, rfl, rfl, F.get m, a, h _ (F.put pu trivial)⟩
theorem x_apd (h : te σ H fun x H1 => ∃ l, x = .ref l ∧ (∃ xs, H1 l = some (.lst xs)) ∧ tl σ H1 fun vs H2 => rAppend x vs H2 Q) : eApp te tl σ H Q := h
theorem x_apdG {B : Prop} (F : FH H L) (m : (p, Is (.lst xs)) ∈ L) (h : B) : ∃ l, V.ref p = .ref l ∧ (∃ xs, H l = some (.lst xs)) ∧ B := ⟨p, rfl, ⟨xs, F.get m⟩, h⟩
theorem x_append (F : FH H L) (m : (p, Is (.lst xs)) ∈ L) (z : xs.length < sizeLine) (pu : Put p (Is (.lst xs)) (Is (.lst (xs ++ [v]))) L L') (h : ∀ H', FH H' L' → Q .non H') : rAppend (.ref p) [v] H Q :=
  ⟨p, xs, v, rfl, rfl, F.get m, z, h _ (F.put pu trivial)⟩
theorem x_lstG {xs : List V} (F : FH H L) (z : xs.length ≤ sizeLine) (h : ∀ p H', H p = none → FH H' ((p, Is (.lst xs)) :: L) → Q (.ref p) H') : Klst xs H Q := ⟨z, fun p hp => h p _ hp (F.new hp)⟩
theorem x_tupG {xs : List V} (F : FH H L) (z : xs.length ≤ sizeLine) (h : ∀ p H', H p = none → FH H' ((p, Is (.tup xs)) :: L) → Q (.ref p) H') : Ktup xs H Q := ⟨z, fun p hp => h p _ hp (F.new hp)⟩
theorem x_makeG {C : Addr} {vs : List V} (F : FH H L) (h : ∀ x dx H', FH H' ((x, Is (.ins C dx [])) :: L) → sp (.ref x :: vs) H' (fun v H2 => v = .non ∧ Q (.ref x) H2) E) :
    Kmake C sp vs H Q E := fun x dx hx hd ne => by
  rw [List.append_nil]
  exact h x dx _ ((F.other hd).new (by rw [upd_ne (Ne.symm ne)]; exact hx))
theorem x_sl {tlo thi : TO} {rs : V → Option Int → Option Int → Hp → VK → Prop} (h : te σ H fun x H1 => tlo σ H1 fun l H2 => thi σ H2 fun u H3 => rs x l u H3 Q) : L2.tSl rs te tlo thi σ H Q := h
theorem x_nopart (h : QO none H) : tNoPart σ H QO := h
theorem x_part (h : te σ H fun x H1 => ∃ i, x = .int i ∧ QO (some i) H1) : tPart te σ H QO := h
theorem cutV_tail {x : V} : cutV (x :: xs) (some 1) none = xs := by
  unfold cutV
  rw [HT.sIx_none, show (1 : Int) = ((1 : Nat) : Int) from rfl, HT.sIx_nat]
  rw [show min 1 (x :: xs).length = 1 by rw [List.length_cons]; omega]
  show xs.take _ = xs
  rw [List.length_cons, show xs.length + 1 - 1 = xs.length by omega, List.take_length]
theorem x_slL (F : FH H L) (m : (p, Is (.lst xs)) ∈ L) (h : ∀ q H', H q = none → FH H' ((q, Is (.lst (cutV xs lo hi))) :: L) → Q (.ref q) H') : rSl S (.ref p) lo hi H Q := ⟨p, xs, rfl, .inl (.inl (F.get m)), fun q hq => h q _ hq (F.new hq)⟩
theorem x_sl1 {v : V} (F : FH H L) (m : (p, Is (.lst (v :: xs))) ∈ L) (h : ∀ q H', H q = none → FH H' ((q, Is (.lst xs)) :: L) → Q (.ref q) H') : rSl S (.ref p) (some 1) none H Q := ⟨p, _, rfl, .inl (.inl (F.get m)), fun q hq => h q _ hq (by rw [show cutV (v :: xs) (some 1) none = xs from cutV_tail]; exact F.new hq)⟩
theorem cutV_pre {n : Nat} {ys zs : List V} (e : ys.length = n) : cutV (ys ++ zs) none (some (n : Int)) = ys := by
  unfold cutV
  rw [HT.sIx_none, HT.sIx_nat, List.drop_zero, Nat.sub_zero, Nat.min_eq_left (by rw [List.length_append]; omega), ← e, List.take_left]
theorem x_slp1 {v0 : V} (F : FH H L) (m : (p, Is (.lst (v0 :: xs))) ∈ L) (h : ∀ q H', H q = none → FH H' ((q, Is (.lst [v0])) :: L) → Q (.ref q) H') : rSl S (.ref p) none (some 1) H Q := ⟨p, _, rfl, .inl (.inl (F.get m)), fun q hq => h q _ hq (by rw [show cutV (v0 :: xs) none (some 1) = [v0] from cutV_pre (ys := [v0]) (n := 1) rfl]; exact F.new hq)⟩
theorem x_slp2 {v0 v1 : V} (F : FH H L) (m : (p, Is (.lst (v0 :: v1 :: xs))) ∈ L) (h : ∀ q H', H q = none → FH H' ((q, Is (.lst [v0, v1])) :: L) → Q (.ref q) H') : rSl S (.ref p) none (some 2) H Q := ⟨p, _, rfl, .inl (.inl (F.get m)), fun q hq => h q _ hq (by rw [show cutV (v0 :: v1 :: xs) none (some 2) = [v0, v1] from cutV_pre (ys := [v0, v1]) (n := 2) rfl]; exact F.new hq)⟩
theorem x_slp3 {v0 v1 v2 : V} (F : FH H L) (m : (p, Is (.lst (v0 :: v1 :: v2 :: xs))) ∈ L) (h : ∀ q H', H q = none → FH H' ((q, Is (.lst [v0, v1, v2])) :: L) → Q (.ref q) H') : rSl S (.ref p) none (some 3) H Q := ⟨p, _, rfl, .inl (.inl (F.get m)), fun q hq => h q _ hq (by rw [show cutV (v0 :: v1 :: v2 :: xs) none (some 3) = [v0, v1, v2] from cutV_pre (ys := [v0, v1, v2]) (n := 3) rfl]; exact F.new hq)⟩
theorem x_slp4 {v0 v1 v2 v3 : V} (F : FH H L) (m : (p, Is (.lst (v0 :: v1 :: v2 :: v3 :: xs))) ∈ L) (h : ∀ q H', H q = none → FH H' ((q, Is (.lst [v0, v1, v2, v3])) :: L) → Q (.ref q) H') : rSl S (.ref p) none (some 4) H Q := ⟨p, _, rfl, .inl (.inl (F.get m)), fun q hq => h q _ hq (by rw [show cutV (v0 :: v1 :: v2 :: v3 :: xs) none (some 4) = [v0, v1, v2, v3] from cutV_pre (ys := [v0, v1, v2, v3]) (n := 4) rfl]; exact F.new hq)⟩
theorem x_slp5 {v0 v1 v2 v3 v4 : V} (F : FH H L) (m : (p, Is (.lst (v0 :: v1 :: v2 :: v3 :: v4 :: xs))) ∈ L) (h : ∀ q H', H q = none → FH H' ((q, Is (.lst [v0, v1, v2, v3, v4])) :: L) → Q (.ref q) H') : rSl S (.ref p) none (some 5) H Q := ⟨p, _, rfl, .inl (.inl (F.get m)), fun q hq => h q _ hq (by rw [show cutV (v0 :: v1 :: v2 :: v3 :: v4 :: xs) none (some 5) = [v0, v1, v2, v3, v4] from cutV_pre (ys := [v0, v1, v2, v3, v4]) (n := 5) rfl]; exact F.new hq)⟩
theorem x_slp6 {v0 v1 v2 v3 v4 v5 : V} (F : FH H L) (m : (p, Is (.lst (v0 :: v1 :: v2 :: v3 :: v4 :: v5 :: xs))) ∈ L) (h : ∀ q H', H q = none → FH H' ((q, Is (.lst [v0, v1, v2, v3, v4, v5])) :: L) → Q (.ref q) H') : rSl S (.ref p) none (some 6) H Q := ⟨p, _, rfl, .inl (.inl (F.get m)), fun q hq => h q _ hq (by rw [show cutV (v0 :: v1 :: v2 :: v3 :: v4 :: v5 :: xs) none (some 6) = [v0, v1, v2, v3, v4, v5] from cutV_pre (ys := [v0, v1, v2, v3, v4, v5]) (n := 6) rfl]; exact F.new hq)⟩
theorem x_slp7 {v0 v1 v2 v3 v4 v5 v6 : V} (F : FH H L) (m : (p, Is (.lst (v0 :: v1 :: v2 :: v3 :: v4 :: v5 :: v6 :: xs))) ∈ L) (h : ∀ q H', H q = none → FH H' ((q, Is (.lst [v0, v1, v2, v3, v4, v5, v6])) :: L) → Q (.ref q) H') : rSl S (.ref p) none (some 7) H Q := ⟨p, _, rfl, .inl (.inl (F.get m)), fun q hq => h q _ hq (by rw [show cutV (v0 :: v1 :: v2 :: v3 :: v4 :: v5 :: v6 :: xs) none (some 7) = [v0, v1, v2, v3, v4, v5, v6] from cutV_pre (ys := [v0, v1, v2, v3, v4, v5, v6]) (n := 7) rfl]; exact F.new hq)⟩
theorem x_slp8 {v0 v1 v2 v3 v4 v5 v6 v7 : V} (F : FH H L) (m : (p, Is (.lst (v0 :: v1 :: v2 :: v3 :: v4 :: v5 :: v6 :: v7 :: xs))) ∈ L) (h : ∀ q H', H q = none → FH H' ((q, Is (.lst [v0, v1, v2, v3, v4, v5, v6, v7])) :: L) → Q (.ref q) H') : rSl S (.ref p) none (some 8) H Q := ⟨p, _, rfl, .inl (.inl (F.get m)), fun q hq => h q _ hq (by rw [show cutV (v0 :: v1 :: v2 :: v3 :: v4 :: v5 :: v6 :: v7 :: xs) none (some 8) = [v0, v1, v2, v3, v4, v5, v6, v7] from cutV_pre (ys := [v0, v1, v2, v3, v4, v5, v6, v7]) (n := 8) rfl]; exact F.new hq)⟩
theorem x_slR (F : FH H L) (m : (p, IsR xs) ∈ L) (h : ∀ q H', H q = none → FH H' ((q, Is (.lst (cutV xs lo hi))) :: L) → Q (.ref q) H') : rSl S (.ref p) lo hi H Q := ⟨p, xs, rfl, .inl (F.getR m), fun q hq => h q _ hq (F.new hq)⟩
theorem x_slS (F : FH H L) (m : S p (.lst xs)) (h : ∀ q H', H q = none → FH H' ((q, Is (.lst (cutV xs lo hi))) :: L) → Q (.ref q) H') : rSl S (.ref p) lo hi H Q := ⟨p, xs, rfl, .inr m, fun q hq => h q _ hq (F.new hq)⟩
theorem x_ixS (m : S p (.lst xs)) (a : atI xs i = some v) (h : Q v H) : rIx S (.ref p) (.int i) H Q := .inl ⟨p, xs, i, v, rfl, rfl, .inl (.inr m), a, h⟩
theorem x_lenS (m : S p (.lst xs)) (h : Q (.int (xs.length : Int)) H) : rLen S [.ref p] H Q := .inl ⟨p, xs, rfl, .inl (.inr m), h⟩
theorem x_none (h : v = .non → Q v H) : v = .non → Q v H := h
theorem x_initEnd {B : Prop} (h : B) : V.non = .non ∧ B := ⟨rfl, h⟩
/-! loops -/
def ForR (g : TG) (s1 : TS) (nx : K0) (rt : VK) (lo hi : Int) (σ : L2.St) (H : Hp) : Prop := (-(2 ^ 62) ≤ lo ∧ lo < 2 ^ 62 ∧ -(2 ^ 62) ≤ hi ∧ hi < 2 ^ 62) ∧ ∃ Pv : Nat → L2.St → Hp → Prop, Pv 0 σ H ∧
    (∀ (i : Nat) σ H, lo + i < hi → Pv i σ H → g (.int (lo + i)) σ H fun σ' H' => s1 ⟨Pv (i + 1), rt, nx, Pv (i + 1)⟩ σ' H') ∧ ∀ σ H, Pv (hi - lo).toNat σ H → nx σ H
theorem x_forR1 (h : te σ H fun y H1 => ∃ j, y = .int j ∧ ForR g s1 nx rt 0 j σ H1) : sForR none te g s1 ⟨nx, rt, bk, ct⟩ σ H := h
theorem x_forR2 (h : ta σ H fun x H1 => tb σ H1 fun y H2 => ∃ i j, x = .int i ∧ y = .int j ∧ ForR g s1 nx rt i j σ H2) : sForR (some ta) tb g s1 ⟨nx, rt, bk, ct⟩ σ H := h
theorem x_int1 {QK : Int → Prop} (h : QK i) : ∃ k, V.int i = .int k ∧ QK k := ⟨i, rfl, h⟩
theorem x_int2 {QK : Int → Int → Prop} (h : QK i j) : ∃ k l, V.int i = .int k ∧ V.int j = .int l ∧ QK k l := ⟨i, j, rfl, rfl, h⟩
/-- a range from 0 by an invariant -/
theorem forG (Pv : Nat → L2.St → Hp → Prop) (h2 : j < 4611686018427387904) (h1 : -4611686018427387904 ≤ j) (h0 : Pv 0 σ H)
    (hs : ∀ (i : Nat) σ H, (i : Int) < j → Pv i σ H → g (.int (i : Int)) σ H fun σ' H' => s1 ⟨Pv (i + 1), rt, nx, Pv (i + 1)⟩ σ' H') (hd : ∀ σ H, Pv j.toNat σ H → nx σ H) : ForR g s1 nx rt 0 j σ H :=
  ⟨⟨by decide, by decide, h1, h2⟩, Pv, h0, fun i σ H h p => by rw [Int.zero_add] at h ⊢; exact hs i σ H h p, fun σ H p => hd σ H (by rw [Int.sub_zero] at p; exact p)⟩
theorem forG2 (Pv : Nat → L2.St → Hp → Prop) (h : -4611686018427387904 ≤ i ∧ i < 4611686018427387904 ∧ -4611686018427387904 ≤ j ∧ j < 4611686018427387904) (h0 : Pv 0 σ H)
    (hs : ∀ (n : Nat) σ H, i + n < j → Pv n σ H → g (.int (i + n)) σ H fun σ' H' => s1 ⟨Pv (n + 1), rt, nx, Pv (n + 1)⟩ σ' H') (hd : ∀ σ H, Pv (j - i).toNat σ H → nx σ H) : ForR g s1 nx rt i j σ H := ⟨h, Pv, h0, hs, hd⟩
/-- a while by a measure -/
def WhB (W : Nat → L2.St → Hp → Prop) (m : Nat) (s1 : TS) (nx : K0) (rt : VK) (σ : L2.St) (H1 : Hp) : Prop := ∃ N : L2.St → Hp → Prop, (∀ σ' H', N σ' H' → ∃ m', m' < m ∧ W m' σ' H') ∧ s1 ⟨N, rt, nx, N⟩ σ H1
def WhN (W : Nat → L2.St → Hp → Prop) (m : Nat) : K0 := fun σ' H' => ∃ m', m' < m ∧ W m' σ' H'
theorem x_whB {W : Nat → L2.St → Hp → Prop} {m : Nat} (h : s1 ⟨WhN W m, rt, nx, WhN W m⟩ σ H) : WhB W m s1 nx rt σ H := ⟨_, fun _ _ h => h, h⟩
theorem whileG (W : Nat → L2.St → Hp → Prop) (m0 : Nat) (h0 : W m0 σ H) (hs : ∀ m σ H, W m σ H → t σ H fun b H1 => if b = true then WhB W m s1 nx rt σ H1 else nx σ H1) : tWhile t s1 ⟨nx, rt, bk, ct⟩ σ H := ⟨W, ⟨m0, h0⟩, hs⟩
/-- the turns one by one: n turns from lo on; P behind them, bk behind a break -/
def forK (g : TG) (s1 : TS) (P bk : K0) (rt : VK) : Nat → Int → L2.St → Hp → Prop
  | 0, _, σ, H => P σ H
  | n + 1, lo, σ, H => g (.int lo) σ H fun σ' H' => s1 ⟨forK g s1 P bk rt n (lo + 1), rt, bk, forK g s1 P bk rt n (lo + 1)⟩ σ' H'
theorem forUC (n : Nat) (Post : L2.St → Hp → Prop) (e : j = (n : Int)) (h2 : j < 4611686018427387904) (h : forK g s1 Post nx rt n 0 σ H) (hd : ∀ σ H, Post σ H → nx σ H) : ForR g s1 nx rt 0 j σ H := by
  refine forG (fun i σ H => i ≤ n ∧ forK g s1 Post nx rt (n - i) (i : Int) σ H) h2 (by omega) ⟨Nat.zero_le _, h⟩ (fun i σ H hi p => ?_) fun σ H p => ?_
  · obtain ⟨q1, q2⟩ := p
    have e1 : n - i = (n - (i + 1)) + 1 := by omega
    rw [e1] at q2
    have e2 : ((i + 1 : Nat) : Int) = (i : Int) + 1 := by omega
    have e3 : (fun σ H => i + 1 ≤ n ∧ forK g s1 Post nx rt (n - (i + 1)) ((i + 1 : Nat) : Int) σ H) = forK g s1 Post nx rt (n - (i + 1)) ((i : Int) + 1) := by
      funext σ H
      rw [e2]
      exact propext ⟨fun h => h.2, fun h => ⟨by omega, h⟩⟩
    show g (.int (i : Int)) σ H fun σ' H' => s1 ⟨fun σ H => i + 1 ≤ n ∧ forK g s1 Post nx rt (n - (i + 1)) ((i + 1 : Nat) : Int) σ H, rt, nx, fun σ H => i + 1 ≤ n ∧ forK g s1 Post nx rt (n - (i + 1)) ((i + 1 : Nat) : Int) σ H⟩ σ' H'
    rw [e3]
    exact q2
  · obtain ⟨_, q⟩ := p
    have e4 : n - j.toNat = 0 := by omega
    rw [e4] at q
    exact hd _ _ q
theorem forU (n : Nat) (e : j = (n : Int)) (h2 : j < 4611686018427387904) (h : forK g s1 nx nx rt n 0 σ H) : ForR g s1 nx rt 0 j σ H := forUC n nx e h2 h fun _ _ h => h
theorem x_forK {n : Nat} (h : g (.int i) σ H fun σ' H' => s1 ⟨forK g s1 nx bk rt n (i + 1), rt, bk, forK g s1 nx bk rt n (i + 1)⟩ σ' H') : forK g s1 nx bk rt (n + 1) i σ H := h
theorem x_forK0 (h : nx σ H) : forK g s1 nx bk rt 0 i σ H := h
/-- where a list is read -/
inductive Src (S : Sta) (L : List Ent) (p : Addr) (xs : List V) : Prop where
  | is (m : (p, Is (.lst xs)) ∈ L)
  | rd (m : (p, IsR xs) ∈ L)
  | st (m : S p (.lst xs))
theorem Src.rdS {L : List Ent} (m : Src S L p xs) (F : FH H L) : RdS S H p (.lst xs) := by
  cases m with
  | is m => exact .inl (.inl (F.get m))
  | rd m => exact .inl (F.getR m)
  | st m => exact .inr m
theorem src_of {K : PySem.W.Frag} (st : S = SK K) (h : SqL K H p xs) : ∃ L, FH H L ∧ Src S L p xs := by
  subst st
  rcases h with h | h
  · refine ⟨[(p, IsR xs)], ⟨[p] ++ [], .cons (p := p) (φ := IsR xs) (k := [p]) ⟨rfl, ?_⟩ .nil (by simp) (fun a _ m => by cases m)⟩, .rd (List.Mem.head _)⟩
    rcases h with h | ⟨o, h⟩
    · exact ⟨_, h, .inl rfl⟩
    · exact ⟨_, h, .inr ⟨o, rfl⟩⟩
  · exact ⟨[], .nil, .st h⟩
def ForS (S : Sta) (g : TG) (s1 : TS) (nx : K0) (rt : VK) (x : V) (σ : L2.St) (H : Hp) : Prop := ∃ a xs, x = .ref a ∧ ∃ Pv : Nat → L2.St → Hp → Prop, Pv 0 σ H ∧ Stays S a xs (fun i H => ∃ σ, Pv i σ H) ∧
  (∀ i y σ H, xs[i]? = some y → Pv i σ H → g y σ H fun σ' H' => s1 ⟨Pv (i + 1), rt, nx, Pv (i + 1)⟩ σ' H') ∧ ∀ σ H, Pv xs.length σ H → nx σ H
theorem x_forE (h : te σ H fun x H1 => ForS S g s1 nx rt x σ H1) : sFor S te g s1 ⟨nx, rt, bk, ct⟩ σ H := h
/-- a list by an invariant -/
theorem forS (Pv : Nat → L2.St → Hp → Prop) (h0 : Pv 0 σ H) (hst : ∀ i σ H, i ≤ xs.length → Pv i σ H → RdS S H p (.lst xs))
    (hs : ∀ i y σ H, xs[i]? = some y → Pv i σ H → g y σ H fun σ' H' => s1 ⟨Pv (i + 1), rt, nx, Pv (i + 1)⟩ σ' H') (hd : ∀ σ H, Pv xs.length σ H → nx σ H) : ForS S g s1 nx rt (.ref p) σ H :=
  ⟨p, xs, rfl, Pv, h0, .inl fun i H hi ⟨σ, q⟩ => hst i σ H hi q, hs, hd⟩
/-- a list that stands: what is known of the heap is the same at each turn -/
theorem forL (Pv : Nat → L2.St → Prop) (F : FH H L) (m : Src S L p xs) (h0 : Pv 0 σ)
    (hs : ∀ i y σ H, xs[i]? = some y → Pv i σ → FH H L → g y σ H fun σ' H' => s1 ⟨fun σ H => Pv (i + 1) σ ∧ FH H L, rt, nx, fun σ H => Pv (i + 1) σ ∧ FH H L⟩ σ' H') (hd : ∀ σ H, Pv xs.length σ → FH H L → nx σ H) : ForS S g s1 nx rt (.ref p) σ H :=
  forS (fun i σ H => Pv i σ ∧ FH H L) ⟨h0, F⟩ (fun i σ H _ q => m.rdS q.2) (fun i y σ H e q => hs i y σ H e q.1 q.2) fun σ H q => hd σ H q.1 q.2
/-- the turns one by one over a known tuple -/
def forKS (S : Sta) (a : Addr) (u : HO) (g : TG) (s1 : TS) (P bk : K0) (rt : VK) : List V → L2.St → Hp → Prop
  | [], σ, H => P σ H
  | x :: xs, σ, H => g x σ H fun σ' H' => s1 ⟨fun σ H => RdS S H a u ∧ forKS S a u g s1 P bk rt xs σ H, rt, bk, fun σ H => RdS S H a u ∧ forKS S a u g s1 P bk rt xs σ H⟩ σ' H'
theorem forSU {k : Bool} (rd : RdS S H p (if k then .lst xs else .tup xs)) (Post : K0) (h : forKS S p (if k then .lst xs else .tup xs) g s1 Post nx rt xs σ H) (hp : ∀ σ H, Post σ H → nx σ H) : ForS S g s1 nx rt (.ref p) σ H := by
  refine ⟨p, xs, rfl, fun i σ H => RdS S H p (if k then .lst xs else .tup xs) ∧ forKS S p (if k then .lst xs else .tup xs) g s1 Post nx rt (xs.drop i) σ H, ⟨rd, by rw [List.drop_zero]; exact h⟩, ?_, fun i y σ H e q => ?_, fun σ H q => ?_⟩
  · cases k with
    | true => exact .inl fun i H _ ⟨σ, q, _⟩ => q
    | false => exact .inr fun i H _ ⟨σ, q, _⟩ => q
  · obtain ⟨_, q⟩ := q
    have hi := (List.getElem?_eq_some_iff.mp e)
    rw [List.drop_eq_getElem_cons hi.1, hi.2] at q
    exact q
  · obtain ⟨_, q⟩ := q
    rw [List.drop_length] at q
    exact hp σ H q
theorem forTU (F : FH H L) (m : (p, Is (.tup xs)) ∈ L) (h : forKS S p (.tup xs) g s1 nx nx rt xs σ H) : ForS S g s1 nx rt (.ref p) σ H := forSU (k := false) (.inl (.inl (F.get m))) nx h fun _ _ h => h
theorem forLU (F : FH H L) (m : (p, Is (.lst xs)) ∈ L) (h : forKS S p (.lst xs) g s1 nx nx rt xs σ H) : ForS S g s1 nx rt (.ref p) σ H := forSU (k := true) (.inl (.inl (F.get m))) nx h fun _ _ h => h
theorem x_forKS {a : Addr} {u : HO} (h : g x σ H fun σ' H' => s1 ⟨fun σ H => RdS S H a u ∧ forKS S a u g s1 nx bk rt xs σ H, rt, bk, fun σ H => RdS S H a u ∧ forKS S a u g s1 nx bk rt xs σ H⟩ σ' H') : forKS S a u g s1 nx bk rt (x :: xs) σ H := h
theorem x_forKS0 {a : Addr} {u : HO} (h : nx σ H) : forKS S a u g s1 nx bk rt [] σ H := h
theorem x_rdT (F : FH H L) (m : (p, Is (.tup xs)) ∈ L) (h : A) : RdS S H p (.tup xs) ∧ A := ⟨.inl (.inl (F.get m)), h⟩
theorem x_rdL (F : FH H L) (m : (p, Is (.lst xs)) ∈ L) (h : A) : RdS S H p (.lst xs) ∧ A := ⟨.inl (.inl (F.get m)), h⟩
/-! comprehensions -/
def LcS (S : Sta) (g : TG) (tt : TT) (tel : TE) (vs : List Nat) (Q : VK) (x : V) (σ : L2.St) (H1 : Hp) : Prop := ∃ a xs, x = .ref a ∧ ∃ k : Bool, RdS S H1 a (if k then .lst xs else .tup xs) ∧ ∀ D, H1 D = none → ∃ Pv : Nat → Hp → Prop, Pv 0 (upd H1 D (.lst [])) ∧ (∀ i H, i ≤ xs.length → Pv i H → RdS S H a (if k then .lst xs else .tup xs)) ∧
  (∀ i y H, xs[i]? = some y → Pv i H → g y (wipe σ vs) H fun σ2 H2 => wipe σ2 vs = wipe σ vs ∧ tt σ2 H2 fun b H3 => if b = true then tel σ2 H3 fun z H4 => ∃ acc, H4 D = some (.lst acc) ∧ acc.length < sizeLine ∧ Pv (i + 1) (upd H4 D (.lst (acc ++ [z]))) else Pv (i + 1) H3) ∧
  ∀ H, Pv xs.length H → Q (.ref D) H
theorem x_lcE {tt : TT} {tel : TE} {vs : List Nat} (h : te σ H fun x H1 => LcS S g tt tel vs Q x σ H1) : eLc S te g tt tel vs σ H Q := h
theorem x_wipe {σ2 σw : L2.St} {vs : List Nat} (e : wipe σ2 vs = σw) (h : A) : wipe σ2 vs = σw ∧ A := ⟨e, h⟩
theorem x_yes (h : QB true H) : tYes σ H QB := h
/-- a comprehension over a list that stands, whose element leaves the heap as it is -/
theorem lcFM {tt : TT} {tel : TE} {vs : List Nat} {σw : L2.St} (f : V → V) (keep : V → Bool) (F : FH H L) (m : Src S L p xs) (z : xs.length < 16777216) (ew : wipe σ vs = σw)
    (hs : ∀ y H (QX : V → Hp → Prop) (A : Hp → Prop), y ∈ xs → FH H L → (keep y = true → QX (f y) H) → (keep y = false → A H) → g y σw H fun σ2 H2 => wipe σ2 vs = σw ∧ tt σ2 H2 fun b H3 => if b = true then tel σ2 H3 QX else A H3)
    (hd : ∀ D H', FH H' ((D, Is (.lst ((xs.filter keep).map f))) :: L) → Q (.ref D) H') : LcS S g tt tel vs Q (.ref p) σ H := by
  have rd : ∀ H, FH H L → RdS S H p (.lst xs) := fun H F => m.rdS F
  subst ew
  refine ⟨p, xs, rfl, true, rd H F, fun D hD => ⟨fun i H => FH H ((D, Is (.lst (((xs.take i).filter keep).map f))) :: L), F.new hD, fun i H _ q => rd H q.tail, fun i y H e q => ?_, fun H q => hd D H ?_⟩⟩
  · have hi : i < xs.length := (List.getElem?_eq_some_iff.mp e).1
    have et : xs.take (i + 1) = xs.take i ++ [y] := by rw [List.take_add_one, e]; rfl
    refine hs y H _ _ (List.mem_of_getElem? e) q.tail (fun k => ⟨_, q.get (List.Mem.head _), ?_, ?_⟩) fun k => ?_
    · have h1 : (((xs.take i).filter keep).map f).length ≤ i := by
        rw [List.length_map]
        exact Nat.le_trans (List.length_filter_le _ _) (by rw [List.length_take]; exact Nat.min_le_left _ _)
      rw [sizeLine_eq]; omega
    · show FH _ ((D, Is (.lst (((xs.take (i + 1)).filter keep).map f))) :: L)
      rw [et, List.filter_append, List.map_append]
      have e1 : ([y].filter keep).map f = [f y] := by simp [k]
      rw [e1]
      exact q.put .here trivial
    · show FH _ ((D, Is (.lst (((xs.take (i + 1)).filter keep).map f))) :: L)
      rw [et, List.filter_append, List.map_append]
      have e1 : ([y].filter keep).map f = [] := by simp [k]
      rw [e1, List.append_nil]
      exact q
  · have q : FH H ((D, Is (.lst (((xs.take xs.length).filter keep).map f))) :: L) := q
    rw [List.take_length] at q
    exact q
/-- .. of ints by a map of ints -/
theorem lcII {ns : List Int} {tel : TE} {vs : List Nat} {σw : L2.St} (f : Int → Int) (F : FH H L) (m : Src S L p (ns.map V.int)) (z : ns.length < 16777216) (ew : wipe σ vs = σw)
    (hs : ∀ y H (QX : V → Hp → Prop), y ∈ ns → FH H L → QX (.int (f y)) H → g (.int y) σw H fun σ2 H2 => wipe σ2 vs = σw ∧ tel σ2 H2 QX)
    (hd : ∀ D H', FH H' ((D, Is (.lst ((ns.map f).map V.int))) :: L) → Q (.ref D) H') : LcS S g tYes tel vs Q (.ref p) σ H := by
  refine lcFM (xs := ns.map V.int) (fun v => match v with | .int i => .int (f i) | v => v) (fun _ => true) F m (by rw [List.length_map]; exact z) ew (fun y H QX A hy F' hk hA => ?_) fun D H' F' => hd D H' ?_
  · obtain ⟨n, hn, e⟩ := List.mem_map.mp hy
    subst e
    exact hs n H QX hn F' (hk rfl)
  · have e : ((ns.map V.int).filter fun _ => true).map (fun v => match v with | .int i => V.int (f i) | v => v) = (ns.map f).map V.int := by
      rw [List.filter_eq_self.mpr (fun _ _ => rfl), List.map_map, List.map_map]
      rfl
    rw [e] at F'
    exact F'
/-- .. of ints, with a test -/
theorem lcIK {ns : List Int} {tt : TT} {tel : TE} {vs : List Nat} {σw : L2.St} (f : Int → Int) (keep : Int → Bool) (F : FH H L) (m : Src S L p (ns.map V.int)) (z : ns.length < 16777216) (ew : wipe σ vs = σw)
    (hs : ∀ y H (QX : V → Hp → Prop) (A : Hp → Prop), y ∈ ns → FH H L → (keep y = true → QX (.int (f y)) H) → (keep y = false → A H) → g (.int y) σw H fun σ2 H2 => wipe σ2 vs = σw ∧ tt σ2 H2 fun b H3 => if b = true then tel σ2 H3 QX else A H3)
    (hd : ∀ D H', FH H' ((D, Is (.lst (((ns.filter keep).map f).map V.int))) :: L) → Q (.ref D) H') : LcS S g tt tel vs Q (.ref p) σ H := by
  refine lcFM (xs := ns.map V.int) (fun v => match v with | .int i => .int (f i) | v => v) (fun v => match v with | .int i => keep i | _ => false) F m (by rw [List.length_map]; exact z) ew (fun y H QX A hy F' hk hA => ?_) fun D H' F' => hd D H' ?_
  · obtain ⟨n, hn, e⟩ := List.mem_map.mp hy
    subst e
    exact hs n H QX A hn F' hk hA
  · have e : ((ns.map V.int).filter fun v => match v with | .int i => keep i | _ => false).map (fun v => match v with | .int i => V.int (f i) | v => v) = ((ns.filter keep).map f).map V.int := by
      rw [List.filter_map, List.map_map, List.map_map]
      rfl
    rw [e] at F'
    exact F'
/-- a known list, the turns one by one -/
def lcPut (D : Addr) (z : V) (k : Hp → Prop) (H : Hp) : Prop := ∃ acc, H D = some (.lst acc) ∧ acc.length < sizeLine ∧ k (upd H D (.lst (acc ++ [z])))
theorem x_lcPut {D : Addr} {z : V} {acc : List V} {k : Hp → Prop} {L' : List Ent} (F : FH H L) (pu : Put D (Is (.lst acc)) (Is (.lst (acc ++ [z]))) L L') (sz : acc.length < 16777216) (h : ∀ H', FH H' L' → k H') : lcPut D z k H :=
  ⟨acc, F.get pu.mem, by rw [sizeLine_eq]; exact sz, h _ (F.put pu trivial)⟩
def lcKS (S : Sta) (a : Addr) (u : HO) (g : TG) (tt : TT) (tel : TE) (vs : List Nat) (σw : L2.St) (D : Addr) (Q : VK) : List V → Hp → Prop
  | [], H => Q (.ref D) H
  | x :: xs, H => g x σw H fun σ2 H2 => wipe σ2 vs = σw ∧ tt σ2 H2 fun b H3 => if b = true then tel σ2 H3 fun z H4 => lcPut D z (fun H => RdS S H a u ∧ lcKS S a u g tt tel vs σw D Q xs H) H4 else RdS S H3 a u ∧ lcKS S a u g tt tel vs σw D Q xs H3
theorem lcLU {tt : TT} {tel : TE} {vs : List Nat} {σw : L2.St} (F : FH H L) (m : (p, Is (.lst xs)) ∈ L) (ew : wipe σ vs = σw) (h : ∀ D H', FH H' ((D, Is (.lst [])) :: L) → lcKS S p (.lst xs) g tt tel vs σw D Q xs H') : LcS S g tt tel vs Q (.ref p) σ H := by
  subst ew
  refine ⟨p, xs, rfl, true, .inl (.inl (F.get m)), fun D hD => ⟨fun i H => RdS S H p (.lst xs) ∧ lcKS S p (.lst xs) g tt tel vs (wipe σ vs) D Q (xs.drop i) H, ⟨.inl (.inl ((F.new hD).get (List.mem_cons_of_mem _ m))), by rw [List.drop_zero]; exact h D _ (F.new hD)⟩, fun i H _ q => q.1, fun i y H e q => ?_, fun H q => ?_⟩⟩
  · obtain ⟨_, q⟩ := q
    have hi := (List.getElem?_eq_some_iff.mp e)
    rw [List.drop_eq_getElem_cons hi.1, hi.2] at q
    exact q
  · obtain ⟨_, q⟩ := q
    rw [List.drop_length] at q
    exact q
theorem x_lcKS {a D : Addr} {u : HO} {tt : TT} {tel : TE} {vs : List Nat} {σw : L2.St} (h : g x σw H fun σ2 H2 => wipe σ2 vs = σw ∧ tt σ2 H2 fun b H3 => if b = true then tel σ2 H3 fun z H4 => lcPut D z (fun H => RdS S H a u ∧ lcKS S a u g tt tel vs σw D Q xs H) H4 else RdS S H3 a u ∧ lcKS S a u g tt tel vs σw D Q xs H3) : lcKS S a u g tt tel vs σw D Q (x :: xs) H := h
theorem x_lcKS0 {a D : Addr} {u : HO} {tt : TT} {tel : TE} {vs : List Nat} {σw : L2.St} (h : Q (.ref D) H) : lcKS S a u g tt tel vs σw D Q [] H := h
/-- over a range, the turns one by one -/
def LcR (g : TG) (tt : TT) (tel : TE) (vs : List Nat) (Q : VK) (y : V) (σ : L2.St) (H1 : Hp) : Prop := ∃ j, y = .int j ∧ ((-(2 ^ 62) ≤ (0 : Int) ∧ (0 : Int) < 2 ^ 62 ∧ -(2 ^ 62) ≤ j ∧ j < 2 ^ 62) ∧ ∀ D, H1 D = none → ∃ Pv : Nat → Hp → Prop, Pv 0 (upd H1 D (.lst [])) ∧
    (∀ (i : Nat) H, 0 + (i : Int) < j → Pv i H → g (.int (0 + (i : Int))) (wipe σ vs) H fun σ2 H2 => wipe σ2 vs = wipe σ vs ∧ tt σ2 H2 fun b H3 => if b = true then tel σ2 H3 fun z H4 => ∃ acc, H4 D = some (.lst acc) ∧ acc.length < sizeLine ∧ Pv (i + 1) (upd H4 D (.lst (acc ++ [z]))) else Pv (i + 1) H3) ∧
    ∀ H, Pv (j - 0).toNat H → Q (.ref D) H)
theorem x_lcR {tt : TT} {tel : TE} {vs : List Nat} (h : te σ H fun y H1 => LcR g tt tel vs Q y σ H1) : eLcR none te g tt tel vs σ H Q := h
def lcKR (g : TG) (tt : TT) (tel : TE) (vs : List Nat) (σw : L2.St) (D : Addr) (Q : VK) : List V → Hp → Prop
  | [], H => Q (.ref D) H
  | x :: xs, H => g x σw H fun σ2 H2 => wipe σ2 vs = σw ∧ tt σ2 H2 fun b H3 => if b = true then tel σ2 H3 fun z H4 => lcPut D z (fun H => lcKR g tt tel vs σw D Q xs H) H4 else lcKR g tt tel vs σw D Q xs H3
theorem lcRU {tt : TT} {tel : TE} {vs : List Nat} {σw : L2.St} (n : Nat) (ej : j = (n : Int)) (hn : (n : Int) < 4611686018427387904) (exs : (List.range n).map (fun (i : Nat) => V.int (0 + (i : Int))) = xs) (F : FH H L) (ew : wipe σ vs = σw) (h : ∀ D H', FH H' ((D, Is (.lst [])) :: L) → lcKR g tt tel vs σw D Q xs H') : LcR g tt tel vs Q (.int j) σ H := by
  subst ew ej exs
  have e62 : (2 : Int) ^ 62 = 4611686018427387904 := by decide
  refine ⟨_, rfl, ⟨by rw [e62]; decide, by rw [e62]; decide, by rw [e62]; omega, by rw [e62]; exact hn⟩, fun D hD => ⟨fun i H => lcKR g tt tel vs (wipe σ vs) D Q (((List.range n).map (fun (i : Nat) => V.int (0 + (i : Int)))).drop i) H, by (dsimp only; rw [List.drop_zero]; exact h D _ (F.new hD)), fun i H hi q => ?_, fun H q => ?_⟩⟩
  · dsimp only at q
    have hl : i < ((List.range n).map (fun (i : Nat) => V.int (0 + (i : Int)))).length := by rw [List.length_map, List.length_range]; omega
    rw [List.drop_eq_getElem_cons hl] at q
    rw [List.getElem_map, List.getElem_range] at q
    exact q
  · have e1 : ((n : Int) - 0).toNat = n := by omega
    dsimp only at q
    rw [e1, List.drop_of_length_le (by rw [List.length_map, List.length_range]; exact Nat.le_refl _)] at q
    exact q
theorem x_lcKR {D : Addr} {tt : TT} {tel : TE} {vs : List Nat} {σw : L2.St} (h : g x σw H fun σ2 H2 => wipe σ2 vs = σw ∧ tt σ2 H2 fun b H3 => if b = true then tel σ2 H3 fun z H4 => lcPut D z (fun H => lcKR g tt tel vs σw D Q xs H) H4 else lcKR g tt tel vs σw D Q xs H3) : lcKR g tt tel vs σw D Q (x :: xs) H := h
theorem x_lcKR0 {D : Addr} {tt : TT} {tel : TE} {vs : List Nat} {σw : L2.St} (h : Q (.ref D) H) : lcKR g tt tel vs σw D Q [] H := h
theorem x_listL (F : FH H L) (m : (p, Is (.lst xs)) ∈ L) (h : ∀ r H', H r = none → FH H' ((r, Is (.lst xs)) :: L) → Q (.ref r) H') : rListOf S [.ref p] H Q := ⟨p, xs, rfl, .inl (RdS.of (.inl (F.get m))), fun r hr => h r _ hr (F.new hr)⟩
theorem x_listT (F : FH H L) (m : (p, Is (.tup xs)) ∈ L) (h : ∀ r H', H r = none → FH H' ((r, Is (.lst xs)) :: L) → Q (.ref r) H') : rListOf S [.ref p] H Q := ⟨p, xs, rfl, .inr (RdS.of (.inl (F.get m))), fun r hr => h r _ hr (F.new hr)⟩
theorem x_tupleL (F : FH H L) (m : (p, Is (.lst xs)) ∈ L) (h : ∀ r H', H r = none → FH H' ((r, Is (.tup xs)) :: L) → Q (.ref r) H') : rTupleOf S [.ref p] H Q := ⟨p, xs, rfl, .inl ⟨RdS.of (.inl (F.get m)), fun r hr => h r _ hr (F.new hr)⟩⟩
theorem x_tupleT (F : FH H L) (m : (p, Is (.tup xs)) ∈ L) (h : Q (.ref p) H) : rTupleOf S [.ref p] H Q := ⟨p, xs, rfl, .inr ⟨RdS.of (.inl (F.get m)), h⟩⟩
/-- all are True -/
def AllT : Pr := lift fun o => ∃ bs : List Bool, o = .lst (bs.map V.bl) ∧ bs.all id = true
theorem lcT {tel : TE} {vs : List Nat} {σw : L2.St} (F : FH H L) (m : Src S L p xs) (z : xs.length < 16777216) (ew : wipe σ vs = σw)
    (hs : ∀ y H (QX : V → Hp → Prop), y ∈ xs → FH H L → QX (.bl true) H → g y σw H fun σ2 H2 => wipe σ2 vs = σw ∧ tel σ2 H2 QX)
    (hd : ∀ D H', FH H' ((D, AllT) :: L) → Q (.ref D) H') : LcS S g tYes tel vs Q (.ref p) σ H := by
  refine lcFM (fun _ => .bl true) (fun _ => true) F m z ew (fun y H QX A hy F' hk hA => hs y H QX hy F' (hk rfl)) fun D H' F' => hd D H' (F'.close (φ := fun o => ∃ bs : List Bool, o = .lst (bs.map V.bl) ∧ bs.all id = true) ⟨List.replicate xs.length true, ?_, ?_⟩ .here)
  · rw [List.filter_eq_self.mpr (fun _ _ => rfl)]
    congr 1
    clear m z hs F'
    induction xs with
    | nil => rfl
    | cons x xs ih => rw [List.map_cons, List.length_cons, List.replicate_succ, List.map_cons, ih]
  · generalize xs.length = n
    induction n with
    | zero => rfl
    | succ n ih => rw [List.replicate_succ, List.all_cons, ih]; rfl
theorem x_allT (F : FH H L) (m : (p, AllT) ∈ L) (h : Q (.bl true) H) : rAll S [.ref p] H Q := by
  obtain ⟨o, ho, bs, e, hb⟩ := F.is m
  subst e
  exact ⟨p, bs, rfl, .inl (.inl ho), by rw [hb]; exact h⟩
theorem Src.cons {L : List Ent} {x : Ent} (m : Src S L p xs) : Src S (x :: L) p xs := by
  cases m with
  | is m => exact .is (List.mem_cons_of_mem _ m)
  | rd m => exact .rd (List.mem_cons_of_mem _ m)
  | st m => exact .st m
theorem cutV_take {n : Nat} (h : xs.length ≤ n) : cutV xs none (some (n : Int)) = xs := by
  unfold cutV
  rw [HT.sIx_none, HT.sIx_nat, List.drop_zero, Nat.sub_zero, Nat.min_eq_right h, List.take_length]
/-! fields -/
theorem look_hit {f : Str} {v : V} {t : List (Str × V)} : List.lookup f ((f, v) :: t) = some v := by simp [List.lookup]
theorem look_nil {f : Str} : List.lookup f ([] : List (Str × V)) = none := rfl
theorem look_miss {f g : Str} {v : V} {r : Option V} {t : List (Str × V)} (h : ¬ f = g) (e : List.lookup f t = r) : List.lookup f ((g, v) :: t) = r := by
  have h' : (f == g) = false := by simpa using h
  simp only [List.lookup, h']
  exact e
theorem put_nil {f : Str} {v : V} : putF f v [] = [(f, v)] := rfl
theorem put_hit {f : Str} {v w : V} {t : List (Str × V)} : putF f v ((f, w) :: t) = (f, v) :: t := by
  show (if f = f then _ else _) = _
  rw [if_pos rfl]
theorem put_miss {f g : Str} {v w : V} {t t' : List (Str × V)} (h : ¬ g = f) (e : putF f v t = t') : putF f v ((g, w) :: t) = (g, w) :: t' := by
  show (if g = f then _ else _) = _
  rw [if_neg h, e]
/-! == of flat lists and tuples -/
def flatOk : V → Bool
  | .non => true
  | .bl _ => true
  | .int _ => true
  | .str s => PyData.canLay0 (.str s)
  | _ => false
def flatD : V → PyData
  | .bl b => .bool b
  | .int i => .int i
  | .str s => .str s
  | _ => .none
def eqvF (xs ys : List V) : Bool := PyData.eqvAll (xs.map flatD) (ys.map flatD)
theorem dp_flat {v : V} (h : flatOk v = true) : DpS S H v (flatD v) := by
  cases v with
  | non => exact .non
  | bl b => exact .bl b
  | int i => exact .int i
  | str s => exact .str s
  | _ => cases h
theorem dps_flat : ∀ {xs : List V}, xs.all flatOk = true → DpSs S H xs (xs.map flatD)
  | [], _ => .nil
  | x :: xs, h => by
    rw [List.all_cons, Bool.and_eq_true] at h
    exact .cons (dp_flat h.1) (dps_flat h.2)
theorem lay_flat : ∀ {xs : List V}, xs.all flatOk = true → PyData.canLayAll0 (xs.map flatD) = true ∧ PyData.depthAll (xs.map flatD) = 0
  | [], _ => ⟨rfl, rfl⟩
  | x :: xs, h => by
    rw [List.all_cons, Bool.and_eq_true] at h
    obtain ⟨h1, h2⟩ := lay_flat h.2
    rw [List.map_cons]
    have e : PyData.canLay0 (flatD x) = true ∧ PyData.depth (flatD x) = 0 := by
      cases x with
      | non => exact ⟨rfl, rfl⟩
      | bl b => exact ⟨rfl, rfl⟩
      | int i => exact ⟨rfl, rfl⟩
      | str s => exact ⟨h.1, rfl⟩
      | _ => cases h.1
    constructor
    · rw [PyData.canLayAll0, e.1, h1]; rfl
    · rw [PyData.depthAll, e.2, h2]; rfl
theorem shaped_flatL {xs : List V} (h : xs.all flatOk = true) : SeqAt.shaped (.list (xs.map flatD)) = true := by
  obtain ⟨h1, h2⟩ := lay_flat h
  unfold SeqAt.shaped
  rw [PyData.canLay0, h1, PyData.depth, h2]
  rfl
theorem shaped_flatT {xs : List V} (h : xs.all flatOk = true) : SeqAt.shaped (.tuple (xs.map flatD)) = true := by
  obtain ⟨h1, h2⟩ := lay_flat h
  unfold SeqAt.shaped
  rw [PyData.canLay0, h1, PyData.depth, h2]
  rfl
theorem eqv_nil : eqvF [] [] = true := rfl
theorem eqv_nc {x : V} {xs : List V} : eqvF [] (x :: xs) = false := rfl
theorem eqv_cn {x : V} {xs : List V} : eqvF (x :: xs) [] = false := rfl
theorem eqv_int {i j : Int} {xs ys : List V} : eqvF (.int i :: xs) (.int j :: ys) = (decide (i = j) && eqvF xs ys) := by
  show (i == j && _) = _
  rfl
theorem eqv_bl {i j : Bool} {xs ys : List V} : eqvF (.bl i :: xs) (.bl j :: ys) = (decide (i = j) && eqvF xs ys) := by
  show (i == j && _) = _
  cases i <;> cases j <;> rfl
theorem eqv_str {i j : Str} {xs ys : List V} : eqvF (.str i :: xs) (.str j :: ys) = (decide (i = j) && eqvF xs ys) := by
  show (i == j && _) = _
  congr 1
theorem eqv_ints : ∀ {ns ms : List Int}, eqvF (ns.map V.int) (ms.map V.int) = decide (ns = ms)
  | [], [] => rfl
  | [], _ :: _ => rfl
  | _ :: _, [] => rfl
  | n :: ns, m :: ms => by
    rw [List.map_cons, List.map_cons, eqv_int, eqv_ints, Bool.eq_iff_iff]
    simp only [Bool.and_eq_true, decide_eq_true_eq, List.cons.injEq]
theorem flat_ints : ∀ {ns : List Int}, (ns.map V.int).all flatOk = true
  | [] => rfl
  | _ :: ns => by rw [List.map_cons, List.all_cons, flat_ints]; rfl
theorem x_eqPL (F : FH H L) {q : Addr} {ys : List V} {b : Bool} (m : (p, Is (.lst xs)) ∈ L) (n : (q, Is (.lst ys)) ∈ L) (f1 : xs.all flatOk = true) (f2 : ys.all flatOk = true) (e : eqvF xs ys = b) (h : Q (.bl b) H) : rEqP S (.ref p) (.ref q) H Q :=
  .inr ⟨_, _, .lst (.inl (.inl (F.get m))) (dps_flat f1), .lst (.inl (.inl (F.get n))) (dps_flat f2), shaped_flatL f1, shaped_flatL f2, by
    show Q (.bl (eqvF xs ys)) H
    rw [e]; exact h⟩
theorem x_nePL (F : FH H L) {q : Addr} {ys : List V} {b : Bool} (m : (p, Is (.lst xs)) ∈ L) (n : (q, Is (.lst ys)) ∈ L) (f1 : xs.all flatOk = true) (f2 : ys.all flatOk = true) (e : eqvF xs ys = b) (h : Q (.bl (!b)) H) : rNeP S (.ref p) (.ref q) H Q :=
  .inr ⟨_, _, .lst (.inl (.inl (F.get m))) (dps_flat f1), .lst (.inl (.inl (F.get n))) (dps_flat f2), shaped_flatL f1, shaped_flatL f2, by
    show Q (.bl (!eqvF xs ys)) H
    rw [e]; exact h⟩
theorem x_eqPT (F : FH H L) {q : Addr} {ys : List V} {b : Bool} (m : (p, Is (.tup xs)) ∈ L) (n : (q, Is (.tup ys)) ∈ L) (f1 : xs.all flatOk = true) (f2 : ys.all flatOk = true) (e : eqvF xs ys = b) (h : Q (.bl b) H) : rEqP S (.ref p) (.ref q) H Q :=
  .inr ⟨_, _, .tup (.inl (.inl (F.get m))) (dps_flat f1), .tup (.inl (.inl (F.get n))) (dps_flat f2), shaped_flatT f1, shaped_flatT f2, by
    show Q (.bl (eqvF xs ys)) H
    rw [e]; exact h⟩
theorem x_nePT (F : FH H L) {q : Addr} {ys : List V} {b : Bool} (m : (p, Is (.tup xs)) ∈ L) (n : (q, Is (.tup ys)) ∈ L) (f1 : xs.all flatOk = true) (f2 : ys.all flatOk = true) (e : eqvF xs ys = b) (h : Q (.bl (!b)) H) : rNeP S (.ref p) (.ref q) H Q :=
  .inr ⟨_, _, .tup (.inl (.inl (F.get m))) (dps_flat f1), .tup (.inl (.inl (F.get n))) (dps_flat f2), shaped_flatT f1, shaped_flatT f2, by
    show Q (.bl (!eqvF xs ys)) H
    rw [e]; exact h⟩
theorem eqv_strS {s : Str} {xs ys : List V} : eqvF (.str s :: xs) (.str s :: ys) = eqvF xs ys := by rw [eqv_str, decide_eq_true rfl, Bool.true_and]
theorem eqv_strD {s t : Str} {xs ys : List V} (h : s ≠ t) : eqvF (.str s :: xs) (.str t :: ys) = false := by rw [eqv_str, decide_eq_false h, Bool.false_and]
theorem flat_cons {x : V} {xs : List V} (h : flatOk x = true) (t : xs.all flatOk = true) : (x :: xs).all flatOk = true := by rw [List.all_cons, h, t]; rfl
theorem x_eqPSs {a : Str} (h : Q (.bl true) H) : rEqP S (.str a) (.str a) H Q := .inl (x_eqS (by rw [decide_eq_true rfl]; exact h))
theorem x_nePSs {a : Str} (h : Q (.bl false) H) : rNeP S (.str a) (.str a) H Q := .inl (x_neS (by rw [decide_eq_false (fun z => z rfl)]; exact h))
theorem x_eqPSd {a b : Str} (ne : a ≠ b) (h : Q (.bl false) H) : rEqP S (.str a) (.str b) H Q := .inl (x_eqS (by rw [decide_eq_false ne]; exact h))
theorem x_nePSd {a b : Str} (ne : a ≠ b) (h : Q (.bl true) H) : rNeP S (.str a) (.str b) H Q := .inl (x_neS (by rw [decide_eq_true ne]; exact h))
theorem eqv_nn {xs ys : List V} : eqvF (.non :: xs) (.non :: ys) = eqvF xs ys := by show (true && _) = _; rw [Bool.true_and]; rfl
theorem eqv_ni {i : Int} {xs ys : List V} : eqvF (.non :: xs) (.int i :: ys) = false := rfl
theorem eqv_in {i : Int} {xs ys : List V} : eqvF (.int i :: xs) (.non :: ys) = false := rfl
theorem eqv_ns {s : Str} {xs ys : List V} : eqvF (.non :: xs) (.str s :: ys) = false := rfl
theorem eqv_sn {s : Str} {xs ys : List V} : eqvF (.str s :: xs) (.non :: ys) = false := rfl
theorem eqv_si {s : Str} {i : Int} {xs ys : List V} : eqvF (.str s :: xs) (.int i :: ys) = false := rfl
theorem eqv_is {s : Str} {i : Int} {xs ys : List V} : eqvF (.int i :: xs) (.str s :: ys) = false := rfl
theorem sc_of {x y : V} {b : Bool} (s : scal x y = true) (e : decide (x = y) = b) (h : Q (.bl b) H) : rEqP S x y H Q := .inl ⟨s, by rw [e]; exact h⟩
theorem sn_of {x y : V} {b : Bool} (s : scal x y = true) (e : decide (x = y) = b) (h : Q (.bl (!b)) H) : rNeP S x y H Q := .inl ⟨s, by rw [e]; exact h⟩
theorem x_eqP_nn (h : Q (.bl true) H) : rEqP S (.non) (.non) H Q := sc_of rfl (decide_eq_true rfl) h
theorem x_neP_nn (h : Q (.bl (!true)) H) : rNeP S (.non) (.non) H Q := sn_of rfl (decide_eq_true rfl) h
theorem x_eqP_ni (h : Q (.bl false) H) : rEqP S (.non) (.int i) H Q := sc_of rfl (decide_eq_false (by simp)) h
theorem x_neP_ni (h : Q (.bl (!false)) H) : rNeP S (.non) (.int i) H Q := sn_of rfl (decide_eq_false (by simp)) h
theorem x_eqP_in (h : Q (.bl false) H) : rEqP S (.int i) (.non) H Q := sc_of rfl (decide_eq_false (by simp)) h
theorem x_neP_in (h : Q (.bl (!false)) H) : rNeP S (.int i) (.non) H Q := sn_of rfl (decide_eq_false (by simp)) h
theorem x_eqP_nb (h : Q (.bl false) H) : rEqP S (.non) (.bl b) H Q := sc_of rfl (decide_eq_false (by simp)) h
theorem x_neP_nb (h : Q (.bl (!false)) H) : rNeP S (.non) (.bl b) H Q := sn_of rfl (decide_eq_false (by simp)) h
theorem x_eqP_bn (h : Q (.bl false) H) : rEqP S (.bl b) (.non) H Q := sc_of rfl (decide_eq_false (by simp)) h
theorem x_neP_bn (h : Q (.bl (!false)) H) : rNeP S (.bl b) (.non) H Q := sn_of rfl (decide_eq_false (by simp)) h
theorem x_eqP_ns {z : Str} (h : Q (.bl false) H) : rEqP S (.non) (.str z) H Q := sc_of rfl (decide_eq_false (by simp)) h
theorem x_neP_ns {z : Str} (h : Q (.bl (!false)) H) : rNeP S (.non) (.str z) H Q := sn_of rfl (decide_eq_false (by simp)) h
theorem x_eqP_sn {z : Str} (h : Q (.bl false) H) : rEqP S (.str z) (.non) H Q := sc_of rfl (decide_eq_false (by simp)) h
theorem x_neP_sn {z : Str} (h : Q (.bl (!false)) H) : rNeP S (.str z) (.non) H Q := sn_of rfl (decide_eq_false (by simp)) h
theorem x_eqP_is {z : Str} (h : Q (.bl false) H) : rEqP S (.int i) (.str z) H Q := sc_of rfl (decide_eq_false (by simp)) h
theorem x_neP_is {z : Str} (h : Q (.bl (!false)) H) : rNeP S (.int i) (.str z) H Q := sn_of rfl (decide_eq_false (by simp)) h
theorem x_eqP_si {z : Str} (h : Q (.bl false) H) : rEqP S (.str z) (.int i) H Q := sc_of rfl (decide_eq_false (by simp)) h
theorem x_neP_si {z : Str} (h : Q (.bl (!false)) H) : rNeP S (.str z) (.int i) H Q := sn_of rfl (decide_eq_false (by simp)) h
theorem x_eqP_bs {z : Str} (h : Q (.bl false) H) : rEqP S (.bl b) (.str z) H Q := sc_of rfl (decide_eq_false (by simp)) h
theorem x_neP_bs {z : Str} (h : Q (.bl (!false)) H) : rNeP S (.bl b) (.str z) H Q := sn_of rfl (decide_eq_false (by simp)) h
theorem x_eqP_sb {z : Str} (h : Q (.bl false) H) : rEqP S (.str z) (.bl b) H Q := sc_of rfl (decide_eq_false (by simp)) h
theorem x_neP_sb {z : Str} (h : Q (.bl (!false)) H) : rNeP S (.str z) (.bl b) H Q := sn_of rfl (decide_eq_false (by simp)) h
theorem x_isr_list_int (F : FH H L) (m : (p, Is (.lst xs)) ∈ L) (h : Q (.bl false) H) : rIsI [.ref p, .ty "int"] H Q := isi_of (.lst (.inl (F.get m))) kit_list_int rfl h
theorem x_isr_list_bool (F : FH H L) (m : (p, Is (.lst xs)) ∈ L) (h : Q (.bl false) H) : rIsI [.ref p, .ty "bool"] H Q := isi_of (.lst (.inl (F.get m))) kit_list_bool rfl h
theorem x_isr_list_str (F : FH H L) (m : (p, Is (.lst xs)) ∈ L) (h : Q (.bl false) H) : rIsI [.ref p, .ty "str"] H Q := isi_of (.lst (.inl (F.get m))) kit_list_str rfl h
theorem x_isr_list_list (F : FH H L) (m : (p, Is (.lst xs)) ∈ L) (h : Q (.bl true) H) : rIsI [.ref p, .ty "list"] H Q := isi_of (.lst (.inl (F.get m))) kit_list_list rfl h
theorem x_isr_list_tuple (F : FH H L) (m : (p, Is (.lst xs)) ∈ L) (h : Q (.bl false) H) : rIsI [.ref p, .ty "tuple"] H Q := isi_of (.lst (.inl (F.get m))) kit_list_tuple rfl h
theorem x_isr_list_dict (F : FH H L) (m : (p, Is (.lst xs)) ∈ L) (h : Q (.bl false) H) : rIsI [.ref p, .ty "dict"] H Q := isi_of (.lst (.inl (F.get m))) kit_list_dict rfl h
theorem x_isr_tuple_int (F : FH H L) (m : (p, Is (.tup xs)) ∈ L) (h : Q (.bl false) H) : rIsI [.ref p, .ty "int"] H Q := isi_of (.tup (.inl (F.get m))) kit_tuple_int rfl h
theorem x_isr_tuple_bool (F : FH H L) (m : (p, Is (.tup xs)) ∈ L) (h : Q (.bl false) H) : rIsI [.ref p, .ty "bool"] H Q := isi_of (.tup (.inl (F.get m))) kit_tuple_bool rfl h
theorem x_isr_tuple_str (F : FH H L) (m : (p, Is (.tup xs)) ∈ L) (h : Q (.bl false) H) : rIsI [.ref p, .ty "str"] H Q := isi_of (.tup (.inl (F.get m))) kit_tuple_str rfl h
theorem x_isr_tuple_list (F : FH H L) (m : (p, Is (.tup xs)) ∈ L) (h : Q (.bl false) H) : rIsI [.ref p, .ty "list"] H Q := isi_of (.tup (.inl (F.get m))) kit_tuple_list rfl h
theorem x_isr_tuple_tuple (F : FH H L) (m : (p, Is (.tup xs)) ∈ L) (h : Q (.bl true) H) : rIsI [.ref p, .ty "tuple"] H Q := isi_of (.tup (.inl (F.get m))) kit_tuple_tuple rfl h
theorem x_isr_tuple_dict (F : FH H L) (m : (p, Is (.tup xs)) ∈ L) (h : Q (.bl false) H) : rIsI [.ref p, .ty "dict"] H Q := isi_of (.tup (.inl (F.get m))) kit_tuple_dict rfl h
theorem is_eqP (h : rEqP S x y H Q) : rEqP S x y H Q := h
theorem is_neP (h : rNeP S x y H Q) : rNeP S x y H Q := h
theorem x_eqPI (h : Q (.bl (decide (i = j))) H) : rEqP S (.int i) (.int j) H Q := .inl (x_eqI h)
theorem x_nePI (h : Q (.bl (decide (i ≠ j))) H) : rNeP S (.int i) (.int j) H Q := .inl (x_neI h)
theorem x_eqPB {a b : Bool} (h : Q (.bl (decide (a = b))) H) : rEqP S (.bl a) (.bl b) H Q := .inl (x_eqB h)
theorem x_nePB {a b : Bool} (h : Q (.bl (decide (a ≠ b))) H) : rNeP S (.bl a) (.bl b) H Q := .inl (x_neB h)
theorem x_eqPS {a b : Str} (h : Q (.bl (decide (a = b))) H) : rEqP S (.str a) (.str b) H Q := .inl (x_eqS h)
theorem x_nePS {a b : Str} (h : Q (.bl (decide (a ≠ b))) H) : rNeP S (.str a) (.str b) H Q := .inl (x_neS h)
/-! small built-ins -/
theorem x_abs (h : Q (.int (if i < 0 then -i else i)) H) : rAbs [.int i] H Q := ⟨i, rfl, h⟩
theorem x_inL {bb : Bool} (F : FH H L) (m : (p, Is (.lst xs)) ∈ L) (f : flatV x = true) (fs : xs.all flatV = true) (e : inV x xs = bb) (h : Q (.bl bb) H) : rInA S false x (.ref p) H Q := .inl ⟨p, xs, rfl, .inl (.inl (.inl (F.get m))), f, fs, by rw [e]; exact h⟩
theorem x_inT {bb : Bool} (F : FH H L) (m : (p, Is (.tup xs)) ∈ L) (f : flatV x = true) (fs : xs.all flatV = true) (e : inV x xs = bb) (h : Q (.bl bb) H) : rInA S false x (.ref p) H Q := .inl ⟨p, xs, rfl, .inr (.inl (.inl (F.get m))), f, fs, by rw [e]; exact h⟩
theorem x_ninL {bb : Bool} (F : FH H L) (m : (p, Is (.lst xs)) ∈ L) (f : flatV x = true) (fs : xs.all flatV = true) (e : inV x xs = bb) (h : Q (.bl (!bb)) H) : rInA S true x (.ref p) H Q := .inl ⟨p, xs, rfl, .inl (.inl (.inl (F.get m))), f, fs, by rw [e]; exact h⟩
theorem x_ninT {bb : Bool} (F : FH H L) (m : (p, Is (.tup xs)) ∈ L) (f : flatV x = true) (fs : xs.all flatV = true) (e : inV x xs = bb) (h : Q (.bl (!bb)) H) : rInA S true x (.ref p) H Q := .inl ⟨p, xs, rfl, .inr (.inl (.inl (F.get m))), f, fs, by rw [e]; exact h⟩
theorem x_min3 {k : Int} (h : Q (.int (min (min i j) k)) H) : rMin3 [.int i, .int j, .int k] H Q := ⟨i, j, k, rfl, h⟩
theorem x_min2 (h : Q (.int (min i j)) H) : rMin2 [.int i, .int j] H Q := ⟨i, j, rfl, by rw [show (if j < i then j else i) = min i j by omega]; exact h⟩
theorem x_max2 (h : Q (.int (max i j)) H) : rMax2 [.int i, .int j] H Q := ⟨i, j, rfl, by rw [show (if j > i then j else i) = max i j by omega]; exact h⟩
theorem x_sumL {ns : List Int} (F : FH H L) (m : (p, Is (.lst (ns.map V.int))) ∈ L) (h : Q (.int ns.sum) H) : rSum S [.ref p] H Q := ⟨p, ns, rfl, .inl (.inl (F.get m)), h⟩
theorem x_allL {bs : List Bool} (F : FH H L) (m : (p, Is (.lst xs)) ∈ L) (e : xs = bs.map V.bl) (h : Q (.bl (bs.all id)) H) : rAll S [.ref p] H Q := ⟨p, bs, rfl, .inl (.inl (by rw [← e]; exact F.get m)), h⟩
theorem x_cat (F : FH H L) {q : Addr} {ys : List V} (m : (p, Is (.lst xs)) ∈ L) (n : (q, Is (.lst ys)) ∈ L) (z : (xs ++ ys).length ≤ sizeLine) (h : ∀ r H', H r = none → FH H' ((r, Is (.lst (xs ++ ys))) :: L) → Q (.ref r) H') : rAdd (.ref p) (.ref q) H Q :=
  .inr (.inr ⟨p, q, xs, ys, rfl, rfl, F.get m, F.get n, by rw [← List.length_append]; exact z, fun r hr => h r _ hr (F.new hr)⟩)
theorem x_prop {C : Addr} (h : te σ H fun x H1 => ∃ a dx fs, x = .ref a ∧ H1 a = some (.ins C dx fs) ∧ sp [.ref a] H1 Q E0) : eProp C sp te σ H Q := h
theorem x_propG {C : Addr} {B : Addr → Prop} (F : FH H L) (m : (p, Is (.ins C dx fs)) ∈ L) (h : B p) : ∃ a dx fs, V.ref p = .ref a ∧ H a = some (.ins C dx fs) ∧ B a := ⟨p, dx, fs, rfl, F.get m, h⟩
theorem x_augF {C : Addr} {rd : V → V → Hp → VK → Prop} (h : te σ H fun x H1 => ∃ a dx fs v, x = .ref a ∧ H1 a = some (.ins C dx fs) ∧ fs.lookup f = some v ∧
  tb σ H1 fun y H2 => rd v y H2 fun z H3 => ∃ dx' fs', H3 a = some (.ins C dx' fs') ∧ fs'.length < 1000 ∧ nx σ (upd H3 a (.ins C dx' (putF f z fs')))) : sAugF C f te tb rd ⟨nx, rt, bk, ct⟩ σ H := h
theorem x_augFG {C : Addr} {QAV : Addr → V → Prop} (F : FH H L) (m : (p, Is (.ins C dx fs)) ∈ L) (l : fs.lookup f = some v) (h : QAV p v) : ∃ a dx fs v, V.ref p = .ref a ∧ H a = some (.ins C dx fs) ∧ fs.lookup f = some v ∧ QAV a v := ⟨p, dx, fs, v, rfl, F.get m, l, h⟩
theorem x_augFS {C : Addr} {z : V} {QH : Hp → Prop} {fs' : List (Str × V)} (F : FH H L) (m : (p, Is (.ins C dx fs)) ∈ L) (hl : fs.length < 1000) (e : putF f z fs = fs') (pu : Put p (Is (.ins C dx fs)) (Is (.ins C dx fs')) L L') (h : ∀ H', FH H' L' → QH H') : ∃ dx' fs', H p = some (.ins C dx' fs') ∧ fs'.length < 1000 ∧ QH (upd H p (.ins C dx' (putF f z fs'))) :=
  ⟨dx, fs, F.get m, hl, by rw [e]; exact h _ (F.put pu trivial)⟩
theorem x_inAdd (h : Q (.int (i + j)) H) : rInAdd (.int i) (.int j) H Q := ⟨i, j, rfl, rfl, h⟩
theorem x_inSub (h : Q (.int (i - j)) H) : rInSub (.int i) (.int j) H Q := ⟨i, j, rfl, rfl, h⟩
/-! objects of several classes -/
variable {Cs : List Addr} {ls : List (Addr × Sp)}
theorem x_mD {ES : L2.St → XK} {m : Str} (h : ta σ H fun x H1 => ∃ a C dx fs sp, x = .ref a ∧ H1 a = some (.ins C dx fs) ∧ (C, sp) ∈ ls ∧ fs.lookup m = none ∧ tl σ H1 fun vs H2 => sp (x :: vs) H2 Q (ES σ)) : tMD ls m ES ta tl σ H Q := h
theorem x_mDG {C : Addr} {m : Str} {B : Sp → Prop} {sp1 : Sp} (F : FH H L) (hm : (p, Is (.ins C dx fs)) ∈ L) (mt : (C, sp1) ∈ ls) (l : fs.lookup m = none) (h : B sp1) : ∃ a C dx fs sp, V.ref p = .ref a ∧ H a = some (.ins C dx fs) ∧ (C, sp) ∈ ls ∧ fs.lookup m = none ∧ B sp := ⟨p, C, dx, fs, sp1, rfl, F.get hm, mt, l, h⟩
theorem x_fldD (h : te σ H fun x H1 => ∃ a C dx fs v, x = .ref a ∧ H1 a = some (.ins C dx fs) ∧ C ∈ Cs ∧ fs.lookup f = some v ∧ Q v H1) : eFldD Cs f te σ H Q := h
theorem x_fldDG {C : Addr} {QV : V → Prop} (F : FH H L) (m : (p, Is (.ins C dx fs)) ∈ L) (mt : C ∈ Cs) (l : fs.lookup f = some v) (h : QV v) : ∃ a C dx fs v, V.ref p = .ref a ∧ H a = some (.ins C dx fs) ∧ C ∈ Cs ∧ fs.lookup f = some v ∧ QV v := ⟨p, C, dx, fs, v, rfl, F.get m, mt, l, h⟩
theorem x_setFD (h : tb σ H fun y H1 => te σ H1 fun x H2 => ∃ a C dx fs, x = .ref a ∧ H2 a = some (.ins C dx fs) ∧ C ∈ Cs ∧ fs.length < 1000 ∧ nx σ (upd H2 a (.ins C dx (putF f y fs)))) : sSetFD Cs f te tb ⟨nx, rt, bk, ct⟩ σ H := h
theorem x_setFDG {C : Addr} {QH : Hp → Prop} {fs' : List (Str × V)} (F : FH H L) (m : (p, Is (.ins C dx fs)) ∈ L) (mt : C ∈ Cs) (z : fs.length < 1000) (e : putF f y fs = fs') (pu : Put p (Is (.ins C dx fs)) (Is (.ins C dx fs')) L L') (h : ∀ H', FH H' L' → QH H') :
    ∃ a C dx fs, V.ref p = .ref a ∧ H a = some (.ins C dx fs) ∧ C ∈ Cs ∧ fs.length < 1000 ∧ QH (upd H a (.ins C dx (putF f y fs))) := ⟨p, C, dx, fs, rfl, F.get m, mt, z, by rw [e]; exact h _ (F.put pu trivial)⟩
theorem x_augFD {rd : V → V → Hp → VK → Prop} (h : te σ H fun x H1 => ∃ a C dx fs v, x = .ref a ∧ H1 a = some (.ins C dx fs) ∧ C ∈ Cs ∧ fs.lookup f = some v ∧
  tb σ H1 fun y H2 => rd v y H2 fun z H3 => ∃ dx' fs', H3 a = some (.ins C dx' fs') ∧ fs'.length < 1000 ∧ nx σ (upd H3 a (.ins C dx' (putF f z fs')))) : sAugFD Cs f te tb rd ⟨nx, rt, bk, ct⟩ σ H := h
theorem x_augFDG {C : Addr} {QAV : Addr → Addr → V → Prop} (F : FH H L) (m : (p, Is (.ins C dx fs)) ∈ L) (mt : C ∈ Cs) (l : fs.lookup f = some v) (h : QAV p C v) : ∃ a C dx fs v, V.ref p = .ref a ∧ H a = some (.ins C dx fs) ∧ C ∈ Cs ∧ fs.lookup f = some v ∧ QAV a C v := ⟨p, C, dx, fs, v, rfl, F.get m, mt, l, h⟩
theorem x_propD (h : te σ H fun x H1 => ∃ a C dx fs sp, x = .ref a ∧ H1 a = some (.ins C dx fs) ∧ (C, sp) ∈ ls ∧ sp [.ref a] H1 Q E0) : ePropD ls te σ H Q := h
theorem x_propDG {C : Addr} {sp1 : Sp} {B : Addr → Sp → Prop} (F : FH H L) (m : (p, Is (.ins C dx fs)) ∈ L) (mt : (C, sp1) ∈ ls) (h : B p sp1) : ∃ a C dx fs sp, V.ref p = .ref a ∧ H a = some (.ins C dx fs) ∧ (C, sp) ∈ ls ∧ B a sp := ⟨p, C, dx, fs, sp1, rfl, F.get m, mt, h⟩
theorem x_supM {C : Addr} {σ : L2.St} (F : FH H L) (m : (p, Is (.ins C dx fs)) ∈ L) (mt : C ∈ Cs) (h : tl (some (.ref p) :: σ) H fun vs H1 => sp (.ref p :: vs) H1 Q E) : tSupM Cs sp E tl (some (.ref p) :: σ) H Q := ⟨p, C, dx, fs, rfl, F.get m, mt, h⟩
theorem x_augSub {to ti : TE} {tg : V → V → Hp → VK → Prop} {tp : TIp} {ts : TSet} (h : to σ H fun o H1 => ti σ H1 fun i H2 => tg o i H2 fun x H3 => te σ H3 fun y H4 => tp x y H4 fun z H5 => ts o i z H5 fun H6 => nx σ H6) : tAugS to ti te tg tp ts ⟨nx, rt, bk, ct⟩ σ H := h
theorem x_getL (F : FH H L) (m : (p, Is (.lst xs)) ∈ L) (a : atI xs i = some v) (h : Q v H) : rGetL (.ref p) (.int i) H Q := ⟨p, xs, i, v, rfl, rfl, F.get m, a, h⟩
def KmakeD (C : Addr) (sp : Sp) (vs : List V) (H1 : Hp) (Q : VK) (E : XK) : Prop := ∀ x dx, H1 x = none → H1 dx = none → dx ≠ x → sp (.ref x :: vs) (upd (upd H1 dx (.own x)) x (.ins C dx [])) (fun v H2 => v = .non ∧ Q (.ref x) H2) E
theorem x_makeD {C : Addr} {d : V} {ds : List V} (h : tl σ H fun vs H1 => KmakeD C sp (vs ++ d :: ds) H1 Q E) : tMake C sp (d :: ds) E tl σ H Q := h
theorem app0 {α : Type} {ws : List α} : [] ++ ws = ws := rfl
theorem app1 {α : Type} {x : α} {ws : List α} : [x] ++ ws = x :: ws := rfl
theorem app2 {α : Type} {x y : α} {ws : List α} : [x, y] ++ ws = x :: y :: ws := rfl
theorem app3 {α : Type} {x y z : α} {ws : List α} : [x, y, z] ++ ws = x :: y :: z :: ws := rfl
theorem x_makeDG {C : Addr} {vs ws : List V} (F : FH H L) (ap : vs = ws) (h : ∀ x dx H', FH H' ((x, Is (.ins C dx [])) :: L) → sp (.ref x :: ws) H' (fun v H2 => v = .non ∧ Q (.ref x) H2) E) :
    KmakeD C sp vs H Q E := fun x dx hx hd ne => by
  rw [ap]
  exact h x dx _ ((F.other hd).new (by rw [upd_ne (Ne.symm ne)]; exact hx))
/-! errors -/
def KmkC (C : Addr) (fs : List Str) (E : XK) (vs : List V) (H1 : Hp) : Prop := vs.length = fs.length ∧ ∀ d, H1 d = none → E (.ref C) (some d) (upd H1 d (.xd (exFs fs vs)))
theorem x_raise {C : Addr} {fs : List Str} {D : Ends} (h : tl σ H fun vs H1 => KmkC C fs E vs H1) : sRaise E (tMkC C fs tl) D σ H := h
theorem x_raiseS {C : Addr} {fs : List Str} {D : Ends} {W : WX} (h : tl σ H fun vs H1 => KmkC C fs (WE W σ) vs H1) : sRaiseS W (tMkC C fs tl) D σ H := h
theorem x_mkC1 {C : Addr} {f : Str} (F : FH H L) (h : ∀ d H', FH H' ((d, Is (.xd [(f, v)])) :: L) → E (.ref C) (some d) H') : KmkC C [f] E [v] H := ⟨rfl, fun d hd => h d _ (F.new hd)⟩
theorem x_mkC2 {C : Addr} {f g : Str} {w : V} (F : FH H L) (h : ∀ d H', FH H' ((d, Is (.xd [(g, w), (f, v)])) :: L) → E (.ref C) (some d) H') : KmkC C [f, g] E [v, w] H := ⟨rfl, fun d hd => h d _ (F.new hd)⟩
theorem x_try {tab : List (Value × Nat)} {cl : List Sui} {tw : WX → TS} (h : tw (wT tab cl ⟨nx, rt, bk, ct⟩) ⟨nx, rt, bk, ct⟩ σ H) : sTry tab cl tw ⟨nx, rt, bk, ct⟩ σ H := h
theorem x_cS {ES : L2.St → XK} (h : tl σ H fun vs H1 => sp vs H1 Q (ES σ)) : tCS sp ES tl σ H Q := h
theorem x_mS {ES : L2.St → XK} {m : Str} (h : ta σ H fun x H1 => ∃ a dx fs, x = .ref a ∧ H1 a = some (.ins C dx fs) ∧ fs.lookup m = none ∧ tl σ H1 fun vs H2 => sp (x :: vs) H2 Q (ES σ)) : tMS C m sp ES ta tl σ H Q := h
def KnewS (C : Addr) (sp : Sp) (vs : List V) (H1 : Hp) (Q : VK) (E : XK) : Prop := ∀ x dx, H1 x = none → H1 dx = none → dx ≠ x → sp (.ref x :: vs) (upd (upd H1 dx (.own x)) x (.ins C dx [])) (fun v H2 => v = .non ∧ Q (.ref x) H2) E
theorem x_newS {ES : L2.St → XK} (h : tl σ H fun vs H1 => KnewS C sp vs H1 Q (ES σ)) : tNewS C sp ES tl σ H Q := h
theorem x_newSG {C : Addr} {vs : List V} (F : FH H L) (h : ∀ x dx H', FH H' ((x, Is (.ins C dx [])) :: L) → sp (.ref x :: vs) H' (fun v H2 => v = .non ∧ Q (.ref x) H2) E) : KnewS C sp vs H Q E := fun x dx hx hd ne =>
  h x dx _ ((F.other hd).new (by rw [upd_ne (Ne.symm ne)]; exact hx))
def gDel (i : Nat) (σ : L2.St) (H : Hp) (k : K0) : Prop := k (σ.set i none) H
theorem is_d {n : Nat} {k : K0} (h : gDel n σ H k) : gDel n σ H k := h
theorem x_wTs {tab : List (Value × Nat)} {cl : List Sui} {k i : Nat} {ts : Addr → Value → Option Addr → TS} {cls : Value} {d : Option Addr} (mt : (cls, k) ∈ tab) (rf : cl[k]? = some (some i, ts)) (h : ∀ a, gName i (.ref a) σ H fun σ' H' => ts a cls d ⟨fun σ' H' => gDel i σ' H' nx, rt, fun σ' H' => gDel i σ' H' bk, fun σ' H' => gDel i σ' H' ct⟩ σ' H') :
    wT tab cl ⟨nx, rt, bk, ct⟩ cls d σ H := ⟨k, some i, ts, mt, rf, fun a _ => h a⟩
theorem x_wTn {tab : List (Value × Nat)} {cl : List Sui} {k : Nat} {ts : Addr → Value → Option Addr → TS} {cls : Value} {d : Option Addr} (mt : (cls, k) ∈ tab) (rf : cl[k]? = some (none, ts)) (h : ∀ a, ts a cls d ⟨nx, rt, bk, ct⟩ σ H) :
    wT tab cl ⟨nx, rt, bk, ct⟩ cls d σ H := ⟨k, none, ts, mt, rf, fun a _ => h a⟩
theorem x_xf {b : Addr} {cls : Value} {d : Option Addr} {Cs : List Addr} {f : Str} (h : te σ H fun x H1 => x = .ref b ∧ ∃ C, C ∈ Cs ∧ cls = .ref C ∧ ∃ (dd : Addr) (fs : List (Str × V)) (v : V), d = some dd ∧ H1 dd = some (.xd fs) ∧ fs.lookup f = some v ∧ Q v H1) : eXf b cls d Cs f te σ H Q := h
theorem x_xfG {b C : Addr} {Cs : List Addr} {f : Str} {QV : V → Prop} {fs : List (Str × V)} (F : FH H L) (m : (p, Is (.xd fs)) ∈ L) (mt : C ∈ Cs) (l : fs.lookup f = some v) (h : QV v) :
    V.ref b = .ref b ∧ ∃ C', C' ∈ Cs ∧ Value.ref C = .ref C' ∧ ∃ (dd : Addr) (fs : List (Str × V)) (v : V), some p = some dd ∧ H dd = some (.xd fs) ∧ fs.lookup f = some v ∧ QV v := ⟨rfl, C, mt, rfl, p, fs, v, rfl, F.get m, l, h⟩
theorem x_isX {b C : Addr} {tbl : List (Value × V × Bool)} {c : V} {k : Bool} {fs : List (Str × V)} (F : FH H L) (m : (p, Is (.xd fs)) ∈ L) (mt : (Value.ref C, c, k) ∈ tbl) (h : Q (.bl k) H) : rIsX tbl b (.ref C) (some p) [.ref b, c] H Q := .inl ⟨c, k, rfl, mt, ⟨p, fs, rfl, F.get m⟩, h⟩
theorem x_isXi {b : Addr} {tbl : List (Value × V × Bool)} {cls : Value} {d : Option Addr} {xs : List V} (h : rIsI xs H Q) : rIsX tbl b cls d xs H Q := .inr h
theorem x_strI (h1 : -18446744073709551616 < i ∧ i < 18446744073709551616) (h : Q (.str (toString i)) H) : rStrI [.int i] H Q := ⟨i, rfl, by
  by_cases e : i.natAbs = 0
  · rw [e]; decide
  · have h2 := Nat.log2_self_le e
    have h3 : 2 ^ i.natAbs.log2 < 2 ^ 64 := by
      have : (2 : Nat) ^ 64 = 18446744073709551616 := by decide
      omega
    have := (Nat.pow_lt_pow_iff_right (by decide : 1 < 2)).mp h3
    omega, h⟩
/-! places -/
theorem atI_at {α : Type} {xs : List α} {j : Nat} {v : α} (e : i = (j : Int)) (h : xs[j]? = some v) : atI xs i = some v := by subst e; exact atI_nat h
theorem ixN_at {n j : Nat} (e : i = (j : Int)) (h : j < n) : ixN n i = some j := by
  subst e
  unfold ixN
  rw [if_pos (by omega), if_pos (by omega)]
  simp
theorem atI_ints {ns : List Int} (h0 : 0 ≤ i) (h1 : i < ((ns.map V.int).length : Int)) : atI (ns.map V.int) i = some (.int (ns.getD i.toNat 0)) := by
  have hl : i.toNat < ns.length := by rw [List.length_map] at h1; omega
  refine atI_at (j := i.toNat) (by omega) ?_
  rw [List.getElem?_map, List.getElem?_eq_getElem hl, List.getD_eq_getElem?_getD, List.getElem?_eq_getElem hl]
  rfl
theorem getD_nn {ns : List Int} (h : ∀ n ∈ ns, 0 ≤ n) (k : Nat) : 0 ≤ ns.getD k 0 := by
  rw [List.getD_eq_getElem?_getD]
  cases e : ns[k]? with
  | none => exact Int.le_refl 0
  | some z => exact h z (List.mem_of_getElem? e)
theorem ixN_b {n j : Nat} (e : i = (j : Int)) (h : Nat.blt j n = true) : ixN n i = some j := ixN_at e (by simpa [Nat.blt_eq] using h)
theorem ixN_i {n : Nat} (h0 : 0 ≤ i) (h1 : i < (n : Int)) : ixN n i = some i.toNat := by
  unfold ixN
  rw [if_pos h0, if_pos h1]
theorem len_leB {xs : List V} (h : Nat.ble xs.length 16777216 = true) : xs.length ≤ sizeLine := by rw [sizeLine_eq]; exact Nat.le_of_ble_eq_true h
theorem len_ltB {xs : List V} (h : Nat.blt xs.length 16777216 = true) : xs.length < sizeLine := by rw [sizeLine_eq]; simpa [Nat.blt_eq] using h
theorem f_lt {fs : List (Str × V)} (h : Nat.blt fs.length 1000 = true) : fs.length < 1000 := by simpa [Nat.blt_eq] using h
theorem len_leN {xs : List V} (h : xs.length ≤ 16777216) : xs.length ≤ sizeLine := by rw [sizeLine_eq]; exact h
theorem len_ltN {xs : List V} (h : xs.length < 16777216) : xs.length < sizeLine := by rw [sizeLine_eq]; exact h
theorem len_le {xs : List V} {n : Nat} (e : xs.length = n) (h : n ≤ 16777216) : xs.length ≤ sizeLine := by rw [e, sizeLine_eq]; exact h
theorem len_lt {xs : List V} {n : Nat} (e : xs.length = n) (h : n < 16777216) : xs.length < sizeLine := by rw [e, sizeLine_eq]; exact h
theorem div_small (h1 : 0 < j) (h2 : j < 18446744073709551616) : CDivW i j := wide_div (b := 64) h1 (by omega) (by decide) (by decide)
theorem mulL (h1 : -18446744073709551616 < i) (h2 : i < 18446744073709551616) : CMul i j := .inl ⟨h1, h2⟩
theorem mulR (h1 : -18446744073709551616 < j) (h2 : j < 18446744073709551616) : CMul i j := .inr ⟨h1, h2⟩

theorem x_pw10_1 (h : Q (.int 10) H) : rPow (.int 10) (.int 1) H Q := x_pow ⟨by decide, by decide, by decide⟩ (by rw [show (10 : Int) ^ (Int.toNat 1) = 10 by decide]; exact h)
theorem x_pw10_2 (h : Q (.int 100) H) : rPow (.int 10) (.int 2) H Q := x_pow ⟨by decide, by decide, by decide⟩ (by rw [show (10 : Int) ^ (Int.toNat 2) = 100 by decide]; exact h)
theorem x_pw10_3 (h : Q (.int 1000) H) : rPow (.int 10) (.int 3) H Q := x_pow ⟨by decide, by decide, by decide⟩ (by rw [show (10 : Int) ^ (Int.toNat 3) = 1000 by decide]; exact h)
theorem x_pw10_4 (h : Q (.int 10000) H) : rPow (.int 10) (.int 4) H Q := x_pow ⟨by decide, by decide, by decide⟩ (by rw [show (10 : Int) ^ (Int.toNat 4) = 10000 by decide]; exact h)
theorem x_pw10_5 (h : Q (.int 100000) H) : rPow (.int 10) (.int 5) H Q := x_pow ⟨by decide, by decide, by decide⟩ (by rw [show (10 : Int) ^ (Int.toNat 5) = 100000 by decide]; exact h)
theorem x_pw10_6 (h : Q (.int 1000000) H) : rPow (.int 10) (.int 6) H Q := x_pow ⟨by decide, by decide, by decide⟩ (by rw [show (10 : Int) ^ (Int.toNat 6) = 1000000 by decide]; exact h)
theorem x_pw10_7 (h : Q (.int 10000000) H) : rPow (.int 10) (.int 7) H Q := x_pow ⟨by decide, by decide, by decide⟩ (by rw [show (10 : Int) ^ (Int.toNat 7) = 10000000 by decide]; exact h)
theorem x_pw10_8 (h : Q (.int 100000000) H) : rPow (.int 10) (.int 8) H Q := x_pow ⟨by decide, by decide, by decide⟩ (by rw [show (10 : Int) ^ (Int.toNat 8) = 100000000 by decide]; exact h)
theorem x_pw10_9 (h : Q (.int 1000000000) H) : rPow (.int 10) (.int 9) H Q := x_pow ⟨by decide, by decide, by decide⟩ (by rw [show (10 : Int) ^ (Int.toNat 9) = 1000000000 by decide]; exact h)
theorem x_pw10_10 (h : Q (.int 10000000000) H) : rPow (.int 10) (.int 10) H Q := x_pow ⟨by decide, by decide, by decide⟩ (by rw [show (10 : Int) ^ (Int.toNat 10) = 10000000000 by decide]; exact h)
theorem x_pw10_11 (h : Q (.int 100000000000) H) : rPow (.int 10) (.int 11) H Q := x_pow ⟨by decide, by decide, by decide⟩ (by rw [show (10 : Int) ^ (Int.toNat 11) = 100000000000 by decide]; exact h)
theorem x_pw10_12 (h : Q (.int 1000000000000) H) : rPow (.int 10) (.int 12) H Q := x_pow ⟨by decide, by decide, by decide⟩ (by rw [show (10 : Int) ^ (Int.toNat 12) = 1000000000000 by decide]; exact h)
theorem x_pw10_13 (h : Q (.int 10000000000000) H) : rPow (.int 10) (.int 13) H Q := x_pow ⟨by decide, by decide, by decide⟩ (by rw [show (10 : Int) ^ (Int.toNat 13) = 10000000000000 by decide]; exact h)
theorem x_pw10_14 (h : Q (.int 100000000000000) H) : rPow (.int 10) (.int 14) H Q := x_pow ⟨by decide, by decide, by decide⟩ (by rw [show (10 : Int) ^ (Int.toNat 14) = 100000000000000 by decide]; exact h)
theorem x_pw10_15 (h : Q (.int 1000000000000000) H) : rPow (.int 10) (.int 15) H Q := x_pow ⟨by decide, by decide, by decide⟩ (by rw [show (10 : Int) ^ (Int.toNat 15) = 1000000000000000 by decide]; exact h)
theorem x_pw10_16 (h : Q (.int 10000000000000000) H) : rPow (.int 10) (.int 16) H Q := x_pow ⟨by decide, by decide, by decide⟩ (by rw [show (10 : Int) ^ (Int.toNat 16) = 10000000000000000 by decide]; exact h)
theorem x_pw10_17 (h : Q (.int 100000000000000000) H) : rPow (.int 10) (.int 17) H Q := x_pow ⟨by decide, by decide, by decide⟩ (by rw [show (10 : Int) ^ (Int.toNat 17) = 100000000000000000 by decide]; exact h)
theorem x_pw10_18 (h : Q (.int 1000000000000000000) H) : rPow (.int 10) (.int 18) H Q := x_pow ⟨by decide, by decide, by decide⟩ (by rw [show (10 : Int) ^ (Int.toNat 18) = 1000000000000000000 by decide]; exact h)
theorem x_pw10_19 (h : Q (.int 10000000000000000000) H) : rPow (.int 10) (.int 19) H Q := x_pow ⟨by decide, by decide, by decide⟩ (by rw [show (10 : Int) ^ (Int.toNat 19) = 10000000000000000000 by decide]; exact h)
theorem x_pw10_20 (h : Q (.int 100000000000000000000) H) : rPow (.int 10) (.int 20) H Q := x_pow ⟨by decide, by decide, by decide⟩ (by rw [show (10 : Int) ^ (Int.toNat 20) = 100000000000000000000 by decide]; exact h)
theorem x_pw10_21 (h : Q (.int 1000000000000000000000) H) : rPow (.int 10) (.int 21) H Q := x_pow ⟨by decide, by decide, by decide⟩ (by rw [show (10 : Int) ^ (Int.toNat 21) = 1000000000000000000000 by decide]; exact h)
theorem x_pw10_22 (h : Q (.int 10000000000000000000000) H) : rPow (.int 10) (.int 22) H Q := x_pow ⟨by decide, by decide, by decide⟩ (by rw [show (10 : Int) ^ (Int.toNat 22) = 10000000000000000000000 by decide]; exact h)
theorem x_pw10_23 (h : Q (.int 100000000000000000000000) H) : rPow (.int 10) (.int 23) H Q := x_pow ⟨by decide, by decide, by decide⟩ (by rw [show (10 : Int) ^ (Int.toNat 23) = 100000000000000000000000 by decide]; exact h)
theorem x_pw10_24 (h : Q (.int 1000000000000000000000000) H) : rPow (.int 10) (.int 24) H Q := x_pow ⟨by decide, by decide, by decide⟩ (by rw [show (10 : Int) ^ (Int.toNat 24) = 1000000000000000000000000 by decide]; exact h)
theorem x_pw2_6 (h : Q (.int 64) H) : rPow (.int 2) (.int 6) H Q := x_pow ⟨by decide, by decide, by decide⟩ (by rw [show (2 : Int) ^ (Int.toNat 6) = 64 by decide]; exact h)
theorem x_pw2_10 (h : Q (.int 1024) H) : rPow (.int 2) (.int 10) H Q := x_pow ⟨by decide, by decide, by decide⟩ (by rw [show (2 : Int) ^ (Int.toNat 10) = 1024 by decide]; exact h)
theorem x_pw2_16 (h : Q (.int 65536) H) : rPow (.int 2) (.int 16) H Q := x_pow ⟨by decide, by decide, by decide⟩ (by rw [show (2 : Int) ^ (Int.toNat 16) = 65536 by decide]; exact h)
theorem x_pw2_20 (h : Q (.int 1048576) H) : rPow (.int 2) (.int 20) H Q := x_pow ⟨by decide, by decide, by decide⟩ (by rw [show (2 : Int) ^ (Int.toNat 20) = 1048576 by decide]; exact h)
theorem x_pw2_30 (h : Q (.int 1073741824) H) : rPow (.int 2) (.int 30) H Q := x_pow ⟨by decide, by decide, by decide⟩ (by rw [show (2 : Int) ^ (Int.toNat 30) = 1073741824 by decide]; exact h)
theorem x_pw2_31 (h : Q (.int 2147483648) H) : rPow (.int 2) (.int 31) H Q := x_pow ⟨by decide, by decide, by decide⟩ (by rw [show (2 : Int) ^ (Int.toNat 31) = 2147483648 by decide]; exact h)
theorem x_pw2_32 (h : Q (.int 4294967296) H) : rPow (.int 2) (.int 32) H Q := x_pow ⟨by decide, by decide, by decide⟩ (by rw [show (2 : Int) ^ (Int.toNat 32) = 4294967296 by decide]; exact h)
theorem x_pw2_40 (h : Q (.int 1099511627776) H) : rPow (.int 2) (.int 40) H Q := x_pow ⟨by decide, by decide, by decide⟩ (by rw [show (2 : Int) ^ (Int.toNat 40) = 1099511627776 by decide]; exact h)
theorem x_pw2_48 (h : Q (.int 281474976710656) H) : rPow (.int 2) (.int 48) H Q := x_pow ⟨by decide, by decide, by decide⟩ (by rw [show (2 : Int) ^ (Int.toNat 48) = 281474976710656 by decide]; exact h)
theorem x_pw2_60 (h : Q (.int 1152921504606846976) H) : rPow (.int 2) (.int 60) H Q := x_pow ⟨by decide, by decide, by decide⟩ (by rw [show (2 : Int) ^ (Int.toNat 60) = 1152921504606846976 by decide]; exact h)
theorem x_pw2_62 (h : Q (.int 4611686018427387904) H) : rPow (.int 2) (.int 62) H Q := x_pow ⟨by decide, by decide, by decide⟩ (by rw [show (2 : Int) ^ (Int.toNat 62) = 4611686018427387904 by decide]; exact h)
theorem x_pw2_63 (h : Q (.int 9223372036854775808) H) : rPow (.int 2) (.int 63) H Q := x_pow ⟨by decide, by decide, by decide⟩ (by rw [show (2 : Int) ^ (Int.toNat 63) = 9223372036854775808 by decide]; exact h)
theorem x_pw2_64 (h : Q (.int 18446744073709551616) H) : rPow (.int 2) (.int 64) H Q := x_pow ⟨by decide, by decide, by decide⟩ (by rw [show (2 : Int) ^ (Int.toNat 64) = 18446744073709551616 by decide]; exact h)
theorem x_v0 {σ : L2.St} (h : Q v H) : tVar 0 (some v :: σ) H Q := ⟨v, rfl, h⟩
theorem x_g0 {x : Option V} {σ : L2.St} (h : QS (some v :: σ) H) : gName 0 v (x :: σ) H QS := h
theorem x_d0 {x : Option V} {σ : L2.St} {k : K0} (h : k (none :: σ) H) : gDel 0 (x :: σ) H k := h
theorem x_ml0 {σ : L2.St} (h : tMake C sp [] E tl (some (.ref C) :: σ) H Q) : eMakeL 0 C sp [] E tl (some (.ref C) :: σ) H Q := ⟨rfl, h⟩
theorem x_au0 {te : TE} {ti : TIp} {σ : L2.St} (h : te (some x :: σ) H fun y H1 => ti x y H1 fun z H2 => nx (some z :: σ) H2) : tAug 0 te ti ⟨nx, rt, bk, ct⟩ (some x :: σ) H := ⟨x, rfl, h⟩
theorem x_v1 {a0 : Option V} {σ : L2.St} (h : Q v H) : tVar 1 (a0 :: some v :: σ) H Q := ⟨v, rfl, h⟩
theorem x_g1 {a0 : Option V} {x : Option V} {σ : L2.St} (h : QS (a0 :: some v :: σ) H) : gName 1 v (a0 :: x :: σ) H QS := h
theorem x_d1 {a0 : Option V} {x : Option V} {σ : L2.St} {k : K0} (h : k (a0 :: none :: σ) H) : gDel 1 (a0 :: x :: σ) H k := h
theorem x_ml1 {a0 : Option V} {σ : L2.St} (h : tMake C sp [] E tl (a0 :: some (.ref C) :: σ) H Q) : eMakeL 1 C sp [] E tl (a0 :: some (.ref C) :: σ) H Q := ⟨rfl, h⟩
theorem x_au1 {te : TE} {ti : TIp} {a0 : Option V} {σ : L2.St} (h : te (a0 :: some x :: σ) H fun y H1 => ti x y H1 fun z H2 => nx (a0 :: some z :: σ) H2) : tAug 1 te ti ⟨nx, rt, bk, ct⟩ (a0 :: some x :: σ) H := ⟨x, rfl, h⟩
theorem x_v2 {a0 a1 : Option V} {σ : L2.St} (h : Q v H) : tVar 2 (a0 :: a1 :: some v :: σ) H Q := ⟨v, rfl, h⟩
theorem x_g2 {a0 a1 : Option V} {x : Option V} {σ : L2.St} (h : QS (a0 :: a1 :: some v :: σ) H) : gName 2 v (a0 :: a1 :: x :: σ) H QS := h
theorem x_d2 {a0 a1 : Option V} {x : Option V} {σ : L2.St} {k : K0} (h : k (a0 :: a1 :: none :: σ) H) : gDel 2 (a0 :: a1 :: x :: σ) H k := h
theorem x_ml2 {a0 a1 : Option V} {σ : L2.St} (h : tMake C sp [] E tl (a0 :: a1 :: some (.ref C) :: σ) H Q) : eMakeL 2 C sp [] E tl (a0 :: a1 :: some (.ref C) :: σ) H Q := ⟨rfl, h⟩
theorem x_au2 {te : TE} {ti : TIp} {a0 a1 : Option V} {σ : L2.St} (h : te (a0 :: a1 :: some x :: σ) H fun y H1 => ti x y H1 fun z H2 => nx (a0 :: a1 :: some z :: σ) H2) : tAug 2 te ti ⟨nx, rt, bk, ct⟩ (a0 :: a1 :: some x :: σ) H := ⟨x, rfl, h⟩
theorem x_v3 {a0 a1 a2 : Option V} {σ : L2.St} (h : Q v H) : tVar 3 (a0 :: a1 :: a2 :: some v :: σ) H Q := ⟨v, rfl, h⟩
theorem x_g3 {a0 a1 a2 : Option V} {x : Option V} {σ : L2.St} (h : QS (a0 :: a1 :: a2 :: some v :: σ) H) : gName 3 v (a0 :: a1 :: a2 :: x :: σ) H QS := h
theorem x_d3 {a0 a1 a2 : Option V} {x : Option V} {σ : L2.St} {k : K0} (h : k (a0 :: a1 :: a2 :: none :: σ) H) : gDel 3 (a0 :: a1 :: a2 :: x :: σ) H k := h
theorem x_ml3 {a0 a1 a2 : Option V} {σ : L2.St} (h : tMake C sp [] E tl (a0 :: a1 :: a2 :: some (.ref C) :: σ) H Q) : eMakeL 3 C sp [] E tl (a0 :: a1 :: a2 :: some (.ref C) :: σ) H Q := ⟨rfl, h⟩
theorem x_au3 {te : TE} {ti : TIp} {a0 a1 a2 : Option V} {σ : L2.St} (h : te (a0 :: a1 :: a2 :: some x :: σ) H fun y H1 => ti x y H1 fun z H2 => nx (a0 :: a1 :: a2 :: some z :: σ) H2) : tAug 3 te ti ⟨nx, rt, bk, ct⟩ (a0 :: a1 :: a2 :: some x :: σ) H := ⟨x, rfl, h⟩
theorem x_v4 {a0 a1 a2 a3 : Option V} {σ : L2.St} (h : Q v H) : tVar 4 (a0 :: a1 :: a2 :: a3 :: some v :: σ) H Q := ⟨v, rfl, h⟩
theorem x_g4 {a0 a1 a2 a3 : Option V} {x : Option V} {σ : L2.St} (h : QS (a0 :: a1 :: a2 :: a3 :: some v :: σ) H) : gName 4 v (a0 :: a1 :: a2 :: a3 :: x :: σ) H QS := h
theorem x_d4 {a0 a1 a2 a3 : Option V} {x : Option V} {σ : L2.St} {k : K0} (h : k (a0 :: a1 :: a2 :: a3 :: none :: σ) H) : gDel 4 (a0 :: a1 :: a2 :: a3 :: x :: σ) H k := h
theorem x_ml4 {a0 a1 a2 a3 : Option V} {σ : L2.St} (h : tMake C sp [] E tl (a0 :: a1 :: a2 :: a3 :: some (.ref C) :: σ) H Q) : eMakeL 4 C sp [] E tl (a0 :: a1 :: a2 :: a3 :: some (.ref C) :: σ) H Q := ⟨rfl, h⟩
theorem x_au4 {te : TE} {ti : TIp} {a0 a1 a2 a3 : Option V} {σ : L2.St} (h : te (a0 :: a1 :: a2 :: a3 :: some x :: σ) H fun y H1 => ti x y H1 fun z H2 => nx (a0 :: a1 :: a2 :: a3 :: some z :: σ) H2) : tAug 4 te ti ⟨nx, rt, bk, ct⟩ (a0 :: a1 :: a2 :: a3 :: some x :: σ) H := ⟨x, rfl, h⟩
theorem x_v5 {a0 a1 a2 a3 a4 : Option V} {σ : L2.St} (h : Q v H) : tVar 5 (a0 :: a1 :: a2 :: a3 :: a4 :: some v :: σ) H Q := ⟨v, rfl, h⟩
theorem x_g5 {a0 a1 a2 a3 a4 : Option V} {x : Option V} {σ : L2.St} (h : QS (a0 :: a1 :: a2 :: a3 :: a4 :: some v :: σ) H) : gName 5 v (a0 :: a1 :: a2 :: a3 :: a4 :: x :: σ) H QS := h
theorem x_d5 {a0 a1 a2 a3 a4 : Option V} {x : Option V} {σ : L2.St} {k : K0} (h : k (a0 :: a1 :: a2 :: a3 :: a4 :: none :: σ) H) : gDel 5 (a0 :: a1 :: a2 :: a3 :: a4 :: x :: σ) H k := h
theorem x_ml5 {a0 a1 a2 a3 a4 : Option V} {σ : L2.St} (h : tMake C sp [] E tl (a0 :: a1 :: a2 :: a3 :: a4 :: some (.ref C) :: σ) H Q) : eMakeL 5 C sp [] E tl (a0 :: a1 :: a2 :: a3 :: a4 :: some (.ref C) :: σ) H Q := ⟨rfl, h⟩
theorem x_au5 {te : TE} {ti : TIp} {a0 a1 a2 a3 a4 : Option V} {σ : L2.St} (h : te (a0 :: a1 :: a2 :: a3 :: a4 :: some x :: σ) H fun y H1 => ti x y H1 fun z H2 => nx (a0 :: a1 :: a2 :: a3 :: a4 :: some z :: σ) H2) : tAug 5 te ti ⟨nx, rt, bk, ct⟩ (a0 :: a1 :: a2 :: a3 :: a4 :: some x :: σ) H := ⟨x, rfl, h⟩
theorem x_v6 {a0 a1 a2 a3 a4 a5 : Option V} {σ : L2.St} (h : Q v H) : tVar 6 (a0 :: a1 :: a2 :: a3 :: a4 :: a5 :: some v :: σ) H Q := ⟨v, rfl, h⟩
theorem x_g6 {a0 a1 a2 a3 a4 a5 : Option V} {x : Option V} {σ : L2.St} (h : QS (a0 :: a1 :: a2 :: a3 :: a4 :: a5 :: some v :: σ) H) : gName 6 v (a0 :: a1 :: a2 :: a3 :: a4 :: a5 :: x :: σ) H QS := h
theorem x_d6 {a0 a1 a2 a3 a4 a5 : Option V} {x : Option V} {σ : L2.St} {k : K0} (h : k (a0 :: a1 :: a2 :: a3 :: a4 :: a5 :: none :: σ) H) : gDel 6 (a0 :: a1 :: a2 :: a3 :: a4 :: a5 :: x :: σ) H k := h
theorem x_ml6 {a0 a1 a2 a3 a4 a5 : Option V} {σ : L2.St} (h : tMake C sp [] E tl (a0 :: a1 :: a2 :: a3 :: a4 :: a5 :: some (.ref C) :: σ) H Q) : eMakeL 6 C sp [] E tl (a0 :: a1 :: a2 :: a3 :: a4 :: a5 :: some (.ref C) :: σ) H Q := ⟨rfl, h⟩
theorem x_au6 {te : TE} {ti : TIp} {a0 a1 a2 a3 a4 a5 : Option V} {σ : L2.St} (h : te (a0 :: a1 :: a2 :: a3 :: a4 :: a5 :: some x :: σ) H fun y H1 => ti x y H1 fun z H2 => nx (a0 :: a1 :: a2 :: a3 :: a4 :: a5 :: some z :: σ) H2) : tAug 6 te ti ⟨nx, rt, bk, ct⟩ (a0 :: a1 :: a2 :: a3 :: a4 :: a5 :: some x :: σ) H := ⟨x, rfl, h⟩
theorem x_v7 {a0 a1 a2 a3 a4 a5 a6 : Option V} {σ : L2.St} (h : Q v H) : tVar 7 (a0 :: a1 :: a2 :: a3 :: a4 :: a5 :: a6 :: some v :: σ) H Q := ⟨v, rfl, h⟩
theorem x_g7 {a0 a1 a2 a3 a4 a5 a6 : Option V} {x : Option V} {σ : L2.St} (h : QS (a0 :: a1 :: a2 :: a3 :: a4 :: a5 :: a6 :: some v :: σ) H) : gName 7 v (a0 :: a1 :: a2 :: a3 :: a4 :: a5 :: a6 :: x :: σ) H QS := h
theorem x_d7 {a0 a1 a2 a3 a4 a5 a6 : Option V} {x : Option V} {σ : L2.St} {k : K0} (h : k (a0 :: a1 :: a2 :: a3 :: a4 :: a5 :: a6 :: none :: σ) H) : gDel 7 (a0 :: a1 :: a2 :: a3 :: a4 :: a5 :: a6 :: x :: σ) H k := h
theorem x_ml7 {a0 a1 a2 a3 a4 a5 a6 : Option V} {σ : L2.St} (h : tMake C sp [] E tl (a0 :: a1 :: a2 :: a3 :: a4 :: a5 :: a6 :: some (.ref C) :: σ) H Q) : eMakeL 7 C sp [] E tl (a0 :: a1 :: a2 :: a3 :: a4 :: a5 :: a6 :: some (.ref C) :: σ) H Q := ⟨rfl, h⟩
theorem x_au7 {te : TE} {ti : TIp} {a0 a1 a2 a3 a4 a5 a6 : Option V} {σ : L2.St} (h : te (a0 :: a1 :: a2 :: a3 :: a4 :: a5 :: a6 :: some x :: σ) H fun y H1 => ti x y H1 fun z H2 => nx (a0 :: a1 :: a2 :: a3 :: a4 :: a5 :: a6 :: some z :: σ) H2) : tAug 7 te ti ⟨nx, rt, bk, ct⟩ (a0 :: a1 :: a2 :: a3 :: a4 :: a5 :: a6 :: some x :: σ) H := ⟨x, rfl, h⟩
theorem x_v8 {a0 a1 a2 a3 a4 a5 a6 a7 : Option V} {σ : L2.St} (h : Q v H) : tVar 8 (a0 :: a1 :: a2 :: a3 :: a4 :: a5 :: a6 :: a7 :: some v :: σ) H Q := ⟨v, rfl, h⟩
theorem x_g8 {a0 a1 a2 a3 a4 a5 a6 a7 : Option V} {x : Option V} {σ : L2.St} (h : QS (a0 :: a1 :: a2 :: a3 :: a4 :: a5 :: a6 :: a7 :: some v :: σ) H) : gName 8 v (a0 :: a1 :: a2 :: a3 :: a4 :: a5 :: a6 :: a7 :: x :: σ) H QS := h
theorem x_d8 {a0 a1 a2 a3 a4 a5 a6 a7 : Option V} {x : Option V} {σ : L2.St} {k : K0} (h : k (a0 :: a1 :: a2 :: a3 :: a4 :: a5 :: a6 :: a7 :: none :: σ) H) : gDel 8 (a0 :: a1 :: a2 :: a3 :: a4 :: a5 :: a6 :: a7 :: x :: σ) H k := h
theorem x_ml8 {a0 a1 a2 a3 a4 a5 a6 a7 : Option V} {σ : L2.St} (h : tMake C sp [] E tl (a0 :: a1 :: a2 :: a3 :: a4 :: a5 :: a6 :: a7 :: some (.ref C) :: σ) H Q) : eMakeL 8 C sp [] E tl (a0 :: a1 :: a2 :: a3 :: a4 :: a5 :: a6 :: a7 :: some (.ref C) :: σ) H Q := ⟨rfl, h⟩
theorem x_au8 {te : TE} {ti : TIp} {a0 a1 a2 a3 a4 a5 a6 a7 : Option V} {σ : L2.St} (h : te (a0 :: a1 :: a2 :: a3 :: a4 :: a5 :: a6 :: a7 :: some x :: σ) H fun y H1 => ti x y H1 fun z H2 => nx (a0 :: a1 :: a2 :: a3 :: a4 :: a5 :: a6 :: a7 :: some z :: σ) H2) : tAug 8 te ti ⟨nx, rt, bk, ct⟩ (a0 :: a1 :: a2 :: a3 :: a4 :: a5 :: a6 :: a7 :: some x :: σ) H := ⟨x, rfl, h⟩
theorem x_v9 {a0 a1 a2 a3 a4 a5 a6 a7 a8 : Option V} {σ : L2.St} (h : Q v H) : tVar 9 (a0 :: a1 :: a2 :: a3 :: a4 :: a5 :: a6 :: a7 :: a8 :: some v :: σ) H Q := ⟨v, rfl, h⟩
theorem x_g9 {a0 a1 a2 a3 a4 a5 a6 a7 a8 : Option V} {x : Option V} {σ : L2.St} (h : QS (a0 :: a1 :: a2 :: a3 :: a4 :: a5 :: a6 :: a7 :: a8 :: some v :: σ) H) : gName 9 v (a0 :: a1 :: a2 :: a3 :: a4 :: a5 :: a6 :: a7 :: a8 :: x :: σ) H QS := h
theorem x_d9 {a0 a1 a2 a3 a4 a5 a6 a7 a8 : Option V} {x : Option V} {σ : L2.St} {k : K0} (h : k (a0 :: a1 :: a2 :: a3 :: a4 :: a5 :: a6 :: a7 :: a8 :: none :: σ) H) : gDel 9 (a0 :: a1 :: a2 :: a3 :: a4 :: a5 :: a6 :: a7 :: a8 :: x :: σ) H k := h
theorem x_ml9 {a0 a1 a2 a3 a4 a5 a6 a7 a8 : Option V} {σ : L2.St} (h : tMake C sp [] E tl (a0 :: a1 :: a2 :: a3 :: a4 :: a5 :: a6 :: a7 :: a8 :: some (.ref C) :: σ) H Q) : eMakeL 9 C sp [] E tl (a0 :: a1 :: a2 :: a3 :: a4 :: a5 :: a6 :: a7 :: a8 :: some (.ref C) :: σ) H Q := ⟨rfl, h⟩
theorem x_au9 {te : TE} {ti : TIp} {a0 a1 a2 a3 a4 a5 a6 a7 a8 : Option V} {σ : L2.St} (h : te (a0 :: a1 :: a2 :: a3 :: a4 :: a5 :: a6 :: a7 :: a8 :: some x :: σ) H fun y H1 => ti x y H1 fun z H2 => nx (a0 :: a1 :: a2 :: a3 :: a4 :: a5 :: a6 :: a7 :: a8 :: some z :: σ) H2) : tAug 9 te ti ⟨nx, rt, bk, ct⟩ (a0 :: a1 :: a2 :: a3 :: a4 :: a5 :: a6 :: a7 :: a8 :: some x :: σ) H := ⟨x, rfl, h⟩
theorem x_v10 {a0 a1 a2 a3 a4 a5 a6 a7 a8 a9 : Option V} {σ : L2.St} (h : Q v H) : tVar 10 (a0 :: a1 :: a2 :: a3 :: a4 :: a5 :: a6 :: a7 :: a8 :: a9 :: some v :: σ) H Q := ⟨v, rfl, h⟩
theorem x_g10 {a0 a1 a2 a3 a4 a5 a6 a7 a8 a9 : Option V} {x : Option V} {σ : L2.St} (h : QS (a0 :: a1 :: a2 :: a3 :: a4 :: a5 :: a6 :: a7 :: a8 :: a9 :: some v :: σ) H) : gName 10 v (a0 :: a1 :: a2 :: a3 :: a4 :: a5 :: a6 :: a7 :: a8 :: a9 :: x :: σ) H QS := h
theorem x_d10 {a0 a1 a2 a3 a4 a5 a6 a7 a8 a9 : Option V} {x : Option V} {σ : L2.St} {k : K0} (h : k (a0 :: a1 :: a2 :: a3 :: a4 :: a5 :: a6 :: a7 :: a8 :: a9 :: none :: σ) H) : gDel 10 (a0 :: a1 :: a2 :: a3 :: a4 :: a5 :: a6 :: a7 :: a8 :: a9 :: x :: σ) H k := h
theorem x_ml10 {a0 a1 a2 a3 a4 a5 a6 a7 a8 a9 : Option V} {σ : L2.St} (h : tMake C sp [] E tl (a0 :: a1 :: a2 :: a3 :: a4 :: a5 :: a6 :: a7 :: a8 :: a9 :: some (.ref C) :: σ) H Q) : eMakeL 10 C sp [] E tl (a0 :: a1 :: a2 :: a3 :: a4 :: a5 :: a6 :: a7 :: a8 :: a9 :: some (.ref C) :: σ) H Q := ⟨rfl, h⟩
theorem x_au10 {te : TE} {ti : TIp} {a0 a1 a2 a3 a4 a5 a6 a7 a8 a9 : Option V} {σ : L2.St} (h : te (a0 :: a1 :: a2 :: a3 :: a4 :: a5 :: a6 :: a7 :: a8 :: a9 :: some x :: σ) H fun y H1 => ti x y H1 fun z H2 => nx (a0 :: a1 :: a2 :: a3 :: a4 :: a5 :: a6 :: a7 :: a8 :: a9 :: some z :: σ) H2) : tAug 10 te ti ⟨nx, rt, bk, ct⟩ (a0 :: a1 :: a2 :: a3 :: a4 :: a5 :: a6 :: a7 :: a8 :: a9 :: some x :: σ) H := ⟨x, rfl, h⟩
theorem x_v11 {a0 a1 a2 a3 a4 a5 a6 a7 a8 a9 a10 : Option V} {σ : L2.St} (h : Q v H) : tVar 11 (a0 :: a1 :: a2 :: a3 :: a4 :: a5 :: a6 :: a7 :: a8 :: a9 :: a10 :: some v :: σ) H Q := ⟨v, rfl, h⟩
theorem x_g11 {a0 a1 a2 a3 a4 a5 a6 a7 a8 a9 a10 : Option V} {x : Option V} {σ : L2.St} (h : QS (a0 :: a1 :: a2 :: a3 :: a4 :: a5 :: a6 :: a7 :: a8 :: a9 :: a10 :: some v :: σ) H) : gName 11 v (a0 :: a1 :: a2 :: a3 :: a4 :: a5 :: a6 :: a7 :: a8 :: a9 :: a10 :: x :: σ) H QS := h
theorem x_d11 {a0 a1 a2 a3 a4 a5 a6 a7 a8 a9 a10 : Option V} {x : Option V} {σ : L2.St} {k : K0} (h : k (a0 :: a1 :: a2 :: a3 :: a4 :: a5 :: a6 :: a7 :: a8 :: a9 :: a10 :: none :: σ) H) : gDel 11 (a0 :: a1 :: a2 :: a3 :: a4 :: a5 :: a6 :: a7 :: a8 :: a9 :: a10 :: x :: σ) H k := h
theorem x_ml11 {a0 a1 a2 a3 a4 a5 a6 a7 a8 a9 a10 : Option V} {σ : L2.St} (h : tMake C sp [] E tl (a0 :: a1 :: a2 :: a3 :: a4 :: a5 :: a6 :: a7 :: a8 :: a9 :: a10 :: some (.ref C) :: σ) H Q) : eMakeL 11 C sp [] E tl (a0 :: a1 :: a2 :: a3 :: a4 :: a5 :: a6 :: a7 :: a8 :: a9 :: a10 :: some (.ref C) :: σ) H Q := ⟨rfl, h⟩
theorem x_au11 {te : TE} {ti : TIp} {a0 a1 a2 a3 a4 a5 a6 a7 a8 a9 a10 : Option V} {σ : L2.St} (h : te (a0 :: a1 :: a2 :: a3 :: a4 :: a5 :: a6 :: a7 :: a8 :: a9 :: a10 :: some x :: σ) H fun y H1 => ti x y H1 fun z H2 => nx (a0 :: a1 :: a2 :: a3 :: a4 :: a5 :: a6 :: a7 :: a8 :: a9 :: a10 :: some z :: σ) H2) : tAug 11 te ti ⟨nx, rt, bk, ct⟩ (a0 :: a1 :: a2 :: a3 :: a4 :: a5 :: a6 :: a7 :: a8 :: a9 :: a10 :: some x :: σ) H := ⟨x, rfl, h⟩
theorem x_v12 {a0 a1 a2 a3 a4 a5 a6 a7 a8 a9 a10 a11 : Option V} {σ : L2.St} (h : Q v H) : tVar 12 (a0 :: a1 :: a2 :: a3 :: a4 :: a5 :: a6 :: a7 :: a8 :: a9 :: a10 :: a11 :: some v :: σ) H Q := ⟨v, rfl, h⟩
theorem x_g12 {a0 a1 a2 a3 a4 a5 a6 a7 a8 a9 a10 a11 : Option V} {x : Option V} {σ : L2.St} (h : QS (a0 :: a1 :: a2 :: a3 :: a4 :: a5 :: a6 :: a7 :: a8 :: a9 :: a10 :: a11 :: some v :: σ) H) : gName 12 v (a0 :: a1 :: a2 :: a3 :: a4 :: a5 :: a6 :: a7 :: a8 :: a9 :: a10 :: a11 :: x :: σ) H QS := h
theorem x_d12 {a0 a1 a2 a3 a4 a5 a6 a7 a8 a9 a10 a11 : Option V} {x : Option V} {σ : L2.St} {k : K0} (h : k (a0 :: a1 :: a2 :: a3 :: a4 :: a5 :: a6 :: a7 :: a8 :: a9 :: a10 :: a11 :: none :: σ) H) : gDel 12 (a0 :: a1 :: a2 :: a3 :: a4 :: a5 :: a6 :: a7 :: a8 :: a9 :: a10 :: a11 :: x :: σ) H k := h
theorem x_ml12 {a0 a1 a2 a3 a4 a5 a6 a7 a8 a9 a10 a11 : Option V} {σ : L2.St} (h : tMake C sp [] E tl (a0 :: a1 :: a2 :: a3 :: a4 :: a5 :: a6 :: a7 :: a8 :: a9 :: a10 :: a11 :: some (.ref C) :: σ) H Q) : eMakeL 12 C sp [] E tl (a0 :: a1 :: a2 :: a3 :: a4 :: a5 :: a6 :: a7 :: a8 :: a9 :: a10 :: a11 :: some (.ref C) :: σ) H Q := ⟨rfl, h⟩
theorem x_au12 {te : TE} {ti : TIp} {a0 a1 a2 a3 a4 a5 a6 a7 a8 a9 a10 a11 : Option V} {σ : L2.St} (h : te (a0 :: a1 :: a2 :: a3 :: a4 :: a5 :: a6 :: a7 :: a8 :: a9 :: a10 :: a11 :: some x :: σ) H fun y H1 => ti x y H1 fun z H2 => nx (a0 :: a1 :: a2 :: a3 :: a4 :: a5 :: a6 :: a7 :: a8 :: a9 :: a10 :: a11 :: some z :: σ) H2) : tAug 12 te ti ⟨nx, rt, bk, ct⟩ (a0 :: a1 :: a2 :: a3 :: a4 :: a5 :: a6 :: a7 :: a8 :: a9 :: a10 :: a11 :: some x :: σ) H := ⟨x, rfl, h⟩
theorem x_v13 {a0 a1 a2 a3 a4 a5 a6 a7 a8 a9 a10 a11 a12 : Option V} {σ : L2.St} (h : Q v H) : tVar 13 (a0 :: a1 :: a2 :: a3 :: a4 :: a5 :: a6 :: a7 :: a8 :: a9 :: a10 :: a11 :: a12 :: some v :: σ) H Q := ⟨v, rfl, h⟩
theorem x_g13 {a0 a1 a2 a3 a4 a5 a6 a7 a8 a9 a10 a11 a12 : Option V} {x : Option V} {σ : L2.St} (h : QS (a0 :: a1 :: a2 :: a3 :: a4 :: a5 :: a6 :: a7 :: a8 :: a9 :: a10 :: a11 :: a12 :: some v :: σ) H) : gName 13 v (a0 :: a1 :: a2 :: a3 :: a4 :: a5 :: a6 :: a7 :: a8 :: a9 :: a10 :: a11 :: a12 :: x :: σ) H QS := h
theorem x_d13 {a0 a1 a2 a3 a4 a5 a6 a7 a8 a9 a10 a11 a12 : Option V} {x : Option V} {σ : L2.St} {k : K0} (h : k (a0 :: a1 :: a2 :: a3 :: a4 :: a5 :: a6 :: a7 :: a8 :: a9 :: a10 :: a11 :: a12 :: none :: σ) H) : gDel 13 (a0 :: a1 :: a2 :: a3 :: a4 :: a5 :: a6 :: a7 :: a8 :: a9 :: a10 :: a11 :: a12 :: x :: σ) H k := h
theorem x_ml13 {a0 a1 a2 a3 a4 a5 a6 a7 a8 a9 a10 a11 a12 : Option V} {σ : L2.St} (h : tMake C sp [] E tl (a0 :: a1 :: a2 :: a3 :: a4 :: a5 :: a6 :: a7 :: a8 :: a9 :: a10 :: a11 :: a12 :: some (.ref C) :: σ) H Q) : eMakeL 13 C sp [] E tl (a0 :: a1 :: a2 :: a3 :: a4 :: a5 :: a6 :: a7 :: a8 :: a9 :: a10 :: a11 :: a12 :: some (.ref C) :: σ) H Q := ⟨rfl, h⟩
theorem x_au13 {te : TE} {ti : TIp} {a0 a1 a2 a3 a4 a5 a6 a7 a8 a9 a10 a11 a12 : Option V} {σ : L2.St} (h : te (a0 :: a1 :: a2 :: a3 :: a4 :: a5 :: a6 :: a7 :: a8 :: a9 :: a10 :: a11 :: a12 :: some x :: σ) H fun y H1 => ti x y H1 fun z H2 => nx (a0 :: a1 :: a2 :: a3 :: a4 :: a5 :: a6 :: a7 :: a8 :: a9 :: a10 :: a11 :: a12 :: some z :: σ) H2) : tAug 13 te ti ⟨nx, rt, bk, ct⟩ (a0 :: a1 :: a2 :: a3 :: a4 :: a5 :: a6 :: a7 :: a8 :: a9 :: a10 :: a11 :: a12 :: some x :: σ) H := ⟨x, rfl, h⟩
theorem x_v14 {a0 a1 a2 a3 a4 a5 a6 a7 a8 a9 a10 a11 a12 a13 : Option V} {σ : L2.St} (h : Q v H) : tVar 14 (a0 :: a1 :: a2 :: a3 :: a4 :: a5 :: a6 :: a7 :: a8 :: a9 :: a10 :: a11 :: a12 :: a13 :: some v :: σ) H Q := ⟨v, rfl, h⟩
theorem x_g14 {a0 a1 a2 a3 a4 a5 a6 a7 a8 a9 a10 a11 a12 a13 : Option V} {x : Option V} {σ : L2.St} (h : QS (a0 :: a1 :: a2 :: a3 :: a4 :: a5 :: a6 :: a7 :: a8 :: a9 :: a10 :: a11 :: a12 :: a13 :: some v :: σ) H) : gName 14 v (a0 :: a1 :: a2 :: a3 :: a4 :: a5 :: a6 :: a7 :: a8 :: a9 :: a10 :: a11 :: a12 :: a13 :: x :: σ) H QS := h
theorem x_d14 {a0 a1 a2 a3 a4 a5 a6 a7 a8 a9 a10 a11 a12 a13 : Option V} {x : Option V} {σ : L2.St} {k : K0} (h : k (a0 :: a1 :: a2 :: a3 :: a4 :: a5 :: a6 :: a7 :: a8 :: a9 :: a10 :: a11 :: a12 :: a13 :: none :: σ) H) : gDel 14 (a0 :: a1 :: a2 :: a3 :: a4 :: a5 :: a6 :: a7 :: a8 :: a9 :: a10 :: a11 :: a12 :: a13 :: x :: σ) H k := h
theorem x_ml14 {a0 a1 a2 a3 a4 a5 a6 a7 a8 a9 a10 a11 a12 a13 : Option V} {σ : L2.St} (h : tMake C sp [] E tl (a0 :: a1 :: a2 :: a3 :: a4 :: a5 :: a6 :: a7 :: a8 :: a9 :: a10 :: a11 :: a12 :: a13 :: some (.ref C) :: σ) H Q) : eMakeL 14 C sp [] E tl (a0 :: a1 :: a2 :: a3 :: a4 :: a5 :: a6 :: a7 :: a8 :: a9 :: a10 :: a11 :: a12 :: a13 :: some (.ref C) :: σ) H Q := ⟨rfl, h⟩
theorem x_au14 {te : TE} {ti : TIp} {a0 a1 a2 a3 a4 a5 a6 a7 a8 a9 a10 a11 a12 a13 : Option V} {σ : L2.St} (h : te (a0 :: a1 :: a2 :: a3 :: a4 :: a5 :: a6 :: a7 :: a8 :: a9 :: a10 :: a11 :: a12 :: a13 :: some x :: σ) H fun y H1 => ti x y H1 fun z H2 => nx (a0 :: a1 :: a2 :: a3 :: a4 :: a5 :: a6 :: a7 :: a8 :: a9 :: a10 :: a11 :: a12 :: a13 :: some z :: σ) H2) : tAug 14 te ti ⟨nx, rt, bk, ct⟩ (a0 :: a1 :: a2 :: a3 :: a4 :: a5 :: a6 :: a7 :: a8 :: a9 :: a10 :: a11 :: a12 :: a13 :: some x :: σ) H := ⟨x, rfl, h⟩
theorem x_v15 {a0 a1 a2 a3 a4 a5 a6 a7 a8 a9 a10 a11 a12 a13 a14 : Option V} {σ : L2.St} (h : Q v H) : tVar 15 (a0 :: a1 :: a2 :: a3 :: a4 :: a5 :: a6 :: a7 :: a8 :: a9 :: a10 :: a11 :: a12 :: a13 :: a14 :: some v :: σ) H Q := ⟨v, rfl, h⟩
theorem x_g15 {a0 a1 a2 a3 a4 a5 a6 a7 a8 a9 a10 a11 a12 a13 a14 : Option V} {x : Option V} {σ : L2.St} (h : QS (a0 :: a1 :: a2 :: a3 :: a4 :: a5 :: a6 :: a7 :: a8 :: a9 :: a10 :: a11 :: a12 :: a13 :: a14 :: some v :: σ) H) : gName 15 v (a0 :: a1 :: a2 :: a3 :: a4 :: a5 :: a6 :: a7 :: a8 :: a9 :: a10 :: a11 :: a12 :: a13 :: a14 :: x :: σ) H QS := h
theorem x_d15 {a0 a1 a2 a3 a4 a5 a6 a7 a8 a9 a10 a11 a12 a13 a14 : Option V} {x : Option V} {σ : L2.St} {k : K0} (h : k (a0 :: a1 :: a2 :: a3 :: a4 :: a5 :: a6 :: a7 :: a8 :: a9 :: a10 :: a11 :: a12 :: a13 :: a14 :: none :: σ) H) : gDel 15 (a0 :: a1 :: a2 :: a3 :: a4 :: a5 :: a6 :: a7 :: a8 :: a9 :: a10 :: a11 :: a12 :: a13 :: a14 :: x :: σ) H k := h
theorem x_ml15 {a0 a1 a2 a3 a4 a5 a6 a7 a8 a9 a10 a11 a12 a13 a14 : Option V} {σ : L2.St} (h : tMake C sp [] E tl (a0 :: a1 :: a2 :: a3 :: a4 :: a5 :: a6 :: a7 :: a8 :: a9 :: a10 :: a11 :: a12 :: a13 :: a14 :: some (.ref C) :: σ) H Q) : eMakeL 15 C sp [] E tl (a0 :: a1 :: a2 :: a3 :: a4 :: a5 :: a6 :: a7 :: a8 :: a9 :: a10 :: a11 :: a12 :: a13 :: a14 :: some (.ref C) :: σ) H Q := ⟨rfl, h⟩
theorem x_au15 {te : TE} {ti : TIp} {a0 a1 a2 a3 a4 a5 a6 a7 a8 a9 a10 a11 a12 a13 a14 : Option V} {σ : L2.St} (h : te (a0 :: a1 :: a2 :: a3 :: a4 :: a5 :: a6 :: a7 :: a8 :: a9 :: a10 :: a11 :: a12 :: a13 :: a14 :: some x :: σ) H fun y H1 => ti x y H1 fun z H2 => nx (a0 :: a1 :: a2 :: a3 :: a4 :: a5 :: a6 :: a7 :: a8 :: a9 :: a10 :: a11 :: a12 :: a13 :: a14 :: some z :: σ) H2) : tAug 15 te ti ⟨nx, rt, bk, ct⟩ (a0 :: a1 :: a2 :: a3 :: a4 :: a5 :: a6 :: a7 :: a8 :: a9 :: a10 :: a11 :: a12 :: a13 :: a14 :: some x :: σ) H := ⟨x, rfl, h⟩
theorem x_v16 {a0 a1 a2 a3 a4 a5 a6 a7 a8 a9 a10 a11 a12 a13 a14 a15 : Option V} {σ : L2.St} (h : Q v H) : tVar 16 (a0 :: a1 :: a2 :: a3 :: a4 :: a5 :: a6 :: a7 :: a8 :: a9 :: a10 :: a11 :: a12 :: a13 :: a14 :: a15 :: some v :: σ) H Q := ⟨v, rfl, h⟩
theorem x_g16 {a0 a1 a2 a3 a4 a5 a6 a7 a8 a9 a10 a11 a12 a13 a14 a15 : Option V} {x : Option V} {σ : L2.St} (h : QS (a0 :: a1 :: a2 :: a3 :: a4 :: a5 :: a6 :: a7 :: a8 :: a9 :: a10 :: a11 :: a12 :: a13 :: a14 :: a15 :: some v :: σ) H) : gName 16 v (a0 :: a1 :: a2 :: a3 :: a4 :: a5 :: a6 :: a7 :: a8 :: a9 :: a10 :: a11 :: a12 :: a13 :: a14 :: a15 :: x :: σ) H QS := h
theorem x_d16 {a0 a1 a2 a3 a4 a5 a6 a7 a8 a9 a10 a11 a12 a13 a14 a15 : Option V} {x : Option V} {σ : L2.St} {k : K0} (h : k (a0 :: a1 :: a2 :: a3 :: a4 :: a5 :: a6 :: a7 :: a8 :: a9 :: a10 :: a11 :: a12 :: a13 :: a14 :: a15 :: none :: σ) H) : gDel 16 (a0 :: a1 :: a2 :: a3 :: a4 :: a5 :: a6 :: a7 :: a8 :: a9 :: a10 :: a11 :: a12 :: a13 :: a14 :: a15 :: x :: σ) H k := h
theorem x_ml16 {a0 a1 a2 a3 a4 a5 a6 a7 a8 a9 a10 a11 a12 a13 a14 a15 : Option V} {σ : L2.St} (h : tMake C sp [] E tl (a0 :: a1 :: a2 :: a3 :: a4 :: a5 :: a6 :: a7 :: a8 :: a9 :: a10 :: a11 :: a12 :: a13 :: a14 :: a15 :: some (.ref C) :: σ) H Q) : eMakeL 16 C sp [] E tl (a0 :: a1 :: a2 :: a3 :: a4 :: a5 :: a6 :: a7 :: a8 :: a9 :: a10 :: a11 :: a12 :: a13 :: a14 :: a15 :: some (.ref C) :: σ) H Q := ⟨rfl, h⟩
theorem x_au16 {te : TE} {ti : TIp} {a0 a1 a2 a3 a4 a5 a6 a7 a8 a9 a10 a11 a12 a13 a14 a15 : Option V} {σ : L2.St} (h : te (a0 :: a1 :: a2 :: a3 :: a4 :: a5 :: a6 :: a7 :: a8 :: a9 :: a10 :: a11 :: a12 :: a13 :: a14 :: a15 :: some x :: σ) H fun y H1 => ti x y H1 fun z H2 => nx (a0 :: a1 :: a2 :: a3 :: a4 :: a5 :: a6 :: a7 :: a8 :: a9 :: a10 :: a11 :: a12 :: a13 :: a14 :: a15 :: some z :: σ) H2) : tAug 16 te ti ⟨nx, rt, bk, ct⟩ (a0 :: a1 :: a2 :: a3 :: a4 :: a5 :: a6 :: a7 :: a8 :: a9 :: a10 :: a11 :: a12 :: a13 :: a14 :: a15 :: some x :: σ) H := ⟨x, rfl, h⟩
theorem x_v17 {a0 a1 a2 a3 a4 a5 a6 a7 a8 a9 a10 a11 a12 a13 a14 a15 a16 : Option V} {σ : L2.St} (h : Q v H) : tVar 17 (a0 :: a1 :: a2 :: a3 :: a4 :: a5 :: a6 :: a7 :: a8 :: a9 :: a10 :: a11 :: a12 :: a13 :: a14 :: a15 :: a16 :: some v :: σ) H Q := ⟨v, rfl, h⟩
theorem x_g17 {a0 a1 a2 a3 a4 a5 a6 a7 a8 a9 a10 a11 a12 a13 a14 a15 a16 : Option V} {x : Option V} {σ : L2.St} (h : QS (a0 :: a1 :: a2 :: a3 :: a4 :: a5 :: a6 :: a7 :: a8 :: a9 :: a10 :: a11 :: a12 :: a13 :: a14 :: a15 :: a16 :: some v :: σ) H) : gName 17 v (a0 :: a1 :: a2 :: a3 :: a4 :: a5 :: a6 :: a7 :: a8 :: a9 :: a10 :: a11 :: a12 :: a13 :: a14 :: a15 :: a16 :: x :: σ) H QS := h
theorem x_d17 {a0 a1 a2 a3 a4 a5 a6 a7 a8 a9 a10 a11 a12 a13 a14 a15 a16 : Option V} {x : Option V} {σ : L2.St} {k : K0} (h : k (a0 :: a1 :: a2 :: a3 :: a4 :: a5 :: a6 :: a7 :: a8 :: a9 :: a10 :: a11 :: a12 :: a13 :: a14 :: a15 :: a16 :: none :: σ) H) : gDel 17 (a0 :: a1 :: a2 :: a3 :: a4 :: a5 :: a6 :: a7 :: a8 :: a9 :: a10 :: a11 :: a12 :: a13 :: a14 :: a15 :: a16 :: x :: σ) H k := h
theorem x_ml17 {a0 a1 a2 a3 a4 a5 a6 a7 a8 a9 a10 a11 a12 a13 a14 a15 a16 : Option V} {σ : L2.St} (h : tMake C sp [] E tl (a0 :: a1 :: a2 :: a3 :: a4 :: a5 :: a6 :: a7 :: a8 :: a9 :: a10 :: a11 :: a12 :: a13 :: a14 :: a15 :: a16 :: some (.ref C) :: σ) H Q) : eMakeL 17 C sp [] E tl (a0 :: a1 :: a2 :: a3 :: a4 :: a5 :: a6 :: a7 :: a8 :: a9 :: a10 :: a11 :: a12 :: a13 :: a14 :: a15 :: a16 :: some (.ref C) :: σ) H Q := ⟨rfl, h⟩
theorem x_au17 {te : TE} {ti : TIp} {a0 a1 a2 a3 a4 a5 a6 a7 a8 a9 a10 a11 a12 a13 a14 a15 a16 : Option V} {σ : L2.St} (h : te (a0 :: a1 :: a2 :: a3 :: a4 :: a5 :: a6 :: a7 :: a8 :: a9 :: a10 :: a11 :: a12 :: a13 :: a14 :: a15 :: a16 :: some x :: σ) H fun y H1 => ti x y H1 fun z H2 => nx (a0 :: a1 :: a2 :: a3 :: a4 :: a5 :: a6 :: a7 :: a8 :: a9 :: a10 :: a11 :: a12 :: a13 :: a14 :: a15 :: a16 :: some z :: σ) H2) : tAug 17 te ti ⟨nx, rt, bk, ct⟩ (a0 :: a1 :: a2 :: a3 :: a4 :: a5 :: a6 :: a7 :: a8 :: a9 :: a10 :: a11 :: a12 :: a13 :: a14 :: a15 :: a16 :: some x :: σ) H := ⟨x, rfl, h⟩
theorem x_v18 {a0 a1 a2 a3 a4 a5 a6 a7 a8 a9 a10 a11 a12 a13 a14 a15 a16 a17 : Option V} {σ : L2.St} (h : Q v H) : tVar 18 (a0 :: a1 :: a2 :: a3 :: a4 :: a5 :: a6 :: a7 :: a8 :: a9 :: a10 :: a11 :: a12 :: a13 :: a14 :: a15 :: a16 :: a17 :: some v :: σ) H Q := ⟨v, rfl, h⟩
theorem x_g18 {a0 a1 a2 a3 a4 a5 a6 a7 a8 a9 a10 a11 a12 a13 a14 a15 a16 a17 : Option V} {x : Option V} {σ : L2.St} (h : QS (a0 :: a1 :: a2 :: a3 :: a4 :: a5 :: a6 :: a7 :: a8 :: a9 :: a10 :: a11 :: a12 :: a13 :: a14 :: a15 :: a16 :: a17 :: some v :: σ) H) : gName 18 v (a0 :: a1 :: a2 :: a3 :: a4 :: a5 :: a6 :: a7 :: a8 :: a9 :: a10 :: a11 :: a12 :: a13 :: a14 :: a15 :: a16 :: a17 :: x :: σ) H QS := h
theorem x_d18 {a0 a1 a2 a3 a4 a5 a6 a7 a8 a9 a10 a11 a12 a13 a14 a15 a16 a17 : Option V} {x : Option V} {σ : L2.St} {k : K0} (h : k (a0 :: a1 :: a2 :: a3 :: a4 :: a5 :: a6 :: a7 :: a8 :: a9 :: a10 :: a11 :: a12 :: a13 :: a14 :: a15 :: a16 :: a17 :: none :: σ) H) : gDel 18 (a0 :: a1 :: a2 :: a3 :: a4 :: a5 :: a6 :: a7 :: a8 :: a9 :: a10 :: a11 :: a12 :: a13 :: a14 :: a15 :: a16 :: a17 :: x :: σ) H k := h
theorem x_ml18 {a0 a1 a2 a3 a4 a5 a6 a7 a8 a9 a10 a11 a12 a13 a14 a15 a16 a17 : Option V} {σ : L2.St} (h : tMake C sp [] E tl (a0 :: a1 :: a2 :: a3 :: a4 :: a5 :: a6 :: a7 :: a8 :: a9 :: a10 :: a11 :: a12 :: a13 :: a14 :: a15 :: a16 :: a17 :: some (.ref C) :: σ) H Q) : eMakeL 18 C sp [] E tl (a0 :: a1 :: a2 :: a3 :: a4 :: a5 :: a6 :: a7 :: a8 :: a9 :: a10 :: a11 :: a12 :: a13 :: a14 :: a15 :: a16 :: a17 :: some (.ref C) :: σ) H Q := ⟨rfl, h⟩
theorem x_au18 {te : TE} {ti : TIp} {a0 a1 a2 a3 a4 a5 a6 a7 a8 a9 a10 a11 a12 a13 a14 a15 a16 a17 : Option V} {σ : L2.St} (h : te (a0 :: a1 :: a2 :: a3 :: a4 :: a5 :: a6 :: a7 :: a8 :: a9 :: a10 :: a11 :: a12 :: a13 :: a14 :: a15 :: a16 :: a17 :: some x :: σ) H fun y H1 => ti x y H1 fun z H2 => nx (a0 :: a1 :: a2 :: a3 :: a4 :: a5 :: a6 :: a7 :: a8 :: a9 :: a10 :: a11 :: a12 :: a13 :: a14 :: a15 :: a16 :: a17 :: some z :: σ) H2) : tAug 18 te ti ⟨nx, rt, bk, ct⟩ (a0 :: a1 :: a2 :: a3 :: a4 :: a5 :: a6 :: a7 :: a8 :: a9 :: a10 :: a11 :: a12 :: a13 :: a14 :: a15 :: a16 :: a17 :: some x :: σ) H := ⟨x, rfl, h⟩
theorem x_v19 {a0 a1 a2 a3 a4 a5 a6 a7 a8 a9 a10 a11 a12 a13 a14 a15 a16 a17 a18 : Option V} {σ : L2.St} (h : Q v H) : tVar 19 (a0 :: a1 :: a2 :: a3 :: a4 :: a5 :: a6 :: a7 :: a8 :: a9 :: a10 :: a11 :: a12 :: a13 :: a14 :: a15 :: a16 :: a17 :: a18 :: some v :: σ) H Q := ⟨v, rfl, h⟩
theorem x_g19 {a0 a1 a2 a3 a4 a5 a6 a7 a8 a9 a10 a11 a12 a13 a14 a15 a16 a17 a18 : Option V} {x : Option V} {σ : L2.St} (h : QS (a0 :: a1 :: a2 :: a3 :: a4 :: a5 :: a6 :: a7 :: a8 :: a9 :: a10 :: a11 :: a12 :: a13 :: a14 :: a15 :: a16 :: a17 :: a18 :: some v :: σ) H) : gName 19 v (a0 :: a1 :: a2 :: a3 :: a4 :: a5 :: a6 :: a7 :: a8 :: a9 :: a10 :: a11 :: a12 :: a13 :: a14 :: a15 :: a16 :: a17 :: a18 :: x :: σ) H QS := h
theorem x_d19 {a0 a1 a2 a3 a4 a5 a6 a7 a8 a9 a10 a11 a12 a13 a14 a15 a16 a17 a18 : Option V} {x : Option V} {σ : L2.St} {k : K0} (h : k (a0 :: a1 :: a2 :: a3 :: a4 :: a5 :: a6 :: a7 :: a8 :: a9 :: a10 :: a11 :: a12 :: a13 :: a14 :: a15 :: a16 :: a17 :: a18 :: none :: σ) H) : gDel 19 (a0 :: a1 :: a2 :: a3 :: a4 :: a5 :: a6 :: a7 :: a8 :: a9 :: a10 :: a11 :: a12 :: a13 :: a14 :: a15 :: a16 :: a17 :: a18 :: x :: σ) H k := h
theorem x_ml19 {a0 a1 a2 a3 a4 a5 a6 a7 a8 a9 a10 a11 a12 a13 a14 a15 a16 a17 a18 : Option V} {σ : L2.St} (h : tMake C sp [] E tl (a0 :: a1 :: a2 :: a3 :: a4 :: a5 :: a6 :: a7 :: a8 :: a9 :: a10 :: a11 :: a12 :: a13 :: a14 :: a15 :: a16 :: a17 :: a18 :: some (.ref C) :: σ) H Q) : eMakeL 19 C sp [] E tl (a0 :: a1 :: a2 :: a3 :: a4 :: a5 :: a6 :: a7 :: a8 :: a9 :: a10 :: a11 :: a12 :: a13 :: a14 :: a15 :: a16 :: a17 :: a18 :: some (.ref C) :: σ) H Q := ⟨rfl, h⟩
theorem x_au19 {te : TE} {ti : TIp} {a0 a1 a2 a3 a4 a5 a6 a7 a8 a9 a10 a11 a12 a13 a14 a15 a16 a17 a18 : Option V} {σ : L2.St} (h : te (a0 :: a1 :: a2 :: a3 :: a4 :: a5 :: a6 :: a7 :: a8 :: a9 :: a10 :: a11 :: a12 :: a13 :: a14 :: a15 :: a16 :: a17 :: a18 :: some x :: σ) H fun y H1 => ti x y H1 fun z H2 => nx (a0 :: a1 :: a2 :: a3 :: a4 :: a5 :: a6 :: a7 :: a8 :: a9 :: a10 :: a11 :: a12 :: a13 :: a14 :: a15 :: a16 :: a17 :: a18 :: some z :: σ) H2) : tAug 19 te ti ⟨nx, rt, bk, ct⟩ (a0 :: a1 :: a2 :: a3 :: a4 :: a5 :: a6 :: a7 :: a8 :: a9 :: a10 :: a11 :: a12 :: a13 :: a14 :: a15 :: a16 :: a17 :: a18 :: some x :: σ) H := ⟨x, rfl, h⟩
theorem x_v20 {a0 a1 a2 a3 a4 a5 a6 a7 a8 a9 a10 a11 a12 a13 a14 a15 a16 a17 a18 a19 : Option V} {σ : L2.St} (h : Q v H) : tVar 20 (a0 :: a1 :: a2 :: a3 :: a4 :: a5 :: a6 :: a7 :: a8 :: a9 :: a10 :: a11 :: a12 :: a13 :: a14 :: a15 :: a16 :: a17 :: a18 :: a19 :: some v :: σ) H Q := ⟨v, rfl, h⟩
theorem x_g20 {a0 a1 a2 a3 a4 a5 a6 a7 a8 a9 a10 a11 a12 a13 a14 a15 a16 a17 a18 a19 : Option V} {x : Option V} {σ : L2.St} (h : QS (a0 :: a1 :: a2 :: a3 :: a4 :: a5 :: a6 :: a7 :: a8 :: a9 :: a10 :: a11 :: a12 :: a13 :: a14 :: a15 :: a16 :: a17 :: a18 :: a19 :: some v :: σ) H) : gName 20 v (a0 :: a1 :: a2 :: a3 :: a4 :: a5 :: a6 :: a7 :: a8 :: a9 :: a10 :: a11 :: a12 :: a13 :: a14 :: a15 :: a16 :: a17 :: a18 :: a19 :: x :: σ) H QS := h
theorem x_d20 {a0 a1 a2 a3 a4 a5 a6 a7 a8 a9 a10 a11 a12 a13 a14 a15 a16 a17 a18 a19 : Option V} {x : Option V} {σ : L2.St} {k : K0} (h : k (a0 :: a1 :: a2 :: a3 :: a4 :: a5 :: a6 :: a7 :: a8 :: a9 :: a10 :: a11 :: a12 :: a13 :: a14 :: a15 :: a16 :: a17 :: a18 :: a19 :: none :: σ) H) : gDel 20 (a0 :: a1 :: a2 :: a3 :: a4 :: a5 :: a6 :: a7 :: a8 :: a9 :: a10 :: a11 :: a12 :: a13 :: a14 :: a15 :: a16 :: a17 :: a18 :: a19 :: x :: σ) H k := h
theorem x_ml20 {a0 a1 a2 a3 a4 a5 a6 a7 a8 a9 a10 a11 a12 a13 a14 a15 a16 a17 a18 a19 : Option V} {σ : L2.St} (h : tMake C sp [] E tl (a0 :: a1 :: a2 :: a3 :: a4 :: a5 :: a6 :: a7 :: a8 :: a9 :: a10 :: a11 :: a12 :: a13 :: a14 :: a15 :: a16 :: a17 :: a18 :: a19 :: some (.ref C) :: σ) H Q) : eMakeL 20 C sp [] E tl (a0 :: a1 :: a2 :: a3 :: a4 :: a5 :: a6 :: a7 :: a8 :: a9 :: a10 :: a11 :: a12 :: a13 :: a14 :: a15 :: a16 :: a17 :: a18 :: a19 :: some (.ref C) :: σ) H Q := ⟨rfl, h⟩
theorem x_au20 {te : TE} {ti : TIp} {a0 a1 a2 a3 a4 a5 a6 a7 a8 a9 a10 a11 a12 a13 a14 a15 a16 a17 a18 a19 : Option V} {σ : L2.St} (h : te (a0 :: a1 :: a2 :: a3 :: a4 :: a5 :: a6 :: a7 :: a8 :: a9 :: a10 :: a11 :: a12 :: a13 :: a14 :: a15 :: a16 :: a17 :: a18 :: a19 :: some x :: σ) H fun y H1 => ti x y H1 fun z H2 => nx (a0 :: a1 :: a2 :: a3 :: a4 :: a5 :: a6 :: a7 :: a8 :: a9 :: a10 :: a11 :: a12 :: a13 :: a14 :: a15 :: a16 :: a17 :: a18 :: a19 :: some z :: σ) H2) : tAug 20 te ti ⟨nx, rt, bk, ct⟩ (a0 :: a1 :: a2 :: a3 :: a4 :: a5 :: a6 :: a7 :: a8 :: a9 :: a10 :: a11 :: a12 :: a13 :: a14 :: a15 :: a16 :: a17 :: a18 :: a19 :: some x :: σ) H := ⟨x, rfl, h⟩
theorem x_v21 {a0 a1 a2 a3 a4 a5 a6 a7 a8 a9 a10 a11 a12 a13 a14 a15 a16 a17 a18 a19 a20 : Option V} {σ : L2.St} (h : Q v H) : tVar 21 (a0 :: a1 :: a2 :: a3 :: a4 :: a5 :: a6 :: a7 :: a8 :: a9 :: a10 :: a11 :: a12 :: a13 :: a14 :: a15 :: a16 :: a17 :: a18 :: a19 :: a20 :: some v :: σ) H Q := ⟨v, rfl, h⟩
theorem x_g21 {a0 a1 a2 a3 a4 a5 a6 a7 a8 a9 a10 a11 a12 a13 a14 a15 a16 a17 a18 a19 a20 : Option V} {x : Option V} {σ : L2.St} (h : QS (a0 :: a1 :: a2 :: a3 :: a4 :: a5 :: a6 :: a7 :: a8 :: a9 :: a10 :: a11 :: a12 :: a13 :: a14 :: a15 :: a16 :: a17 :: a18 :: a19 :: a20 :: some v :: σ) H) : gName 21 v (a0 :: a1 :: a2 :: a3 :: a4 :: a5 :: a6 :: a7 :: a8 :: a9 :: a10 :: a11 :: a12 :: a13 :: a14 :: a15 :: a16 :: a17 :: a18 :: a19 :: a20 :: x :: σ) H QS := h
theorem x_d21 {a0 a1 a2 a3 a4 a5 a6 a7 a8 a9 a10 a11 a12 a13 a14 a15 a16 a17 a18 a19 a20 : Option V} {x : Option V} {σ : L2.St} {k : K0} (h : k (a0 :: a1 :: a2 :: a3 :: a4 :: a5 :: a6 :: a7 :: a8 :: a9 :: a10 :: a11 :: a12 :: a13 :: a14 :: a15 :: a16 :: a17 :: a18 :: a19 :: a20 :: none :: σ) H) : gDel 21 (a0 :: a1 :: a2 :: a3 :: a4 :: a5 :: a6 :: a7 :: a8 :: a9 :: a10 :: a11 :: a12 :: a13 :: a14 :: a15 :: a16 :: a17 :: a18 :: a19 :: a20 :: x :: σ) H k := h
theorem x_ml21 {a0 a1 a2 a3 a4 a5 a6 a7 a8 a9 a10 a11 a12 a13 a14 a15 a16 a17 a18 a19 a20 : Option V} {σ : L2.St} (h : tMake C sp [] E tl (a0 :: a1 :: a2 :: a3 :: a4 :: a5 :: a6 :: a7 :: a8 :: a9 :: a10 :: a11 :: a12 :: a13 :: a14 :: a15 :: a16 :: a17 :: a18 :: a19 :: a20 :: some (.ref C) :: σ) H Q) : eMakeL 21 C sp [] E tl (a0 :: a1 :: a2 :: a3 :: a4 :: a5 :: a6 :: a7 :: a8 :: a9 :: a10 :: a11 :: a12 :: a13 :: a14 :: a15 :: a16 :: a17 :: a18 :: a19 :: a20 :: some (.ref C) :: σ) H Q := ⟨rfl, h⟩
theorem x_au21 {te : TE} {ti : TIp} {a0 a1 a2 a3 a4 a5 a6 a7 a8 a9 a10 a11 a12 a13 a14 a15 a16 a17 a18 a19 a20 : Option V} {σ : L2.St} (h : te (a0 :: a1 :: a2 :: a3 :: a4 :: a5 :: a6 :: a7 :: a8 :: a9 :: a10 :: a11 :: a12 :: a13 :: a14 :: a15 :: a16 :: a17 :: a18 :: a19 :: a20 :: some x :: σ) H fun y H1 => ti x y H1 fun z H2 => nx (a0 :: a1 :: a2 :: a3 :: a4 :: a5 :: a6 :: a7 :: a8 :: a9 :: a10 :: a11 :: a12 :: a13 :: a14 :: a15 :: a16 :: a17 :: a18 :: a19 :: a20 :: some z :: σ) H2) : tAug 21 te ti ⟨nx, rt, bk, ct⟩ (a0 :: a1 :: a2 :: a3 :: a4 :: a5 :: a6 :: a7 :: a8 :: a9 :: a10 :: a11 :: a12 :: a13 :: a14 :: a15 :: a16 :: a17 :: a18 :: a19 :: a20 :: some x :: σ) H := ⟨x, rfl, h⟩
theorem x_v22 {a0 a1 a2 a3 a4 a5 a6 a7 a8 a9 a10 a11 a12 a13 a14 a15 a16 a17 a18 a19 a20 a21 : Option V} {σ : L2.St} (h : Q v H) : tVar 22 (a0 :: a1 :: a2 :: a3 :: a4 :: a5 :: a6 :: a7 :: a8 :: a9 :: a10 :: a11 :: a12 :: a13 :: a14 :: a15 :: a16 :: a17 :: a18 :: a19 :: a20 :: a21 :: some v :: σ) H Q := ⟨v, rfl, h⟩
theorem x_g22 {a0 a1 a2 a3 a4 a5 a6 a7 a8 a9 a10 a11 a12 a13 a14 a15 a16 a17 a18 a19 a20 a21 : Option V} {x : Option V} {σ : L2.St} (h : QS (a0 :: a1 :: a2 :: a3 :: a4 :: a5 :: a6 :: a7 :: a8 :: a9 :: a10 :: a11 :: a12 :: a13 :: a14 :: a15 :: a16 :: a17 :: a18 :: a19 :: a20 :: a21 :: some v :: σ) H) : gName 22 v (a0 :: a1 :: a2 :: a3 :: a4 :: a5 :: a6 :: a7 :: a8 :: a9 :: a10 :: a11 :: a12 :: a13 :: a14 :: a15 :: a16 :: a17 :: a18 :: a19 :: a20 :: a21 :: x :: σ) H QS := h
theorem x_d22 {a0 a1 a2 a3 a4 a5 a6 a7 a8 a9 a10 a11 a12 a13 a14 a15 a16 a17 a18 a19 a20 a21 : Option V} {x : Option V} {σ : L2.St} {k : K0} (h : k (a0 :: a1 :: a2 :: a3 :: a4 :: a5 :: a6 :: a7 :: a8 :: a9 :: a10 :: a11 :: a12 :: a13 :: a14 :: a15 :: a16 :: a17 :: a18 :: a19 :: a20 :: a21 :: none :: σ) H) : gDel 22 (a0 :: a1 :: a2 :: a3 :: a4 :: a5 :: a6 :: a7 :: a8 :: a9 :: a10 :: a11 :: a12 :: a13 :: a14 :: a15 :: a16 :: a17 :: a18 :: a19 :: a20 :: a21 :: x :: σ) H k := h
theorem x_ml22 {a0 a1 a2 a3 a4 a5 a6 a7 a8 a9 a10 a11 a12 a13 a14 a15 a16 a17 a18 a19 a20 a21 : Option V} {σ : L2.St} (h : tMake C sp [] E tl (a0 :: a1 :: a2 :: a3 :: a4 :: a5 :: a6 :: a7 :: a8 :: a9 :: a10 :: a11 :: a12 :: a13 :: a14 :: a15 :: a16 :: a17 :: a18 :: a19 :: a20 :: a21 :: some (.ref C) :: σ) H Q) : eMakeL 22 C sp [] E tl (a0 :: a1 :: a2 :: a3 :: a4 :: a5 :: a6 :: a7 :: a8 :: a9 :: a10 :: a11 :: a12 :: a13 :: a14 :: a15 :: a16 :: a17 :: a18 :: a19 :: a20 :: a21 :: some (.ref C) :: σ) H Q := ⟨rfl, h⟩
theorem x_au22 {te : TE} {ti : TIp} {a0 a1 a2 a3 a4 a5 a6 a7 a8 a9 a10 a11 a12 a13 a14 a15 a16 a17 a18 a19 a20 a21 : Option V} {σ : L2.St} (h : te (a0 :: a1 :: a2 :: a3 :: a4 :: a5 :: a6 :: a7 :: a8 :: a9 :: a10 :: a11 :: a12 :: a13 :: a14 :: a15 :: a16 :: a17 :: a18 :: a19 :: a20 :: a21 :: some x :: σ) H fun y H1 => ti x y H1 fun z H2 => nx (a0 :: a1 :: a2 :: a3 :: a4 :: a5 :: a6 :: a7 :: a8 :: a9 :: a10 :: a11 :: a12 :: a13 :: a14 :: a15 :: a16 :: a17 :: a18 :: a19 :: a20 :: a21 :: some z :: σ) H2) : tAug 22 te ti ⟨nx, rt, bk, ct⟩ (a0 :: a1 :: a2 :: a3 :: a4 :: a5 :: a6 :: a7 :: a8 :: a9 :: a10 :: a11 :: a12 :: a13 :: a14 :: a15 :: a16 :: a17 :: a18 :: a19 :: a20 :: a21 :: some x :: σ) H := ⟨x, rfl, h⟩
theorem x_v23 {a0 a1 a2 a3 a4 a5 a6 a7 a8 a9 a10 a11 a12 a13 a14 a15 a16 a17 a18 a19 a20 a21 a22 : Option V} {σ : L2.St} (h : Q v H) : tVar 23 (a0 :: a1 :: a2 :: a3 :: a4 :: a5 :: a6 :: a7 :: a8 :: a9 :: a10 :: a11 :: a12 :: a13 :: a14 :: a15 :: a16 :: a17 :: a18 :: a19 :: a20 :: a21 :: a22 :: some v :: σ) H Q := ⟨v, rfl, h⟩
theorem x_g23 {a0 a1 a2 a3 a4 a5 a6 a7 a8 a9 a10 a11 a12 a13 a14 a15 a16 a17 a18 a19 a20 a21 a22 : Option V} {x : Option V} {σ : L2.St} (h : QS (a0 :: a1 :: a2 :: a3 :: a4 :: a5 :: a6 :: a7 :: a8 :: a9 :: a10 :: a11 :: a12 :: a13 :: a14 :: a15 :: a16 :: a17 :: a18 :: a19 :: a20 :: a21 :: a22 :: some v :: σ) H) : gName 23 v (a0 :: a1 :: a2 :: a3 :: a4 :: a5 :: a6 :: a7 :: a8 :: a9 :: a10 :: a11 :: a12 :: a13 :: a14 :: a15 :: a16 :: a17 :: a18 :: a19 :: a20 :: a21 :: a22 :: x :: σ) H QS := h
theorem x_d23 {a0 a1 a2 a3 a4 a5 a6 a7 a8 a9 a10 a11 a12 a13 a14 a15 a16 a17 a18 a19 a20 a21 a22 : Option V} {x : Option V} {σ : L2.St} {k : K0} (h : k (a0 :: a1 :: a2 :: a3 :: a4 :: a5 :: a6 :: a7 :: a8 :: a9 :: a10 :: a11 :: a12 :: a13 :: a14 :: a15 :: a16 :: a17 :: a18 :: a19 :: a20 :: a21 :: a22 :: none :: σ) H) : gDel 23 (a0 :: a1 :: a2 :: a3 :: a4 :: a5 :: a6 :: a7 :: a8 :: a9 :: a10 :: a11 :: a12 :: a13 :: a14 :: a15 :: a16 :: a17 :: a18 :: a19 :: a20 :: a21 :: a22 :: x :: σ) H k := h
theorem x_ml23 {a0 a1 a2 a3 a4 a5 a6 a7 a8 a9 a10 a11 a12 a13 a14 a15 a16 a17 a18 a19 a20 a21 a22 : Option V} {σ : L2.St} (h : tMake C sp [] E tl (a0 :: a1 :: a2 :: a3 :: a4 :: a5 :: a6 :: a7 :: a8 :: a9 :: a10 :: a11 :: a12 :: a13 :: a14 :: a15 :: a16 :: a17 :: a18 :: a19 :: a20 :: a21 :: a22 :: some (.ref C) :: σ) H Q) : eMakeL 23 C sp [] E tl (a0 :: a1 :: a2 :: a3 :: a4 :: a5 :: a6 :: a7 :: a8 :: a9 :: a10 :: a11 :: a12 :: a13 :: a14 :: a15 :: a16 :: a17 :: a18 :: a19 :: a20 :: a21 :: a22 :: some (.ref C) :: σ) H Q := ⟨rfl, h⟩
theorem x_au23 {te : TE} {ti : TIp} {a0 a1 a2 a3 a4 a5 a6 a7 a8 a9 a10 a11 a12 a13 a14 a15 a16 a17 a18 a19 a20 a21 a22 : Option V} {σ : L2.St} (h : te (a0 :: a1 :: a2 :: a3 :: a4 :: a5 :: a6 :: a7 :: a8 :: a9 :: a10 :: a11 :: a12 :: a13 :: a14 :: a15 :: a16 :: a17 :: a18 :: a19 :: a20 :: a21 :: a22 :: some x :: σ) H fun y H1 => ti x y H1 fun z H2 => nx (a0 :: a1 :: a2 :: a3 :: a4 :: a5 :: a6 :: a7 :: a8 :: a9 :: a10 :: a11 :: a12 :: a13 :: a14 :: a15 :: a16 :: a17 :: a18 :: a19 :: a20 :: a21 :: a22 :: some z :: σ) H2) : tAug 23 te ti ⟨nx, rt, bk, ct⟩ (a0 :: a1 :: a2 :: a3 :: a4 :: a5 :: a6 :: a7 :: a8 :: a9 :: a10 :: a11 :: a12 :: a13 :: a14 :: a15 :: a16 :: a17 :: a18 :: a19 :: a20 :: a21 :: a22 :: some x :: σ) H := ⟨x, rfl, h⟩
theorem x_setA0 {w : V} {QH : Hp → Prop} (F : FH H L) (m : (p, Is (.lst (w :: xs))) ∈ L) (pu : Put p (Is (.lst (w :: xs))) (Is (.lst (v :: xs))) L L') (h : ∀ H', FH H' L' → QH H') : rSetL (.ref p) (.int 0) v H QH :=
  ⟨p, _, 0, 0, rfl, rfl, F.get m, ixN_b (j := 0) rfl (by simp [Nat.blt_eq, List.length_cons]), h _ (F.put pu trivial)⟩
theorem x_setA1 {b0 : V} {w : V} {QH : Hp → Prop} (F : FH H L) (m : (p, Is (.lst (b0 :: w :: xs))) ∈ L) (pu : Put p (Is (.lst (b0 :: w :: xs))) (Is (.lst (b0 :: v :: xs))) L L') (h : ∀ H', FH H' L' → QH H') : rSetL (.ref p) (.int 1) v H QH :=
  ⟨p, _, 1, 1, rfl, rfl, F.get m, ixN_b (j := 1) rfl (by simp [Nat.blt_eq, List.length_cons]), h _ (F.put pu trivial)⟩
theorem x_setA2 {b0 b1 : V} {w : V} {QH : Hp → Prop} (F : FH H L) (m : (p, Is (.lst (b0 :: b1 :: w :: xs))) ∈ L) (pu : Put p (Is (.lst (b0 :: b1 :: w :: xs))) (Is (.lst (b0 :: b1 :: v :: xs))) L L') (h : ∀ H', FH H' L' → QH H') : rSetL (.ref p) (.int 2) v H QH :=
  ⟨p, _, 2, 2, rfl, rfl, F.get m, ixN_b (j := 2) rfl (by simp [Nat.blt_eq, List.length_cons]), h _ (F.put pu trivial)⟩
theorem x_setA3 {b0 b1 b2 : V} {w : V} {QH : Hp → Prop} (F : FH H L) (m : (p, Is (.lst (b0 :: b1 :: b2 :: w :: xs))) ∈ L) (pu : Put p (Is (.lst (b0 :: b1 :: b2 :: w :: xs))) (Is (.lst (b0 :: b1 :: b2 :: v :: xs))) L L') (h : ∀ H', FH H' L' → QH H') : rSetL (.ref p) (.int 3) v H QH :=
  ⟨p, _, 3, 3, rfl, rfl, F.get m, ixN_b (j := 3) rfl (by simp [Nat.blt_eq, List.length_cons]), h _ (F.put pu trivial)⟩
theorem x_setA4 {b0 b1 b2 b3 : V} {w : V} {QH : Hp → Prop} (F : FH H L) (m : (p, Is (.lst (b0 :: b1 :: b2 :: b3 :: w :: xs))) ∈ L) (pu : Put p (Is (.lst (b0 :: b1 :: b2 :: b3 :: w :: xs))) (Is (.lst (b0 :: b1 :: b2 :: b3 :: v :: xs))) L L') (h : ∀ H', FH H' L' → QH H') : rSetL (.ref p) (.int 4) v H QH :=
  ⟨p, _, 4, 4, rfl, rfl, F.get m, ixN_b (j := 4) rfl (by simp [Nat.blt_eq, List.length_cons]), h _ (F.put pu trivial)⟩
theorem x_setA5 {b0 b1 b2 b3 b4 : V} {w : V} {QH : Hp → Prop} (F : FH H L) (m : (p, Is (.lst (b0 :: b1 :: b2 :: b3 :: b4 :: w :: xs))) ∈ L) (pu : Put p (Is (.lst (b0 :: b1 :: b2 :: b3 :: b4 :: w :: xs))) (Is (.lst (b0 :: b1 :: b2 :: b3 :: b4 :: v :: xs))) L L') (h : ∀ H', FH H' L' → QH H') : rSetL (.ref p) (.int 5) v H QH :=
  ⟨p, _, 5, 5, rfl, rfl, F.get m, ixN_b (j := 5) rfl (by simp [Nat.blt_eq, List.length_cons]), h _ (F.put pu trivial)⟩
theorem x_setA6 {b0 b1 b2 b3 b4 b5 : V} {w : V} {QH : Hp → Prop} (F : FH H L) (m : (p, Is (.lst (b0 :: b1 :: b2 :: b3 :: b4 :: b5 :: w :: xs))) ∈ L) (pu : Put p (Is (.lst (b0 :: b1 :: b2 :: b3 :: b4 :: b5 :: w :: xs))) (Is (.lst (b0 :: b1 :: b2 :: b3 :: b4 :: b5 :: v :: xs))) L L') (h : ∀ H', FH H' L' → QH H') : rSetL (.ref p) (.int 6) v H QH :=
  ⟨p, _, 6, 6, rfl, rfl, F.get m, ixN_b (j := 6) rfl (by simp [Nat.blt_eq, List.length_cons]), h _ (F.put pu trivial)⟩
theorem x_setA7 {b0 b1 b2 b3 b4 b5 b6 : V} {w : V} {QH : Hp → Prop} (F : FH H L) (m : (p, Is (.lst (b0 :: b1 :: b2 :: b3 :: b4 :: b5 :: b6 :: w :: xs))) ∈ L) (pu : Put p (Is (.lst (b0 :: b1 :: b2 :: b3 :: b4 :: b5 :: b6 :: w :: xs))) (Is (.lst (b0 :: b1 :: b2 :: b3 :: b4 :: b5 :: b6 :: v :: xs))) L L') (h : ∀ H', FH H' L' → QH H') : rSetL (.ref p) (.int 7) v H QH :=
  ⟨p, _, 7, 7, rfl, rfl, F.get m, ixN_b (j := 7) rfl (by simp [Nat.blt_eq, List.length_cons]), h _ (F.put pu trivial)⟩
theorem x_setA8 {b0 b1 b2 b3 b4 b5 b6 b7 : V} {w : V} {QH : Hp → Prop} (F : FH H L) (m : (p, Is (.lst (b0 :: b1 :: b2 :: b3 :: b4 :: b5 :: b6 :: b7 :: w :: xs))) ∈ L) (pu : Put p (Is (.lst (b0 :: b1 :: b2 :: b3 :: b4 :: b5 :: b6 :: b7 :: w :: xs))) (Is (.lst (b0 :: b1 :: b2 :: b3 :: b4 :: b5 :: b6 :: b7 :: v :: xs))) L L') (h : ∀ H', FH H' L' → QH H') : rSetL (.ref p) (.int 8) v H QH :=
  ⟨p, _, 8, 8, rfl, rfl, F.get m, ixN_b (j := 8) rfl (by simp [Nat.blt_eq, List.length_cons]), h _ (F.put pu trivial)⟩
theorem x_setA9 {b0 b1 b2 b3 b4 b5 b6 b7 b8 : V} {w : V} {QH : Hp → Prop} (F : FH H L) (m : (p, Is (.lst (b0 :: b1 :: b2 :: b3 :: b4 :: b5 :: b6 :: b7 :: b8 :: w :: xs))) ∈ L) (pu : Put p (Is (.lst (b0 :: b1 :: b2 :: b3 :: b4 :: b5 :: b6 :: b7 :: b8 :: w :: xs))) (Is (.lst (b0 :: b1 :: b2 :: b3 :: b4 :: b5 :: b6 :: b7 :: b8 :: v :: xs))) L L') (h : ∀ H', FH H' L' → QH H') : rSetL (.ref p) (.int 9) v H QH :=
  ⟨p, _, 9, 9, rfl, rfl, F.get m, ixN_b (j := 9) rfl (by simp [Nat.blt_eq, List.length_cons]), h _ (F.put pu trivial)⟩
end
end Y

/-! the walk by class search: one step St1, as many as there are Go1 -/
namespace Y
open PySem PySem.Spec PyProof.Rows L2
class St1 (G : Prop) (G' : outParam Prop) : Prop where
  imp : G' → G
class Go0 (G : Prop) (G' : outParam Prop) : Prop where
  imp : G' → G
instance (priority := 10) go_stop {G : Prop} : Go0 G G := ⟨id⟩
instance (priority := 1000) go_step {G G' G'' : Prop} [a : St1 G G'] [b : Go0 G' G''] : Go0 G G'' := ⟨fun h => a.imp (b.imp h)⟩
theorem go {G G' G'' : Prop} [a : St1 G G'] [b : Go0 G' G''] (h : G'') : G := a.imp (b.imp h)
/-- what stands in a list -/
class Mm {α : Type} (x : α) (L : List α) : Prop where
  m : x ∈ L
instance mm_tail {α : Type} {x y : α} {L : List α} [a : Mm x L] : Mm x (y :: L) := ⟨List.mem_cons_of_mem _ a.m⟩
instance (priority := 2000) mm_head {α : Type} {x : α} {L : List α} : Mm x (x :: L) := ⟨List.mem_cons_self⟩
class PutE (p : Addr) (φ φ' : Pr) (L : List Ent) (L' : outParam (List Ent)) : Prop where
  pu : Put p φ φ' L L'
instance put_tail {p : Addr} {φ φ' : Pr} {y : Ent} {L L' : List Ent} [a : PutE p φ φ' L L'] : PutE p φ φ' (y :: L) (y :: L') := ⟨.there a.pu⟩
instance (priority := 2000) put_head {p : Addr} {φ φ' : Pr} {L : List Ent} : PutE p φ φ' ((p, φ) :: L) ((p, φ') :: L) := ⟨.here⟩
class NeS (f g : Str) : Prop where
  ne : f ≠ g
class LookF (fs : List (Str × V)) (f : Str) (v : outParam V) : Prop where
  l : fs.lookup f = some v
instance look_tail {f g : Str} {v w : V} {t : List (Str × V)} [n : NeS f g] [a : LookF t f v] : LookF ((g, w) :: t) f v := ⟨look_miss n.ne a.l⟩
instance (priority := 2000) look_head {f : Str} {v : V} {t : List (Str × V)} : LookF ((f, v) :: t) f v := ⟨look_hit⟩
class NoF (fs : List (Str × V)) (f : Str) : Prop where
  l : fs.lookup f = none
instance nof_nil {f : Str} : NoF [] f := ⟨look_nil⟩
instance nof_cons {f g : Str} {w : V} {t : List (Str × V)} [n : NeS f g] [a : NoF t f] : NoF ((g, w) :: t) f := ⟨look_miss n.ne a.l⟩
class PutFd (f : Str) (v : V) (fs : List (Str × V)) (fs' : outParam (List (Str × V))) : Prop where
  e : putF f v fs = fs'
instance putfd_nil {f : Str} {v : V} : PutFd f v [] [(f, v)] := ⟨put_nil⟩
instance putfd_tail {f g : Str} {v w : V} {t t' : List (Str × V)} [n : NeS f g] [a : PutFd f v t t'] : PutFd f v ((g, w) :: t) ((g, w) :: t') := ⟨put_miss (Ne.symm n.ne) a.e⟩
instance (priority := 2000) putfd_head {f : Str} {v w : V} {t : List (Str × V)} : PutFd f v ((f, w) :: t) ((f, v) :: t) := ⟨put_hit⟩
class Shr {α : Type} (n : Nat) (xs : List α) : Prop where
  l : xs.length ≤ n
instance shr_nil {α : Type} {n : Nat} : Shr n ([] : List α) := ⟨Nat.zero_le _⟩
instance shr_cons {α : Type} {n : Nat} {x : α} {xs : List α} [a : Shr n xs] : Shr (n + 1) (x :: xs) := ⟨Nat.succ_le_succ a.l⟩
class AtE (xs : List V) (i : Int) (v : outParam V) : Prop where
  e : atI xs i = some v
class SetE (xs : List V) (i : Int) (v : V) (ys : outParam (List V)) : Prop where
  e : ∃ k, ixN xs.length i = some k ∧ xs.set k v = ys
class AppE {α : Type} (xs ys : List α) (zs : outParam (List α)) : Prop where
  e : xs ++ ys = zs
instance (priority := 10) app_any {α : Type} {xs ys : List α} : AppE xs ys (xs ++ ys) := ⟨rfl⟩
instance app_nil {α : Type} {ys : List α} : AppE [] ys ys := ⟨rfl⟩
instance app_cons {α : Type} {x : α} {xs ys zs : List α} [a : AppE xs ys zs] : AppE (x :: xs) ys (x :: zs) := ⟨congrArg (x :: ·) a.e⟩
class WipeE (σ : L2.St) (vs : List Nat) (σ' : outParam L2.St) : Prop where
  e : wipe σ vs = σ'
class SetO (σ : L2.St) (v : Nat) (σ' : outParam L2.St) : Prop where
  e : σ.set v none = σ'
class LenE {α : Type} (xs : List α) (n : outParam Nat) : Prop where
  e : xs.length = n
/-! heads that the written rules may still take -/
class Hd (G : Prop) : Prop where
  t : True
theorem hd_is {G : Prop} [Hd G] (h : G) : G := h
instance at0 {v : V} {xs : List V} : AtE (v :: xs) 0 v := ⟨atI_at (j := 0) rfl rfl⟩
instance set0 {w v : V} {xs : List V} : SetE (w :: xs) 0 v (v :: xs) := ⟨0, ixN_at (j := 0) rfl (by simp only [List.length_cons]; omega), rfl⟩
instance seto0 {w : Option V} {σ : L2.St} : SetO (w :: σ) 0 (none :: σ) := ⟨rfl⟩
instance len0 {α : Type} : LenE (α := α) [] 0 := ⟨rfl⟩
instance at1 {b0 : V} {v : V} {xs : List V} : AtE (b0 :: v :: xs) 1 v := ⟨atI_at (j := 1) rfl rfl⟩
instance set1 {b0 : V} {w v : V} {xs : List V} : SetE (b0 :: w :: xs) 1 v (b0 :: v :: xs) := ⟨1, ixN_at (j := 1) rfl (by simp only [List.length_cons]; omega), rfl⟩
instance seto1 {b0 : Option V} {w : Option V} {σ : L2.St} : SetO (b0 :: w :: σ) 1 (b0 :: none :: σ) := ⟨rfl⟩
instance len1 {α : Type} {b0 : α} : LenE (α := α) [b0] 1 := ⟨rfl⟩
instance at2 {b0 b1 : V} {v : V} {xs : List V} : AtE (b0 :: b1 :: v :: xs) 2 v := ⟨atI_at (j := 2) rfl rfl⟩
instance set2 {b0 b1 : V} {w v : V} {xs : List V} : SetE (b0 :: b1 :: w :: xs) 2 v (b0 :: b1 :: v :: xs) := ⟨2, ixN_at (j := 2) rfl (by simp only [List.length_cons]; omega), rfl⟩
instance seto2 {b0 b1 : Option V} {w : Option V} {σ : L2.St} : SetO (b0 :: b1 :: w :: σ) 2 (b0 :: b1 :: none :: σ) := ⟨rfl⟩
instance len2 {α : Type} {b0 b1 : α} : LenE (α := α) [b0, b1] 2 := ⟨rfl⟩
instance at3 {b0 b1 b2 : V} {v : V} {xs : List V} : AtE (b0 :: b1 :: b2 :: v :: xs) 3 v := ⟨atI_at (j := 3) rfl rfl⟩
instance set3 {b0 b1 b2 : V} {w v : V} {xs : List V} : SetE (b0 :: b1 :: b2 :: w :: xs) 3 v (b0 :: b1 :: b2 :: v :: xs) := ⟨3, ixN_at (j := 3) rfl (by simp only [List.length_cons]; omega), rfl⟩
instance seto3 {b0 b1 b2 : Option V} {w : Option V} {σ : L2.St} : SetO (b0 :: b1 :: b2 :: w :: σ) 3 (b0 :: b1 :: b2 :: none :: σ) := ⟨rfl⟩
instance len3 {α : Type} {b0 b1 b2 : α} : LenE (α := α) [b0, b1, b2] 3 := ⟨rfl⟩
instance at4 {b0 b1 b2 b3 : V} {v : V} {xs : List V} : AtE (b0 :: b1 :: b2 :: b3 :: v :: xs) 4 v := ⟨atI_at (j := 4) rfl rfl⟩
instance set4 {b0 b1 b2 b3 : V} {w v : V} {xs : List V} : SetE (b0 :: b1 :: b2 :: b3 :: w :: xs) 4 v (b0 :: b1 :: b2 :: b3 :: v :: xs) := ⟨4, ixN_at (j := 4) rfl (by simp only [List.length_cons]; omega), rfl⟩
instance seto4 {b0 b1 b2 b3 : Option V} {w : Option V} {σ : L2.St} : SetO (b0 :: b1 :: b2 :: b3 :: w :: σ) 4 (b0 :: b1 :: b2 :: b3 :: none :: σ) := ⟨rfl⟩
instance len4 {α : Type} {b0 b1 b2 b3 : α} : LenE (α := α) [b0, b1, b2, b3] 4 := ⟨rfl⟩
instance at5 {b0 b1 b2 b3 b4 : V} {v : V} {xs : List V} : AtE (b0 :: b1 :: b2 :: b3 :: b4 :: v :: xs) 5 v := ⟨atI_at (j := 5) rfl rfl⟩
instance set5 {b0 b1 b2 b3 b4 : V} {w v : V} {xs : List V} : SetE (b0 :: b1 :: b2 :: b3 :: b4 :: w :: xs) 5 v (b0 :: b1 :: b2 :: b3 :: b4 :: v :: xs) := ⟨5, ixN_at (j := 5) rfl (by simp only [List.length_cons]; omega), rfl⟩
instance seto5 {b0 b1 b2 b3 b4 : Option V} {w : Option V} {σ : L2.St} : SetO (b0 :: b1 :: b2 :: b3 :: b4 :: w :: σ) 5 (b0 :: b1 :: b2 :: b3 :: b4 :: none :: σ) := ⟨rfl⟩
instance len5 {α : Type} {b0 b1 b2 b3 b4 : α} : LenE (α := α) [b0, b1, b2, b3, b4] 5 := ⟨rfl⟩
instance at6 {b0 b1 b2 b3 b4 b5 : V} {v : V} {xs : List V} : AtE (b0 :: b1 :: b2 :: b3 :: b4 :: b5 :: v :: xs) 6 v := ⟨atI_at (j := 6) rfl rfl⟩
instance set6 {b0 b1 b2 b3 b4 b5 : V} {w v : V} {xs : List V} : SetE (b0 :: b1 :: b2 :: b3 :: b4 :: b5 :: w :: xs) 6 v (b0 :: b1 :: b2 :: b3 :: b4 :: b5 :: v :: xs) := ⟨6, ixN_at (j := 6) rfl (by simp only [List.length_cons]; omega), rfl⟩
instance seto6 {b0 b1 b2 b3 b4 b5 : Option V} {w : Option V} {σ : L2.St} : SetO (b0 :: b1 :: b2 :: b3 :: b4 :: b5 :: w :: σ) 6 (b0 :: b1 :: b2 :: b3 :: b4 :: b5 :: none :: σ) := ⟨rfl⟩
instance len6 {α : Type} {b0 b1 b2 b3 b4 b5 : α} : LenE (α := α) [b0, b1, b2, b3, b4, b5] 6 := ⟨rfl⟩
instance at7 {b0 b1 b2 b3 b4 b5 b6 : V} {v : V} {xs : List V} : AtE (b0 :: b1 :: b2 :: b3 :: b4 :: b5 :: b6 :: v :: xs) 7 v := ⟨atI_at (j := 7) rfl rfl⟩
instance set7 {b0 b1 b2 b3 b4 b5 b6 : V} {w v : V} {xs : List V} : SetE (b0 :: b1 :: b2 :: b3 :: b4 :: b5 :: b6 :: w :: xs) 7 v (b0 :: b1 :: b2 :: b3 :: b4 :: b5 :: b6 :: v :: xs) := ⟨7, ixN_at (j := 7) rfl (by simp only [List.length_cons]; omega), rfl⟩
instance seto7 {b0 b1 b2 b3 b4 b5 b6 : Option V} {w : Option V} {σ : L2.St} : SetO (b0 :: b1 :: b2 :: b3 :: b4 :: b5 :: b6 :: w :: σ) 7 (b0 :: b1 :: b2 :: b3 :: b4 :: b5 :: b6 :: none :: σ) := ⟨rfl⟩
instance len7 {α : Type} {b0 b1 b2 b3 b4 b5 b6 : α} : LenE (α := α) [b0, b1, b2, b3, b4, b5, b6] 7 := ⟨rfl⟩
instance at8 {b0 b1 b2 b3 b4 b5 b6 b7 : V} {v : V} {xs : List V} : AtE (b0 :: b1 :: b2 :: b3 :: b4 :: b5 :: b6 :: b7 :: v :: xs) 8 v := ⟨atI_at (j := 8) rfl rfl⟩
instance set8 {b0 b1 b2 b3 b4 b5 b6 b7 : V} {w v : V} {xs : List V} : SetE (b0 :: b1 :: b2 :: b3 :: b4 :: b5 :: b6 :: b7 :: w :: xs) 8 v (b0 :: b1 :: b2 :: b3 :: b4 :: b5 :: b6 :: b7 :: v :: xs) := ⟨8, ixN_at (j := 8) rfl (by simp only [List.length_cons]; omega), rfl⟩
instance seto8 {b0 b1 b2 b3 b4 b5 b6 b7 : Option V} {w : Option V} {σ : L2.St} : SetO (b0 :: b1 :: b2 :: b3 :: b4 :: b5 :: b6 :: b7 :: w :: σ) 8 (b0 :: b1 :: b2 :: b3 :: b4 :: b5 :: b6 :: b7 :: none :: σ) := ⟨rfl⟩
instance len8 {α : Type} {b0 b1 b2 b3 b4 b5 b6 b7 : α} : LenE (α := α) [b0, b1, b2, b3, b4, b5, b6, b7] 8 := ⟨rfl⟩
instance at9 {b0 b1 b2 b3 b4 b5 b6 b7 b8 : V} {v : V} {xs : List V} : AtE (b0 :: b1 :: b2 :: b3 :: b4 :: b5 :: b6 :: b7 :: b8 :: v :: xs) 9 v := ⟨atI_at (j := 9) rfl rfl⟩
instance set9 {b0 b1 b2 b3 b4 b5 b6 b7 b8 : V} {w v : V} {xs : List V} : SetE (b0 :: b1 :: b2 :: b3 :: b4 :: b5 :: b6 :: b7 :: b8 :: w :: xs) 9 v (b0 :: b1 :: b2 :: b3 :: b4 :: b5 :: b6 :: b7 :: b8 :: v :: xs) := ⟨9, ixN_at (j := 9) rfl (by simp only [List.length_cons]; omega), rfl⟩
instance seto9 {b0 b1 b2 b3 b4 b5 b6 b7 b8 : Option V} {w : Option V} {σ : L2.St} : SetO (b0 :: b1 :: b2 :: b3 :: b4 :: b5 :: b6 :: b7 :: b8 :: w :: σ) 9 (b0 :: b1 :: b2 :: b3 :: b4 :: b5 :: b6 :: b7 :: b8 :: none :: σ) := ⟨rfl⟩
instance len9 {α : Type} {b0 b1 b2 b3 b4 b5 b6 b7 b8 : α} : LenE (α := α) [b0, b1, b2, b3, b4, b5, b6, b7, b8] 9 := ⟨rfl⟩
instance at10 {b0 b1 b2 b3 b4 b5 b6 b7 b8 b9 : V} {v : V} {xs : List V} : AtE (b0 :: b1 :: b2 :: b3 :: b4 :: b5 :: b6 :: b7 :: b8 :: b9 :: v :: xs) 10 v := ⟨atI_at (j := 10) rfl rfl⟩
instance set10 {b0 b1 b2 b3 b4 b5 b6 b7 b8 b9 : V} {w v : V} {xs : List V} : SetE (b0 :: b1 :: b2 :: b3 :: b4 :: b5 :: b6 :: b7 :: b8 :: b9 :: w :: xs) 10 v (b0 :: b1 :: b2 :: b3 :: b4 :: b5 :: b6 :: b7 :: b8 :: b9 :: v :: xs) := ⟨10, ixN_at (j := 10) rfl (by simp only [List.length_cons]; omega), rfl⟩
instance seto10 {b0 b1 b2 b3 b4 b5 b6 b7 b8 b9 : Option V} {w : Option V} {σ : L2.St} : SetO (b0 :: b1 :: b2 :: b3 :: b4 :: b5 :: b6 :: b7 :: b8 :: b9 :: w :: σ) 10 (b0 :: b1 :: b2 :: b3 :: b4 :: b5 :: b6 :: b7 :: b8 :: b9 :: none :: σ) := ⟨rfl⟩
instance len10 {α : Type} {b0 b1 b2 b3 b4 b5 b6 b7 b8 b9 : α} : LenE (α := α) [b0, b1, b2, b3, b4, b5, b6, b7, b8, b9] 10 := ⟨rfl⟩
instance at11 {b0 b1 b2 b3 b4 b5 b6 b7 b8 b9 b10 : V} {v : V} {xs : List V} : AtE (b0 :: b1 :: b2 :: b3 :: b4 :: b5 :: b6 :: b7 :: b8 :: b9 :: b10 :: v :: xs) 11 v := ⟨atI_at (j := 11) rfl rfl⟩
instance set11 {b0 b1 b2 b3 b4 b5 b6 b7 b8 b9 b10 : V} {w v : V} {xs : List V} : SetE (b0 :: b1 :: b2 :: b3 :: b4 :: b5 :: b6 :: b7 :: b8 :: b9 :: b10 :: w :: xs) 11 v (b0 :: b1 :: b2 :: b3 :: b4 :: b5 :: b6 :: b7 :: b8 :: b9 :: b10 :: v :: xs) := ⟨11, ixN_at (j := 11) rfl (by simp only [List.length_cons]; omega), rfl⟩
instance seto11 {b0 b1 b2 b3 b4 b5 b6 b7 b8 b9 b10 : Option V} {w : Option V} {σ : L2.St} : SetO (b0 :: b1 :: b2 :: b3 :: b4 :: b5 :: b6 :: b7 :: b8 :: b9 :: b10 :: w :: σ) 11 (b0 :: b1 :: b2 :: b3 :: b4 :: b5 :: b6 :: b7 :: b8 :: b9 :: b10 :: none :: σ) := ⟨rfl⟩
instance len11 {α : Type} {b0 b1 b2 b3 b4 b5 b6 b7 b8 b9 b10 : α} : LenE (α := α) [b0, b1, b2, b3, b4, b5, b6, b7, b8, b9, b10] 11 := ⟨rfl⟩
instance at12 {b0 b1 b2 b3 b4 b5 b6 b7 b8 b9 b10 b11 : V} {v : V} {xs : List V} : AtE (b0 :: b1 :: b2 :: b3 :: b4 :: b5 :: b6 :: b7 :: b8 :: b9 :: b10 :: b11 :: v :: xs) 12 v := ⟨atI_at (j := 12) rfl rfl⟩
instance set12 {b0 b1 b2 b3 b4 b5 b6 b7 b8 b9 b10 b11 : V} {w v : V} {xs : List V} : SetE (b0 :: b1 :: b2 :: b3 :: b4 :: b5 :: b6 :: b7 :: b8 :: b9 :: b10 :: b11 :: w :: xs) 12 v (b0 :: b1 :: b2 :: b3 :: b4 :: b5 :: b6 :: b7 :: b8 :: b9 :: b10 :: b11 :: v :: xs) := ⟨12, ixN_at (j := 12) rfl (by simp only [List.length_cons]; omega), rfl⟩
instance seto12 {b0 b1 b2 b3 b4 b5 b6 b7 b8 b9 b10 b11 : Option V} {w : Option V} {σ : L2.St} : SetO (b0 :: b1 :: b2 :: b3 :: b4 :: b5 :: b6 :: b7 :: b8 :: b9 :: b10 :: b11 :: w :: σ) 12 (b0 :: b1 :: b2 :: b3 :: b4 :: b5 :: b6 :: b7 :: b8 :: b9 :: b10 :: b11 :: none :: σ) := ⟨rfl⟩
instance len12 {α : Type} {b0 b1 b2 b3 b4 b5 b6 b7 b8 b9 b10 b11 : α} : LenE (α := α) [b0, b1, b2, b3, b4, b5, b6, b7, b8, b9, b10, b11] 12 := ⟨rfl⟩
instance at13 {b0 b1 b2 b3 b4 b5 b6 b7 b8 b9 b10 b11 b12 : V} {v : V} {xs : List V} : AtE (b0 :: b1 :: b2 :: b3 :: b4 :: b5 :: b6 :: b7 :: b8 :: b9 :: b10 :: b11 :: b12 :: v :: xs) 13 v := ⟨atI_at (j := 13) rfl rfl⟩
instance set13 {b0 b1 b2 b3 b4 b5 b6 b7 b8 b9 b10 b11 b12 : V} {w v : V} {xs : List V} : SetE (b0 :: b1 :: b2 :: b3 :: b4 :: b5 :: b6 :: b7 :: b8 :: b9 :: b10 :: b11 :: b12 :: w :: xs) 13 v (b0 :: b1 :: b2 :: b3 :: b4 :: b5 :: b6 :: b7 :: b8 :: b9 :: b10 :: b11 :: b12 :: v :: xs) := ⟨13, ixN_at (j := 13) rfl (by simp only [List.length_cons]; omega), rfl⟩
instance seto13 {b0 b1 b2 b3 b4 b5 b6 b7 b8 b9 b10 b11 b12 : Option V} {w : Option V} {σ : L2.St} : SetO (b0 :: b1 :: b2 :: b3 :: b4 :: b5 :: b6 :: b7 :: b8 :: b9 :: b10 :: b11 :: b12 :: w :: σ) 13 (b0 :: b1 :: b2 :: b3 :: b4 :: b5 :: b6 :: b7 :: b8 :: b9 :: b10 :: b11 :: b12 :: none :: σ) := ⟨rfl⟩
instance len13 {α : Type} {b0 b1 b2 b3 b4 b5 b6 b7 b8 b9 b10 b11 b12 : α} : LenE (α := α) [b0, b1, b2, b3, b4, b5, b6, b7, b8, b9, b10, b11, b12] 13 := ⟨rfl⟩
instance at14 {b0 b1 b2 b3 b4 b5 b6 b7 b8 b9 b10 b11 b12 b13 : V} {v : V} {xs : List V} : AtE (b0 :: b1 :: b2 :: b3 :: b4 :: b5 :: b6 :: b7 :: b8 :: b9 :: b10 :: b11 :: b12 :: b13 :: v :: xs) 14 v := ⟨atI_at (j := 14) rfl rfl⟩
instance set14 {b0 b1 b2 b3 b4 b5 b6 b7 b8 b9 b10 b11 b12 b13 : V} {w v : V} {xs : List V} : SetE (b0 :: b1 :: b2 :: b3 :: b4 :: b5 :: b6 :: b7 :: b8 :: b9 :: b10 :: b11 :: b12 :: b13 :: w :: xs) 14 v (b0 :: b1 :: b2 :: b3 :: b4 :: b5 :: b6 :: b7 :: b8 :: b9 :: b10 :: b11 :: b12 :: b13 :: v :: xs) := ⟨14, ixN_at (j := 14) rfl (by simp only [List.length_cons]; omega), rfl⟩
instance seto14 {b0 b1 b2 b3 b4 b5 b6 b7 b8 b9 b10 b11 b12 b13 : Option V} {w : Option V} {σ : L2.St} : SetO (b0 :: b1 :: b2 :: b3 :: b4 :: b5 :: b6 :: b7 :: b8 :: b9 :: b10 :: b11 :: b12 :: b13 :: w :: σ) 14 (b0 :: b1 :: b2 :: b3 :: b4 :: b5 :: b6 :: b7 :: b8 :: b9 :: b10 :: b11 :: b12 :: b13 :: none :: σ) := ⟨rfl⟩
instance len14 {α : Type} {b0 b1 b2 b3 b4 b5 b6 b7 b8 b9 b10 b11 b12 b13 : α} : LenE (α := α) [b0, b1, b2, b3, b4, b5, b6, b7, b8, b9, b10, b11, b12, b13] 14 := ⟨rfl⟩
instance at15 {b0 b1 b2 b3 b4 b5 b6 b7 b8 b9 b10 b11 b12 b13 b14 : V} {v : V} {xs : List V} : AtE (b0 :: b1 :: b2 :: b3 :: b4 :: b5 :: b6 :: b7 :: b8 :: b9 :: b10 :: b11 :: b12 :: b13 :: b14 :: v :: xs) 15 v := ⟨atI_at (j := 15) rfl rfl⟩
instance set15 {b0 b1 b2 b3 b4 b5 b6 b7 b8 b9 b10 b11 b12 b13 b14 : V} {w v : V} {xs : List V} : SetE (b0 :: b1 :: b2 :: b3 :: b4 :: b5 :: b6 :: b7 :: b8 :: b9 :: b10 :: b11 :: b12 :: b13 :: b14 :: w :: xs) 15 v (b0 :: b1 :: b2 :: b3 :: b4 :: b5 :: b6 :: b7 :: b8 :: b9 :: b10 :: b11 :: b12 :: b13 :: b14 :: v :: xs) := ⟨15, ixN_at (j := 15) rfl (by simp only [List.length_cons]; omega), rfl⟩
instance seto15 {b0 b1 b2 b3 b4 b5 b6 b7 b8 b9 b10 b11 b12 b13 b14 : Option V} {w : Option V} {σ : L2.St} : SetO (b0 :: b1 :: b2 :: b3 :: b4 :: b5 :: b6 :: b7 :: b8 :: b9 :: b10 :: b11 :: b12 :: b13 :: b14 :: w :: σ) 15 (b0 :: b1 :: b2 :: b3 :: b4 :: b5 :: b6 :: b7 :: b8 :: b9 :: b10 :: b11 :: b12 :: b13 :: b14 :: none :: σ) := ⟨rfl⟩
instance len15 {α : Type} {b0 b1 b2 b3 b4 b5 b6 b7 b8 b9 b10 b11 b12 b13 b14 : α} : LenE (α := α) [b0, b1, b2, b3, b4, b5, b6, b7, b8, b9, b10, b11, b12, b13, b14] 15 := ⟨rfl⟩
instance at16 {b0 b1 b2 b3 b4 b5 b6 b7 b8 b9 b10 b11 b12 b13 b14 b15 : V} {v : V} {xs : List V} : AtE (b0 :: b1 :: b2 :: b3 :: b4 :: b5 :: b6 :: b7 :: b8 :: b9 :: b10 :: b11 :: b12 :: b13 :: b14 :: b15 :: v :: xs) 16 v := ⟨atI_at (j := 16) rfl rfl⟩
instance set16 {b0 b1 b2 b3 b4 b5 b6 b7 b8 b9 b10 b11 b12 b13 b14 b15 : V} {w v : V} {xs : List V} : SetE (b0 :: b1 :: b2 :: b3 :: b4 :: b5 :: b6 :: b7 :: b8 :: b9 :: b10 :: b11 :: b12 :: b13 :: b14 :: b15 :: w :: xs) 16 v (b0 :: b1 :: b2 :: b3 :: b4 :: b5 :: b6 :: b7 :: b8 :: b9 :: b10 :: b11 :: b12 :: b13 :: b14 :: b15 :: v :: xs) := ⟨16, ixN_at (j := 16) rfl (by simp only [List.length_cons]; omega), rfl⟩
instance seto16 {b0 b1 b2 b3 b4 b5 b6 b7 b8 b9 b10 b11 b12 b13 b14 b15 : Option V} {w : Option V} {σ : L2.St} : SetO (b0 :: b1 :: b2 :: b3 :: b4 :: b5 :: b6 :: b7 :: b8 :: b9 :: b10 :: b11 :: b12 :: b13 :: b14 :: b15 :: w :: σ) 16 (b0 :: b1 :: b2 :: b3 :: b4 :: b5 :: b6 :: b7 :: b8 :: b9 :: b10 :: b11 :: b12 :: b13 :: b14 :: b15 :: none :: σ) := ⟨rfl⟩
instance len16 {α : Type} {b0 b1 b2 b3 b4 b5 b6 b7 b8 b9 b10 b11 b12 b13 b14 b15 : α} : LenE (α := α) [b0, b1, b2, b3, b4, b5, b6, b7, b8, b9, b10, b11, b12, b13, b14, b15] 16 := ⟨rfl⟩
instance at17 {b0 b1 b2 b3 b4 b5 b6 b7 b8 b9 b10 b11 b12 b13 b14 b15 b16 : V} {v : V} {xs : List V} : AtE (b0 :: b1 :: b2 :: b3 :: b4 :: b5 :: b6 :: b7 :: b8 :: b9 :: b10 :: b11 :: b12 :: b13 :: b14 :: b15 :: b16 :: v :: xs) 17 v := ⟨atI_at (j := 17) rfl rfl⟩
instance set17 {b0 b1 b2 b3 b4 b5 b6 b7 b8 b9 b10 b11 b12 b13 b14 b15 b16 : V} {w v : V} {xs : List V} : SetE (b0 :: b1 :: b2 :: b3 :: b4 :: b5 :: b6 :: b7 :: b8 :: b9 :: b10 :: b11 :: b12 :: b13 :: b14 :: b15 :: b16 :: w :: xs) 17 v (b0 :: b1 :: b2 :: b3 :: b4 :: b5 :: b6 :: b7 :: b8 :: b9 :: b10 :: b11 :: b12 :: b13 :: b14 :: b15 :: b16 :: v :: xs) := ⟨17, ixN_at (j := 17) rfl (by simp only [List.length_cons]; omega), rfl⟩
instance seto17 {b0 b1 b2 b3 b4 b5 b6 b7 b8 b9 b10 b11 b12 b13 b14 b15 b16 : Option V} {w : Option V} {σ : L2.St} : SetO (b0 :: b1 :: b2 :: b3 :: b4 :: b5 :: b6 :: b7 :: b8 :: b9 :: b10 :: b11 :: b12 :: b13 :: b14 :: b15 :: b16 :: w :: σ) 17 (b0 :: b1 :: b2 :: b3 :: b4 :: b5 :: b6 :: b7 :: b8 :: b9 :: b10 :: b11 :: b12 :: b13 :: b14 :: b15 :: b16 :: none :: σ) := ⟨rfl⟩
instance len17 {α : Type} {b0 b1 b2 b3 b4 b5 b6 b7 b8 b9 b10 b11 b12 b13 b14 b15 b16 : α} : LenE (α := α) [b0, b1, b2, b3, b4, b5, b6, b7, b8, b9, b10, b11, b12, b13, b14, b15, b16] 17 := ⟨rfl⟩
instance at18 {b0 b1 b2 b3 b4 b5 b6 b7 b8 b9 b10 b11 b12 b13 b14 b15 b16 b17 : V} {v : V} {xs : List V} : AtE (b0 :: b1 :: b2 :: b3 :: b4 :: b5 :: b6 :: b7 :: b8 :: b9 :: b10 :: b11 :: b12 :: b13 :: b14 :: b15 :: b16 :: b17 :: v :: xs) 18 v := ⟨atI_at (j := 18) rfl rfl⟩
instance set18 {b0 b1 b2 b3 b4 b5 b6 b7 b8 b9 b10 b11 b12 b13 b14 b15 b16 b17 : V} {w v : V} {xs : List V} : SetE (b0 :: b1 :: b2 :: b3 :: b4 :: b5 :: b6 :: b7 :: b8 :: b9 :: b10 :: b11 :: b12 :: b13 :: b14 :: b15 :: b16 :: b17 :: w :: xs) 18 v (b0 :: b1 :: b2 :: b3 :: b4 :: b5 :: b6 :: b7 :: b8 :: b9 :: b10 :: b11 :: b12 :: b13 :: b14 :: b15 :: b16 :: b17 :: v :: xs) := ⟨18, ixN_at (j := 18) rfl (by simp only [List.length_cons]; omega), rfl⟩
instance seto18 {b0 b1 b2 b3 b4 b5 b6 b7 b8 b9 b10 b11 b12 b13 b14 b15 b16 b17 : Option V} {w : Option V} {σ : L2.St} : SetO (b0 :: b1 :: b2 :: b3 :: b4 :: b5 :: b6 :: b7 :: b8 :: b9 :: b10 :: b11 :: b12 :: b13 :: b14 :: b15 :: b16 :: b17 :: w :: σ) 18 (b0 :: b1 :: b2 :: b3 :: b4 :: b5 :: b6 :: b7 :: b8 :: b9 :: b10 :: b11 :: b12 :: b13 :: b14 :: b15 :: b16 :: b17 :: none :: σ) := ⟨rfl⟩
instance len18 {α : Type} {b0 b1 b2 b3 b4 b5 b6 b7 b8 b9 b10 b11 b12 b13 b14 b15 b16 b17 : α} : LenE (α := α) [b0, b1, b2, b3, b4, b5, b6, b7, b8, b9, b10, b11, b12, b13, b14, b15, b16, b17] 18 := ⟨rfl⟩
instance at19 {b0 b1 b2 b3 b4 b5 b6 b7 b8 b9 b10 b11 b12 b13 b14 b15 b16 b17 b18 : V} {v : V} {xs : List V} : AtE (b0 :: b1 :: b2 :: b3 :: b4 :: b5 :: b6 :: b7 :: b8 :: b9 :: b10 :: b11 :: b12 :: b13 :: b14 :: b15 :: b16 :: b17 :: b18 :: v :: xs) 19 v := ⟨atI_at (j := 19) rfl rfl⟩
instance set19 {b0 b1 b2 b3 b4 b5 b6 b7 b8 b9 b10 b11 b12 b13 b14 b15 b16 b17 b18 : V} {w v : V} {xs : List V} : SetE (b0 :: b1 :: b2 :: b3 :: b4 :: b5 :: b6 :: b7 :: b8 :: b9 :: b10 :: b11 :: b12 :: b13 :: b14 :: b15 :: b16 :: b17 :: b18 :: w :: xs) 19 v (b0 :: b1 :: b2 :: b3 :: b4 :: b5 :: b6 :: b7 :: b8 :: b9 :: b10 :: b11 :: b12 :: b13 :: b14 :: b15 :: b16 :: b17 :: b18 :: v :: xs) := ⟨19, ixN_at (j := 19) rfl (by simp only [List.length_cons]; omega), rfl⟩
instance seto19 {b0 b1 b2 b3 b4 b5 b6 b7 b8 b9 b10 b11 b12 b13 b14 b15 b16 b17 b18 : Option V} {w : Option V} {σ : L2.St} : SetO (b0 :: b1 :: b2 :: b3 :: b4 :: b5 :: b6 :: b7 :: b8 :: b9 :: b10 :: b11 :: b12 :: b13 :: b14 :: b15 :: b16 :: b17 :: b18 :: w :: σ) 19 (b0 :: b1 :: b2 :: b3 :: b4 :: b5 :: b6 :: b7 :: b8 :: b9 :: b10 :: b11 :: b12 :: b13 :: b14 :: b15 :: b16 :: b17 :: b18 :: none :: σ) := ⟨rfl⟩
instance len19 {α : Type} {b0 b1 b2 b3 b4 b5 b6 b7 b8 b9 b10 b11 b12 b13 b14 b15 b16 b17 b18 : α} : LenE (α := α) [b0, b1, b2, b3, b4, b5, b6, b7, b8, b9, b10, b11, b12, b13, b14, b15, b16, b17, b18] 19 := ⟨rfl⟩
instance at20 {b0 b1 b2 b3 b4 b5 b6 b7 b8 b9 b10 b11 b12 b13 b14 b15 b16 b17 b18 b19 : V} {v : V} {xs : List V} : AtE (b0 :: b1 :: b2 :: b3 :: b4 :: b5 :: b6 :: b7 :: b8 :: b9 :: b10 :: b11 :: b12 :: b13 :: b14 :: b15 :: b16 :: b17 :: b18 :: b19 :: v :: xs) 20 v := ⟨atI_at (j := 20) rfl rfl⟩
instance set20 {b0 b1 b2 b3 b4 b5 b6 b7 b8 b9 b10 b11 b12 b13 b14 b15 b16 b17 b18 b19 : V} {w v : V} {xs : List V} : SetE (b0 :: b1 :: b2 :: b3 :: b4 :: b5 :: b6 :: b7 :: b8 :: b9 :: b10 :: b11 :: b12 :: b13 :: b14 :: b15 :: b16 :: b17 :: b18 :: b19 :: w :: xs) 20 v (b0 :: b1 :: b2 :: b3 :: b4 :: b5 :: b6 :: b7 :: b8 :: b9 :: b10 :: b11 :: b12 :: b13 :: b14 :: b15 :: b16 :: b17 :: b18 :: b19 :: v :: xs) := ⟨20, ixN_at (j := 20) rfl (by simp only [List.length_cons]; omega), rfl⟩
instance seto20 {b0 b1 b2 b3 b4 b5 b6 b7 b8 b9 b10 b11 b12 b13 b14 b15 b16 b17 b18 b19 : Option V} {w : Option V} {σ : L2.St} : SetO (b0 :: b1 :: b2 :: b3 :: b4 :: b5 :: b6 :: b7 :: b8 :: b9 :: b10 :: b11 :: b12 :: b13 :: b14 :: b15 :: b16 :: b17 :: b18 :: b19 :: w :: σ) 20 (b0 :: b1 :: b2 :: b3 :: b4 :: b5 :: b6 :: b7 :: b8 :: b9 :: b10 :: b11 :: b12 :: b13 :: b14 :: b15 :: b16 :: b17 :: b18 :: b19 :: none :: σ) := ⟨rfl⟩
instance len20 {α : Type} {b0 b1 b2 b3 b4 b5 b6 b7 b8 b9 b10 b11 b12 b13 b14 b15 b16 b17 b18 b19 : α} : LenE (α := α) [b0, b1, b2, b3, b4, b5, b6, b7, b8, b9, b10, b11, b12, b13, b14, b15, b16, b17, b18, b19] 20 := ⟨rfl⟩
instance at21 {b0 b1 b2 b3 b4 b5 b6 b7 b8 b9 b10 b11 b12 b13 b14 b15 b16 b17 b18 b19 b20 : V} {v : V} {xs : List V} : AtE (b0 :: b1 :: b2 :: b3 :: b4 :: b5 :: b6 :: b7 :: b8 :: b9 :: b10 :: b11 :: b12 :: b13 :: b14 :: b15 :: b16 :: b17 :: b18 :: b19 :: b20 :: v :: xs) 21 v := ⟨atI_at (j := 21) rfl rfl⟩
instance set21 {b0 b1 b2 b3 b4 b5 b6 b7 b8 b9 b10 b11 b12 b13 b14 b15 b16 b17 b18 b19 b20 : V} {w v : V} {xs : List V} : SetE (b0 :: b1 :: b2 :: b3 :: b4 :: b5 :: b6 :: b7 :: b8 :: b9 :: b10 :: b11 :: b12 :: b13 :: b14 :: b15 :: b16 :: b17 :: b18 :: b19 :: b20 :: w :: xs) 21 v (b0 :: b1 :: b2 :: b3 :: b4 :: b5 :: b6 :: b7 :: b8 :: b9 :: b10 :: b11 :: b12 :: b13 :: b14 :: b15 :: b16 :: b17 :: b18 :: b19 :: b20 :: v :: xs) := ⟨21, ixN_at (j := 21) rfl (by simp only [List.length_cons]; omega), rfl⟩
instance seto21 {b0 b1 b2 b3 b4 b5 b6 b7 b8 b9 b10 b11 b12 b13 b14 b15 b16 b17 b18 b19 b20 : Option V} {w : Option V} {σ : L2.St} : SetO (b0 :: b1 :: b2 :: b3 :: b4 :: b5 :: b6 :: b7 :: b8 :: b9 :: b10 :: b11 :: b12 :: b13 :: b14 :: b15 :: b16 :: b17 :: b18 :: b19 :: b20 :: w :: σ) 21 (b0 :: b1 :: b2 :: b3 :: b4 :: b5 :: b6 :: b7 :: b8 :: b9 :: b10 :: b11 :: b12 :: b13 :: b14 :: b15 :: b16 :: b17 :: b18 :: b19 :: b20 :: none :: σ) := ⟨rfl⟩
instance len21 {α : Type} {b0 b1 b2 b3 b4 b5 b6 b7 b8 b9 b10 b11 b12 b13 b14 b15 b16 b17 b18 b19 b20 : α} : LenE (α := α) [b0, b1, b2, b3, b4, b5, b6, b7, b8, b9, b10, b11, b12, b13, b14, b15, b16, b17, b18, b19, b20] 21 := ⟨rfl⟩
instance at22 {b0 b1 b2 b3 b4 b5 b6 b7 b8 b9 b10 b11 b12 b13 b14 b15 b16 b17 b18 b19 b20 b21 : V} {v : V} {xs : List V} : AtE (b0 :: b1 :: b2 :: b3 :: b4 :: b5 :: b6 :: b7 :: b8 :: b9 :: b10 :: b11 :: b12 :: b13 :: b14 :: b15 :: b16 :: b17 :: b18 :: b19 :: b20 :: b21 :: v :: xs) 22 v := ⟨atI_at (j := 22) rfl rfl⟩
instance set22 {b0 b1 b2 b3 b4 b5 b6 b7 b8 b9 b10 b11 b12 b13 b14 b15 b16 b17 b18 b19 b20 b21 : V} {w v : V} {xs : List V} : SetE (b0 :: b1 :: b2 :: b3 :: b4 :: b5 :: b6 :: b7 :: b8 :: b9 :: b10 :: b11 :: b12 :: b13 :: b14 :: b15 :: b16 :: b17 :: b18 :: b19 :: b20 :: b21 :: w :: xs) 22 v (b0 :: b1 :: b2 :: b3 :: b4 :: b5 :: b6 :: b7 :: b8 :: b9 :: b10 :: b11 :: b12 :: b13 :: b14 :: b15 :: b16 :: b17 :: b18 :: b19 :: b20 :: b21 :: v :: xs) := ⟨22, ixN_at (j := 22) rfl (by simp only [List.length_cons]; omega), rfl⟩
instance seto22 {b0 b1 b2 b3 b4 b5 b6 b7 b8 b9 b10 b11 b12 b13 b14 b15 b16 b17 b18 b19 b20 b21 : Option V} {w : Option V} {σ : L2.St} : SetO (b0 :: b1 :: b2 :: b3 :: b4 :: b5 :: b6 :: b7 :: b8 :: b9 :: b10 :: b11 :: b12 :: b13 :: b14 :: b15 :: b16 :: b17 :: b18 :: b19 :: b20 :: b21 :: w :: σ) 22 (b0 :: b1 :: b2 :: b3 :: b4 :: b5 :: b6 :: b7 :: b8 :: b9 :: b10 :: b11 :: b12 :: b13 :: b14 :: b15 :: b16 :: b17 :: b18 :: b19 :: b20 :: b21 :: none :: σ) := ⟨rfl⟩
instance len22 {α : Type} {b0 b1 b2 b3 b4 b5 b6 b7 b8 b9 b10 b11 b12 b13 b14 b15 b16 b17 b18 b19 b20 b21 : α} : LenE (α := α) [b0, b1, b2, b3, b4, b5, b6, b7, b8, b9, b10, b11, b12, b13, b14, b15, b16, b17, b18, b19, b20, b21] 22 := ⟨rfl⟩
instance at23 {b0 b1 b2 b3 b4 b5 b6 b7 b8 b9 b10 b11 b12 b13 b14 b15 b16 b17 b18 b19 b20 b21 b22 : V} {v : V} {xs : List V} : AtE (b0 :: b1 :: b2 :: b3 :: b4 :: b5 :: b6 :: b7 :: b8 :: b9 :: b10 :: b11 :: b12 :: b13 :: b14 :: b15 :: b16 :: b17 :: b18 :: b19 :: b20 :: b21 :: b22 :: v :: xs) 23 v := ⟨atI_at (j := 23) rfl rfl⟩
instance set23 {b0 b1 b2 b3 b4 b5 b6 b7 b8 b9 b10 b11 b12 b13 b14 b15 b16 b17 b18 b19 b20 b21 b22 : V} {w v : V} {xs : List V} : SetE (b0 :: b1 :: b2 :: b3 :: b4 :: b5 :: b6 :: b7 :: b8 :: b9 :: b10 :: b11 :: b12 :: b13 :: b14 :: b15 :: b16 :: b17 :: b18 :: b19 :: b20 :: b21 :: b22 :: w :: xs) 23 v (b0 :: b1 :: b2 :: b3 :: b4 :: b5 :: b6 :: b7 :: b8 :: b9 :: b10 :: b11 :: b12 :: b13 :: b14 :: b15 :: b16 :: b17 :: b18 :: b19 :: b20 :: b21 :: b22 :: v :: xs) := ⟨23, ixN_at (j := 23) rfl (by simp only [List.length_cons]; omega), rfl⟩
instance seto23 {b0 b1 b2 b3 b4 b5 b6 b7 b8 b9 b10 b11 b12 b13 b14 b15 b16 b17 b18 b19 b20 b21 b22 : Option V} {w : Option V} {σ : L2.St} : SetO (b0 :: b1 :: b2 :: b3 :: b4 :: b5 :: b6 :: b7 :: b8 :: b9 :: b10 :: b11 :: b12 :: b13 :: b14 :: b15 :: b16 :: b17 :: b18 :: b19 :: b20 :: b21 :: b22 :: w :: σ) 23 (b0 :: b1 :: b2 :: b3 :: b4 :: b5 :: b6 :: b7 :: b8 :: b9 :: b10 :: b11 :: b12 :: b13 :: b14 :: b15 :: b16 :: b17 :: b18 :: b19 :: b20 :: b21 :: b22 :: none :: σ) := ⟨rfl⟩
instance len23 {α : Type} {b0 b1 b2 b3 b4 b5 b6 b7 b8 b9 b10 b11 b12 b13 b14 b15 b16 b17 b18 b19 b20 b21 b22 : α} : LenE (α := α) [b0, b1, b2, b3, b4, b5, b6, b7, b8, b9, b10, b11, b12, b13, b14, b15, b16, b17, b18, b19, b20, b21, b22] 23 := ⟨rfl⟩
instance wipe0 {σ : L2.St} : WipeE σ [] σ := ⟨rfl⟩
instance wipe1 {σ σ1 : L2.St} {v : Nat} [a : SetO σ v σ1] : WipeE σ [v] σ1 := ⟨a.e⟩
instance wipe2 {σ σ1 σ2 : L2.St} {v u : Nat} [a : SetO σ u σ1] [b : SetO σ1 v σ2] : WipeE σ [v, u] σ2 := ⟨by show (σ.set u none).set v none = σ2; rw [a.e, b.e]⟩
section
variable {σ : L2.St} {H H' : Hp} {Q : VK} {QB : Bool → Hp → Prop} {QL : List V → Hp → Prop} {QO : Option Int → Hp → Prop} {QS : L2.St → Hp → Prop} {te ta tb tc : TE} {t u : TT} {tl : TA} {r r' : R2} {rc : List V → Hp → VK → Prop} {s1 s2 : TS} {nx bk ct : K0} {rt : VK} {v x y : V} {g : TG} {i j : Int} {b : Bool} {E : XK} {sp : Sp} {C : Addr} {P : Prop} [Decidable P] {A B : Prop} {S : Sta}
variable {L L' : List Ent} {p q : Addr} {xs : List V} {f : Str} {dx : Addr} {fs : List (Str × V)} {lo hi : Option Int}
variable {Cs : List Addr} {ls : List (Addr × Sp)}
variable {QV : V → Prop} {m : Str} {fs' : List (Str × V)} {ys zs : List V} {k : Nat} {vs : List V}
instance i_op  : St1 (tOp r ta tb σ H Q) (ta σ H fun x H1 => tb σ H1 fun y H2 => r x y H2 Q) := ⟨fun h => x_op h⟩
instance i_c  : St1 (tC v σ H Q) (Q v H) := ⟨fun h => x_c h⟩
instance i_seq  : St1 (tSeq s1 s2 ⟨nx, rt, bk, ct⟩ σ H) (s1 ⟨s2 ⟨nx, rt, bk, ct⟩, rt, bk, ct⟩ σ H) := ⟨fun h => x_seq h⟩
instance i_asg  : St1 (tAsg te g ⟨nx, rt, bk, ct⟩ σ H) (te σ H fun x H1 => g x σ H1 nx) := ⟨fun h => x_asg h⟩
instance i_cons  : St1 (tCons ta tl σ H QL) (ta σ H fun x H1 => tl σ H1 fun xs H2 => QL (x :: xs) H2) := ⟨fun h => x_cons h⟩
instance i_nil  : St1 (tNil σ H QL) (QL [] H) := ⟨fun h => x_nil h⟩
instance i_cb  : St1 (tCB rc tl σ H Q) (tl σ H fun vs H1 => rc vs H1 Q) := ⟨fun h => x_cb h⟩
instance i_ifS  : St1 (tIfS t s1 s2 ⟨nx, rt, bk, ct⟩ σ H) (t σ H fun b H1 => if b = true then s1 ⟨nx, rt, bk, ct⟩ σ H1 else s2 ⟨nx, rt, bk, ct⟩ σ H1) := ⟨fun h => x_ifS h⟩
instance i_iteT  : St1 (if true = true then A else B) (A) := ⟨fun h => x_iteT h⟩
instance i_iteF  : St1 (if false = true then A else B) (B) := ⟨fun h => x_iteF h⟩
instance i_next  : St1 (tNext ⟨nx, rt, bk, ct⟩ σ H) (nx σ H) := ⟨fun h => x_next h⟩
instance i_ret  : St1 (tRet te ⟨nx, rt, bk, ct⟩ σ H) (te σ H rt) := ⟨fun h => x_ret h⟩
instance i_add  : St1 (rAdd (.int i) (.int j) H Q) (Q (.int (i + j)) H) := ⟨fun h => x_add h⟩
instance i_sub  : St1 (rSub (.int i) (.int j) H Q) (Q (.int (i - j)) H) := ⟨fun h => x_sub h⟩
instance i_eqI  : St1 (rEq (.int i) (.int j) H Q) (Q (.bl (decide (i = j))) H) := ⟨fun h => x_eqI h⟩
instance i_eqB {a b : Bool} : St1 (rEq (.bl a) (.bl b) H Q) (Q (.bl (decide (a = b))) H) := ⟨fun h => x_eqB h⟩
instance i_eqS {a b : Str} : St1 (rEq (.str a) (.str b) H Q) (Q (.bl (decide (a = b))) H) := ⟨fun h => x_eqS h⟩
instance i_neI  : St1 (rNe (.int i) (.int j) H Q) (Q (.bl (decide (i ≠ j))) H) := ⟨fun h => x_neI h⟩
instance i_neB {a b : Bool} : St1 (rNe (.bl a) (.bl b) H Q) (Q (.bl (decide (a ≠ b))) H) := ⟨fun h => x_neB h⟩
instance i_neS {a b : Str} : St1 (rNe (.str a) (.str b) H Q) (Q (.bl (decide (a ≠ b))) H) := ⟨fun h => x_neS h⟩
instance i_eqPI  : St1 (rEqP S (.int i) (.int j) H Q) (Q (.bl (decide (i = j))) H) := ⟨fun h => x_eqPI h⟩
instance i_eqPB {a b : Bool} : St1 (rEqP S (.bl a) (.bl b) H Q) (Q (.bl (decide (a = b))) H) := ⟨fun h => x_eqPB h⟩
instance i_nePI  : St1 (rNeP S (.int i) (.int j) H Q) (Q (.bl (decide (i ≠ j))) H) := ⟨fun h => x_nePI h⟩
instance i_nePB {a b : Bool} : St1 (rNeP S (.bl a) (.bl b) H Q) (Q (.bl (decide (a ≠ b))) H) := ⟨fun h => x_nePB h⟩
instance i_eqPSs {a : Str} : St1 (rEqP S (.str a) (.str a) H Q) (Q (.bl true) H) := ⟨fun h => x_eqPSs h⟩
instance i_nePSs {a : Str} : St1 (rNeP S (.str a) (.str a) H Q) (Q (.bl false) H) := ⟨fun h => x_nePSs h⟩
instance i_isN  : St1 (rIs .non .non H Q) (Q (.bl true) H) := ⟨fun h => x_isN h⟩
instance i_isI  : St1 (rIs (.int i) .non H Q) (Q (.bl false) H) := ⟨fun h => x_isI h⟩
instance i_isR  : St1 (rIs (.ref C) .non H Q) (Q (.bl false) H) := ⟨fun h => x_isR h⟩
instance i_isB  : St1 (rIs (.bl b) .non H Q) (Q (.bl false) H) := ⟨fun h => x_isB h⟩
instance i_isnN  : St1 (rIsNot .non .non H Q) (Q (.bl false) H) := ⟨fun h => x_isnN h⟩
instance i_isnI  : St1 (rIsNot (.int i) .non H Q) (Q (.bl true) H) := ⟨fun h => x_isnI h⟩
instance i_isnR  : St1 (rIsNot (.ref C) .non H Q) (Q (.bl true) H) := ⟨fun h => x_isnR h⟩
instance i_isnB  : St1 (rIsNot (.bl b) .non H Q) (Q (.bl true) H) := ⟨fun h => x_isnB h⟩
instance i_lt  : St1 (rLt (.int i) (.int j) H Q) (Q (.bl (decide (i < j))) H) := ⟨fun h => x_lt h⟩
instance i_le  : St1 (rLe (.int i) (.int j) H Q) (Q (.bl (decide (i ≤ j))) H) := ⟨fun h => x_le h⟩
instance i_gt  : St1 (rGt (.int i) (.int j) H Q) (Q (.bl (decide (j < i))) H) := ⟨fun h => x_gt h⟩
instance i_ge  : St1 (rGe (.int i) (.int j) H Q) (Q (.bl (decide (j ≤ i))) H) := ⟨fun h => x_ge h⟩
instance i_intI  : St1 (rInt [.int i] H Q) (Q (.int i) H) := ⟨fun h => x_intI h⟩
instance i_and  : St1 (tAnd t u σ H QB) (t σ H fun c H1 => if c = true then u σ H1 QB else QB false H1) := ⟨fun h => x_and h⟩
instance i_or  : St1 (tOr t u σ H QB) (t σ H fun c H1 => if c = true then QB true H1 else u σ H1 QB) := ⟨fun h => x_or h⟩
instance i_con  : St1 (eCon v σ H Q) (Q v H) := ⟨fun h => x_con h⟩
instance i_gsub {to ti : TE} {ts : TSet} : St1 (gSub to ti ts v σ H QS) (to σ H fun o H1 => ti σ H1 fun i H2 => ts o i v H2 fun H3 => QS σ H3) := ⟨fun h => x_gsub h⟩
instance i_lst  : St1 (tLst tl σ H Q) (tl σ H fun xs H1 => Klst xs H1 Q) := ⟨fun h => x_lst h⟩
instance i_tup  : St1 (tTup tl σ H Q) (tl σ H fun xs H1 => Ktup xs H1 Q) := ⟨fun h => x_tup h⟩
instance i_drop  : St1 (tDrop te ⟨nx, rt, bk, ct⟩ σ H) (te σ H fun _ H1 => nx σ H1) := ⟨fun h => x_drop h⟩
instance i_tIf  : St1 (tIf t ta tb σ H Q) (t σ H fun c H1 => if c = true then ta σ H1 Q else tb σ H1 Q) := ⟨fun h => x_tIf h⟩
instance i_un {ru : V → Hp → VK → Prop} : St1 (tUn ru ta σ H Q) (ta σ H fun x H1 => ru x H1 Q) := ⟨fun h => x_un h⟩
instance i_retN  : St1 (tRetN ⟨nx, rt, bk, ct⟩ σ H) (rt .non H) := ⟨fun h => x_retN h⟩
instance i_brk  : St1 (tBreak ⟨nx, rt, bk, ct⟩ σ H) (bk σ H) := ⟨fun h => x_brk h⟩
instance i_cont  : St1 (tCont ⟨nx, rt, bk, ct⟩ σ H) (ct σ H) := ⟨fun h => x_cont h⟩
instance i_cmeth  : St1 (ClX.tCMeth C sp E (eCon (.ref C)) tl σ H Q) (tl σ H fun vs H2 => sp (.ref C :: vs) H2 Q E) := ⟨fun h => x_cmeth h⟩
instance i_sl {tlo thi : TO} {rs : V → Option Int → Option Int → Hp → VK → Prop} : St1 (L2.tSl rs te tlo thi σ H Q) (te σ H fun x H1 => tlo σ H1 fun l H2 => thi σ H2 fun u H3 => rs x l u H3 Q) := ⟨fun h => x_sl h⟩
instance i_nopart  : St1 (tNoPart σ H QO) (QO none H) := ⟨fun h => x_nopart h⟩
instance i_niteT  : St1 (if (!true) = true then A else B) (B) := ⟨fun h => x_niteT h⟩
instance i_niteF  : St1 (if (!false) = true then A else B) (A) := ⟨fun h => x_niteF h⟩
instance i_initEnd {B : Prop} : St1 (V.non = .non ∧ B) (B) := ⟨fun h => x_initEnd h⟩
instance i_neg  : St1 (rNeg (.int i) H Q) (Q (.int (-i)) H) := ⟨fun h => x_neg h⟩
instance i_band  : St1 (rAnd (.int i) (.int j) H Q) (Q (.int (Builtin.bitAnd i j)) H) := ⟨fun h => x_band h⟩
instance i_intB  : St1 (rInt [.bl b] H Q) (Q (.int (if b then 1 else 0)) H) := ⟨fun h => x_intB h⟩
instance i_augA  : St1 (rAug (.int i) (.int j) H Q) (Q (.int (i + j)) H) := ⟨fun h => x_augA h⟩
instance i_augS  : St1 (rAugS (.int i) (.int j) H Q) (Q (.int (i - j)) H) := ⟨fun h => x_augS h⟩
instance i_forE  : St1 (sFor S te g s1 ⟨nx, rt, bk, ct⟩ σ H) (te σ H fun x H1 => ForS S g s1 nx rt x σ H1) := ⟨fun h => x_forE h⟩
instance i_lcE {tt : TT} {tel : TE} {vs : List Nat} : St1 (eLc S te g tt tel vs σ H Q) (te σ H fun x H1 => LcS S g tt tel vs Q x σ H1) := ⟨fun h => x_lcE h⟩
instance i_yes  : St1 (tYes σ H QB) (QB true H) := ⟨fun h => x_yes h⟩
instance i_forK0  : St1 (forK g s1 nx bk rt 0 i σ H) (nx σ H) := ⟨fun h => x_forK0 h⟩
instance i_forK {n : Nat} : St1 (forK g s1 nx bk rt (n + 1) i σ H) (g (.int i) σ H fun σ' H' => s1 ⟨forK g s1 nx bk rt n (i + 1), rt, bk, forK g s1 nx bk rt n (i + 1)⟩ σ' H') := ⟨fun h => x_forK h⟩
instance i_chn {tl : TC} : St1 (tChn ta tl σ H Q) (ta σ H fun x H1 => tl σ x H1 Q) := ⟨fun h => x_chn h⟩
instance i_clast  : St1 (cLast r tb σ x H Q) (tb σ H fun y H1 => r x y H1 Q) := ⟨fun h => x_clast h⟩
instance i_bits  : St1 (rBits (.int i) H Q) (Q (.int (Builtin.Int.intBits i : Nat)) H) := ⟨fun h => x_bits h⟩
instance i_forKS {a : Addr} {u : HO} : St1 (forKS S a u g s1 nx bk rt (x :: xs) σ H) (g x σ H fun σ' H' => s1 ⟨fun σ H => RdS S H a u ∧ forKS S a u g s1 nx bk rt xs σ H, rt, bk, fun σ H => RdS S H a u ∧ forKS S a u g s1 nx bk rt xs σ H⟩ σ' H') := ⟨fun h => x_forKS h⟩
instance i_forKS0 {a : Addr} {u : HO} : St1 (forKS S a u g s1 nx bk rt [] σ H) (nx σ H) := ⟨fun h => x_forKS0 h⟩
instance i_lcKS {a D : Addr} {u : HO} {tt : TT} {tel : TE} {vs : List Nat} {σw : L2.St} : St1 (lcKS S a u g tt tel vs σw D Q (x :: xs) H) (g x σw H fun σ2 H2 => wipe σ2 vs = σw ∧ tt σ2 H2 fun b H3 => if b = true then tel σ2 H3 fun z H4 => lcPut D z (fun H => RdS S H a u ∧ lcKS S a u g tt tel vs σw D Q xs H) H4 else RdS S H3 a u ∧ lcKS S a u g tt tel vs σw D Q xs H3) := ⟨fun h => x_lcKS h⟩
instance i_lcKS0 {a D : Addr} {u : HO} {tt : TT} {tel : TE} {vs : List Nat} {σw : L2.St} : St1 (lcKS S a u g tt tel vs σw D Q [] H) (Q (.ref D) H) := ⟨fun h => x_lcKS0 h⟩
instance i_lcR {tt : TT} {tel : TE} {vs : List Nat} : St1 (eLcR none te g tt tel vs σ H Q) (te σ H fun y H1 => LcR g tt tel vs Q y σ H1) := ⟨fun h => x_lcR h⟩
instance i_lcKR {D : Addr} {tt : TT} {tel : TE} {vs : List Nat} {σw : L2.St} : St1 (lcKR g tt tel vs σw D Q (x :: xs) H) (g x σw H fun σ2 H2 => wipe σ2 vs = σw ∧ tt σ2 H2 fun b H3 => if b = true then tel σ2 H3 fun z H4 => lcPut D z (fun H => lcKR g tt tel vs σw D Q xs H) H4 else lcKR g tt tel vs σw D Q xs H3) := ⟨fun h => x_lcKR h⟩
instance i_lcKR0 {D : Addr} {tt : TT} {tel : TE} {vs : List Nat} {σw : L2.St} : St1 (lcKR g tt tel vs σw D Q [] H) (Q (.ref D) H) := ⟨fun h => x_lcKR0 h⟩
instance i_abs  : St1 (rAbs [.int i] H Q) (Q (.int (if i < 0 then -i else i)) H) := ⟨fun h => x_abs h⟩
instance i_min2  : St1 (rMin2 [.int i, .int j] H Q) (Q (.int (min i j)) H) := ⟨fun h => x_min2 h⟩
instance i_min3 {k : Int} : St1 (rMin3 [.int i, .int j, .int k] H Q) (Q (.int (min (min i j) k)) H) := ⟨fun h => x_min3 h⟩
instance i_max2  : St1 (rMax2 [.int i, .int j] H Q) (Q (.int (max i j)) H) := ⟨fun h => x_max2 h⟩
instance i_inAdd  : St1 (rInAdd (.int i) (.int j) H Q) (Q (.int (i + j)) H) := ⟨fun h => x_inAdd h⟩
instance i_inSub  : St1 (rInSub (.int i) (.int j) H Q) (Q (.int (i - j)) H) := ⟨fun h => x_inSub h⟩
instance i_augSub {to ti : TE} {tg : V → V → Hp → VK → Prop} {tp : TIp} {ts : TSet} : St1 (tAugS to ti te tg tp ts ⟨nx, rt, bk, ct⟩ σ H) (to σ H fun o H1 => ti σ H1 fun i H2 => tg o i H2 fun x H3 => te σ H3 fun y H4 => tp x y H4 fun z H5 => ts o i z H5 fun H6 => nx σ H6) := ⟨fun h => x_augSub h⟩
instance i_raise {C : Addr} {fs : List Str} {D : Ends} : St1 (sRaise E (tMkC C fs tl) D σ H) (tl σ H fun vs H1 => KmkC C fs E vs H1) := ⟨fun h => x_raise h⟩
instance i_raiseS {C : Addr} {fs : List Str} {D : Ends} {W : WX} : St1 (sRaiseS W (tMkC C fs tl) D σ H) (tl σ H fun vs H1 => KmkC C fs (WE W σ) vs H1) := ⟨fun h => x_raiseS h⟩
instance i_try {tab : List (Value × Nat)} {cl : List Sui} {tw : WX → TS} : St1 (sTry tab cl tw ⟨nx, rt, bk, ct⟩ σ H) (tw (wT tab cl ⟨nx, rt, bk, ct⟩) ⟨nx, rt, bk, ct⟩ σ H) := ⟨fun h => x_try h⟩
instance i_cS {ES : L2.St → XK} : St1 (tCS sp ES tl σ H Q) (tl σ H fun vs H1 => sp vs H1 Q (ES σ)) := ⟨fun h => x_cS h⟩
instance i_newS {ES : L2.St → XK} : St1 (tNewS C sp ES tl σ H Q) (tl σ H fun vs H1 => KnewS C sp vs H1 Q (ES σ)) := ⟨fun h => x_newS h⟩
instance i_whB {W : Nat → L2.St → Hp → Prop} {m : Nat} : St1 (WhB W m s1 nx rt σ H) (s1 ⟨WhN W m, rt, nx, WhN W m⟩ σ H) := ⟨fun h => x_whB h⟩
instance i_raw {vs : List V} : St1 (spRaw sp vs H Q E) (sp vs H Q E) := ⟨fun h => x_raw h⟩
instance i_v0 {σ : L2.St} : St1 (tVar 0 (some v :: σ) H Q) (Q v H) := ⟨fun h => x_v0 h⟩
instance i_v1 {a0 : Option V} {σ : L2.St} : St1 (tVar 1 (a0 :: some v :: σ) H Q) (Q v H) := ⟨fun h => x_v1 h⟩
instance i_v2 {a0 a1 : Option V} {σ : L2.St} : St1 (tVar 2 (a0 :: a1 :: some v :: σ) H Q) (Q v H) := ⟨fun h => x_v2 h⟩
instance i_v3 {a0 a1 a2 : Option V} {σ : L2.St} : St1 (tVar 3 (a0 :: a1 :: a2 :: some v :: σ) H Q) (Q v H) := ⟨fun h => x_v3 h⟩
instance i_v4 {a0 a1 a2 a3 : Option V} {σ : L2.St} : St1 (tVar 4 (a0 :: a1 :: a2 :: a3 :: some v :: σ) H Q) (Q v H) := ⟨fun h => x_v4 h⟩
instance i_v5 {a0 a1 a2 a3 a4 : Option V} {σ : L2.St} : St1 (tVar 5 (a0 :: a1 :: a2 :: a3 :: a4 :: some v :: σ) H Q) (Q v H) := ⟨fun h => x_v5 h⟩
instance i_v6 {a0 a1 a2 a3 a4 a5 : Option V} {σ : L2.St} : St1 (tVar 6 (a0 :: a1 :: a2 :: a3 :: a4 :: a5 :: some v :: σ) H Q) (Q v H) := ⟨fun h => x_v6 h⟩
instance i_v7 {a0 a1 a2 a3 a4 a5 a6 : Option V} {σ : L2.St} : St1 (tVar 7 (a0 :: a1 :: a2 :: a3 :: a4 :: a5 :: a6 :: some v :: σ) H Q) (Q v H) := ⟨fun h => x_v7 h⟩
instance i_v8 {a0 a1 a2 a3 a4 a5 a6 a7 : Option V} {σ : L2.St} : St1 (tVar 8 (a0 :: a1 :: a2 :: a3 :: a4 :: a5 :: a6 :: a7 :: some v :: σ) H Q) (Q v H) := ⟨fun h => x_v8 h⟩
instance i_v9 {a0 a1 a2 a3 a4 a5 a6 a7 a8 : Option V} {σ : L2.St} : St1 (tVar 9 (a0 :: a1 :: a2 :: a3 :: a4 :: a5 :: a6 :: a7 :: a8 :: some v :: σ) H Q) (Q v H) := ⟨fun h => x_v9 h⟩
instance i_v10 {a0 a1 a2 a3 a4 a5 a6 a7 a8 a9 : Option V} {σ : L2.St} : St1 (tVar 10 (a0 :: a1 :: a2 :: a3 :: a4 :: a5 :: a6 :: a7 :: a8 :: a9 :: some v :: σ) H Q) (Q v H) := ⟨fun h => x_v10 h⟩
instance i_v11 {a0 a1 a2 a3 a4 a5 a6 a7 a8 a9 a10 : Option V} {σ : L2.St} : St1 (tVar 11 (a0 :: a1 :: a2 :: a3 :: a4 :: a5 :: a6 :: a7 :: a8 :: a9 :: a10 :: some v :: σ) H Q) (Q v H) := ⟨fun h => x_v11 h⟩
instance i_v12 {a0 a1 a2 a3 a4 a5 a6 a7 a8 a9 a10 a11 : Option V} {σ : L2.St} : St1 (tVar 12 (a0 :: a1 :: a2 :: a3 :: a4 :: a5 :: a6 :: a7 :: a8 :: a9 :: a10 :: a11 :: some v :: σ) H Q) (Q v H) := ⟨fun h => x_v12 h⟩
instance i_v13 {a0 a1 a2 a3 a4 a5 a6 a7 a8 a9 a10 a11 a12 : Option V} {σ : L2.St} : St1 (tVar 13 (a0 :: a1 :: a2 :: a3 :: a4 :: a5 :: a6 :: a7 :: a8 :: a9 :: a10 :: a11 :: a12 :: some v :: σ) H Q) (Q v H) := ⟨fun h => x_v13 h⟩
instance i_v14 {a0 a1 a2 a3 a4 a5 a6 a7 a8 a9 a10 a11 a12 a13 : Option V} {σ : L2.St} : St1 (tVar 14 (a0 :: a1 :: a2 :: a3 :: a4 :: a5 :: a6 :: a7 :: a8 :: a9 :: a10 :: a11 :: a12 :: a13 :: some v :: σ) H Q) (Q v H) := ⟨fun h => x_v14 h⟩
instance i_v15 {a0 a1 a2 a3 a4 a5 a6 a7 a8 a9 a10 a11 a12 a13 a14 : Option V} {σ : L2.St} : St1 (tVar 15 (a0 :: a1 :: a2 :: a3 :: a4 :: a5 :: a6 :: a7 :: a8 :: a9 :: a10 :: a11 :: a12 :: a13 :: a14 :: some v :: σ) H Q) (Q v H) := ⟨fun h => x_v15 h⟩
instance i_v16 {a0 a1 a2 a3 a4 a5 a6 a7 a8 a9 a10 a11 a12 a13 a14 a15 : Option V} {σ : L2.St} : St1 (tVar 16 (a0 :: a1 :: a2 :: a3 :: a4 :: a5 :: a6 :: a7 :: a8 :: a9 :: a10 :: a11 :: a12 :: a13 :: a14 :: a15 :: some v :: σ) H Q) (Q v H) := ⟨fun h => x_v16 h⟩
instance i_v17 {a0 a1 a2 a3 a4 a5 a6 a7 a8 a9 a10 a11 a12 a13 a14 a15 a16 : Option V} {σ : L2.St} : St1 (tVar 17 (a0 :: a1 :: a2 :: a3 :: a4 :: a5 :: a6 :: a7 :: a8 :: a9 :: a10 :: a11 :: a12 :: a13 :: a14 :: a15 :: a16 :: some v :: σ) H Q) (Q v H) := ⟨fun h => x_v17 h⟩
instance i_v18 {a0 a1 a2 a3 a4 a5 a6 a7 a8 a9 a10 a11 a12 a13 a14 a15 a16 a17 : Option V} {σ : L2.St} : St1 (tVar 18 (a0 :: a1 :: a2 :: a3 :: a4 :: a5 :: a6 :: a7 :: a8 :: a9 :: a10 :: a11 :: a12 :: a13 :: a14 :: a15 :: a16 :: a17 :: some v :: σ) H Q) (Q v H) := ⟨fun h => x_v18 h⟩
instance i_v19 {a0 a1 a2 a3 a4 a5 a6 a7 a8 a9 a10 a11 a12 a13 a14 a15 a16 a17 a18 : Option V} {σ : L2.St} : St1 (tVar 19 (a0 :: a1 :: a2 :: a3 :: a4 :: a5 :: a6 :: a7 :: a8 :: a9 :: a10 :: a11 :: a12 :: a13 :: a14 :: a15 :: a16 :: a17 :: a18 :: some v :: σ) H Q) (Q v H) := ⟨fun h => x_v19 h⟩
instance i_v20 {a0 a1 a2 a3 a4 a5 a6 a7 a8 a9 a10 a11 a12 a13 a14 a15 a16 a17 a18 a19 : Option V} {σ : L2.St} : St1 (tVar 20 (a0 :: a1 :: a2 :: a3 :: a4 :: a5 :: a6 :: a7 :: a8 :: a9 :: a10 :: a11 :: a12 :: a13 :: a14 :: a15 :: a16 :: a17 :: a18 :: a19 :: some v :: σ) H Q) (Q v H) := ⟨fun h => x_v20 h⟩
instance i_v21 {a0 a1 a2 a3 a4 a5 a6 a7 a8 a9 a10 a11 a12 a13 a14 a15 a16 a17 a18 a19 a20 : Option V} {σ : L2.St} : St1 (tVar 21 (a0 :: a1 :: a2 :: a3 :: a4 :: a5 :: a6 :: a7 :: a8 :: a9 :: a10 :: a11 :: a12 :: a13 :: a14 :: a15 :: a16 :: a17 :: a18 :: a19 :: a20 :: some v :: σ) H Q) (Q v H) := ⟨fun h => x_v21 h⟩
instance i_v22 {a0 a1 a2 a3 a4 a5 a6 a7 a8 a9 a10 a11 a12 a13 a14 a15 a16 a17 a18 a19 a20 a21 : Option V} {σ : L2.St} : St1 (tVar 22 (a0 :: a1 :: a2 :: a3 :: a4 :: a5 :: a6 :: a7 :: a8 :: a9 :: a10 :: a11 :: a12 :: a13 :: a14 :: a15 :: a16 :: a17 :: a18 :: a19 :: a20 :: a21 :: some v :: σ) H Q) (Q v H) := ⟨fun h => x_v22 h⟩
instance i_v23 {a0 a1 a2 a3 a4 a5 a6 a7 a8 a9 a10 a11 a12 a13 a14 a15 a16 a17 a18 a19 a20 a21 a22 : Option V} {σ : L2.St} : St1 (tVar 23 (a0 :: a1 :: a2 :: a3 :: a4 :: a5 :: a6 :: a7 :: a8 :: a9 :: a10 :: a11 :: a12 :: a13 :: a14 :: a15 :: a16 :: a17 :: a18 :: a19 :: a20 :: a21 :: a22 :: some v :: σ) H Q) (Q v H) := ⟨fun h => x_v23 h⟩
instance i_g0 {x : Option V} {σ : L2.St} : St1 (gName 0 v (x :: σ) H QS) (QS (some v :: σ) H) := ⟨fun h => x_g0 h⟩
instance i_g1 {a0 : Option V} {x : Option V} {σ : L2.St} : St1 (gName 1 v (a0 :: x :: σ) H QS) (QS (a0 :: some v :: σ) H) := ⟨fun h => x_g1 h⟩
instance i_g2 {a0 a1 : Option V} {x : Option V} {σ : L2.St} : St1 (gName 2 v (a0 :: a1 :: x :: σ) H QS) (QS (a0 :: a1 :: some v :: σ) H) := ⟨fun h => x_g2 h⟩
instance i_g3 {a0 a1 a2 : Option V} {x : Option V} {σ : L2.St} : St1 (gName 3 v (a0 :: a1 :: a2 :: x :: σ) H QS) (QS (a0 :: a1 :: a2 :: some v :: σ) H) := ⟨fun h => x_g3 h⟩
instance i_g4 {a0 a1 a2 a3 : Option V} {x : Option V} {σ : L2.St} : St1 (gName 4 v (a0 :: a1 :: a2 :: a3 :: x :: σ) H QS) (QS (a0 :: a1 :: a2 :: a3 :: some v :: σ) H) := ⟨fun h => x_g4 h⟩
instance i_g5 {a0 a1 a2 a3 a4 : Option V} {x : Option V} {σ : L2.St} : St1 (gName 5 v (a0 :: a1 :: a2 :: a3 :: a4 :: x :: σ) H QS) (QS (a0 :: a1 :: a2 :: a3 :: a4 :: some v :: σ) H) := ⟨fun h => x_g5 h⟩
instance i_g6 {a0 a1 a2 a3 a4 a5 : Option V} {x : Option V} {σ : L2.St} : St1 (gName 6 v (a0 :: a1 :: a2 :: a3 :: a4 :: a5 :: x :: σ) H QS) (QS (a0 :: a1 :: a2 :: a3 :: a4 :: a5 :: some v :: σ) H) := ⟨fun h => x_g6 h⟩
instance i_g7 {a0 a1 a2 a3 a4 a5 a6 : Option V} {x : Option V} {σ : L2.St} : St1 (gName 7 v (a0 :: a1 :: a2 :: a3 :: a4 :: a5 :: a6 :: x :: σ) H QS) (QS (a0 :: a1 :: a2 :: a3 :: a4 :: a5 :: a6 :: some v :: σ) H) := ⟨fun h => x_g7 h⟩
instance i_g8 {a0 a1 a2 a3 a4 a5 a6 a7 : Option V} {x : Option V} {σ : L2.St} : St1 (gName 8 v (a0 :: a1 :: a2 :: a3 :: a4 :: a5 :: a6 :: a7 :: x :: σ) H QS) (QS (a0 :: a1 :: a2 :: a3 :: a4 :: a5 :: a6 :: a7 :: some v :: σ) H) := ⟨fun h => x_g8 h⟩
instance i_g9 {a0 a1 a2 a3 a4 a5 a6 a7 a8 : Option V} {x : Option V} {σ : L2.St} : St1 (gName 9 v (a0 :: a1 :: a2 :: a3 :: a4 :: a5 :: a6 :: a7 :: a8 :: x :: σ) H QS) (QS (a0 :: a1 :: a2 :: a3 :: a4 :: a5 :: a6 :: a7 :: a8 :: some v :: σ) H) := ⟨fun h => x_g9 h⟩
instance i_g10 {a0 a1 a2 a3 a4 a5 a6 a7 a8 a9 : Option V} {x : Option V} {σ : L2.St} : St1 (gName 10 v (a0 :: a1 :: a2 :: a3 :: a4 :: a5 :: a6 :: a7 :: a8 :: a9 :: x :: σ) H QS) (QS (a0 :: a1 :: a2 :: a3 :: a4 :: a5 :: a6 :: a7 :: a8 :: a9 :: some v :: σ) H) := ⟨fun h => x_g10 h⟩
instance i_g11 {a0 a1 a2 a3 a4 a5 a6 a7 a8 a9 a10 : Option V} {x : Option V} {σ : L2.St} : St1 (gName 11 v (a0 :: a1 :: a2 :: a3 :: a4 :: a5 :: a6 :: a7 :: a8 :: a9 :: a10 :: x :: σ) H QS) (QS (a0 :: a1 :: a2 :: a3 :: a4 :: a5 :: a6 :: a7 :: a8 :: a9 :: a10 :: some v :: σ) H) := ⟨fun h => x_g11 h⟩
instance i_g12 {a0 a1 a2 a3 a4 a5 a6 a7 a8 a9 a10 a11 : Option V} {x : Option V} {σ : L2.St} : St1 (gName 12 v (a0 :: a1 :: a2 :: a3 :: a4 :: a5 :: a6 :: a7 :: a8 :: a9 :: a10 :: a11 :: x :: σ) H QS) (QS (a0 :: a1 :: a2 :: a3 :: a4 :: a5 :: a6 :: a7 :: a8 :: a9 :: a10 :: a11 :: some v :: σ) H) := ⟨fun h => x_g12 h⟩
instance i_g13 {a0 a1 a2 a3 a4 a5 a6 a7 a8 a9 a10 a11 a12 : Option V} {x : Option V} {σ : L2.St} : St1 (gName 13 v (a0 :: a1 :: a2 :: a3 :: a4 :: a5 :: a6 :: a7 :: a8 :: a9 :: a10 :: a11 :: a12 :: x :: σ) H QS) (QS (a0 :: a1 :: a2 :: a3 :: a4 :: a5 :: a6 :: a7 :: a8 :: a9 :: a10 :: a11 :: a12 :: some v :: σ) H) := ⟨fun h => x_g13 h⟩
instance i_g14 {a0 a1 a2 a3 a4 a5 a6 a7 a8 a9 a10 a11 a12 a13 : Option V} {x : Option V} {σ : L2.St} : St1 (gName 14 v (a0 :: a1 :: a2 :: a3 :: a4 :: a5 :: a6 :: a7 :: a8 :: a9 :: a10 :: a11 :: a12 :: a13 :: x :: σ) H QS) (QS (a0 :: a1 :: a2 :: a3 :: a4 :: a5 :: a6 :: a7 :: a8 :: a9 :: a10 :: a11 :: a12 :: a13 :: some v :: σ) H) := ⟨fun h => x_g14 h⟩
instance i_g15 {a0 a1 a2 a3 a4 a5 a6 a7 a8 a9 a10 a11 a12 a13 a14 : Option V} {x : Option V} {σ : L2.St} : St1 (gName 15 v (a0 :: a1 :: a2 :: a3 :: a4 :: a5 :: a6 :: a7 :: a8 :: a9 :: a10 :: a11 :: a12 :: a13 :: a14 :: x :: σ) H QS) (QS (a0 :: a1 :: a2 :: a3 :: a4 :: a5 :: a6 :: a7 :: a8 :: a9 :: a10 :: a11 :: a12 :: a13 :: a14 :: some v :: σ) H) := ⟨fun h => x_g15 h⟩
instance i_g16 {a0 a1 a2 a3 a4 a5 a6 a7 a8 a9 a10 a11 a12 a13 a14 a15 : Option V} {x : Option V} {σ : L2.St} : St1 (gName 16 v (a0 :: a1 :: a2 :: a3 :: a4 :: a5 :: a6 :: a7 :: a8 :: a9 :: a10 :: a11 :: a12 :: a13 :: a14 :: a15 :: x :: σ) H QS) (QS (a0 :: a1 :: a2 :: a3 :: a4 :: a5 :: a6 :: a7 :: a8 :: a9 :: a10 :: a11 :: a12 :: a13 :: a14 :: a15 :: some v :: σ) H) := ⟨fun h => x_g16 h⟩
instance i_g17 {a0 a1 a2 a3 a4 a5 a6 a7 a8 a9 a10 a11 a12 a13 a14 a15 a16 : Option V} {x : Option V} {σ : L2.St} : St1 (gName 17 v (a0 :: a1 :: a2 :: a3 :: a4 :: a5 :: a6 :: a7 :: a8 :: a9 :: a10 :: a11 :: a12 :: a13 :: a14 :: a15 :: a16 :: x :: σ) H QS) (QS (a0 :: a1 :: a2 :: a3 :: a4 :: a5 :: a6 :: a7 :: a8 :: a9 :: a10 :: a11 :: a12 :: a13 :: a14 :: a15 :: a16 :: some v :: σ) H) := ⟨fun h => x_g17 h⟩
instance i_g18 {a0 a1 a2 a3 a4 a5 a6 a7 a8 a9 a10 a11 a12 a13 a14 a15 a16 a17 : Option V} {x : Option V} {σ : L2.St} : St1 (gName 18 v (a0 :: a1 :: a2 :: a3 :: a4 :: a5 :: a6 :: a7 :: a8 :: a9 :: a10 :: a11 :: a12 :: a13 :: a14 :: a15 :: a16 :: a17 :: x :: σ) H QS) (QS (a0 :: a1 :: a2 :: a3 :: a4 :: a5 :: a6 :: a7 :: a8 :: a9 :: a10 :: a11 :: a12 :: a13 :: a14 :: a15 :: a16 :: a17 :: some v :: σ) H) := ⟨fun h => x_g18 h⟩
instance i_g19 {a0 a1 a2 a3 a4 a5 a6 a7 a8 a9 a10 a11 a12 a13 a14 a15 a16 a17 a18 : Option V} {x : Option V} {σ : L2.St} : St1 (gName 19 v (a0 :: a1 :: a2 :: a3 :: a4 :: a5 :: a6 :: a7 :: a8 :: a9 :: a10 :: a11 :: a12 :: a13 :: a14 :: a15 :: a16 :: a17 :: a18 :: x :: σ) H QS) (QS (a0 :: a1 :: a2 :: a3 :: a4 :: a5 :: a6 :: a7 :: a8 :: a9 :: a10 :: a11 :: a12 :: a13 :: a14 :: a15 :: a16 :: a17 :: a18 :: some v :: σ) H) := ⟨fun h => x_g19 h⟩
instance i_g20 {a0 a1 a2 a3 a4 a5 a6 a7 a8 a9 a10 a11 a12 a13 a14 a15 a16 a17 a18 a19 : Option V} {x : Option V} {σ : L2.St} : St1 (gName 20 v (a0 :: a1 :: a2 :: a3 :: a4 :: a5 :: a6 :: a7 :: a8 :: a9 :: a10 :: a11 :: a12 :: a13 :: a14 :: a15 :: a16 :: a17 :: a18 :: a19 :: x :: σ) H QS) (QS (a0 :: a1 :: a2 :: a3 :: a4 :: a5 :: a6 :: a7 :: a8 :: a9 :: a10 :: a11 :: a12 :: a13 :: a14 :: a15 :: a16 :: a17 :: a18 :: a19 :: some v :: σ) H) := ⟨fun h => x_g20 h⟩
instance i_g21 {a0 a1 a2 a3 a4 a5 a6 a7 a8 a9 a10 a11 a12 a13 a14 a15 a16 a17 a18 a19 a20 : Option V} {x : Option V} {σ : L2.St} : St1 (gName 21 v (a0 :: a1 :: a2 :: a3 :: a4 :: a5 :: a6 :: a7 :: a8 :: a9 :: a10 :: a11 :: a12 :: a13 :: a14 :: a15 :: a16 :: a17 :: a18 :: a19 :: a20 :: x :: σ) H QS) (QS (a0 :: a1 :: a2 :: a3 :: a4 :: a5 :: a6 :: a7 :: a8 :: a9 :: a10 :: a11 :: a12 :: a13 :: a14 :: a15 :: a16 :: a17 :: a18 :: a19 :: a20 :: some v :: σ) H) := ⟨fun h => x_g21 h⟩
instance i_g22 {a0 a1 a2 a3 a4 a5 a6 a7 a8 a9 a10 a11 a12 a13 a14 a15 a16 a17 a18 a19 a20 a21 : Option V} {x : Option V} {σ : L2.St} : St1 (gName 22 v (a0 :: a1 :: a2 :: a3 :: a4 :: a5 :: a6 :: a7 :: a8 :: a9 :: a10 :: a11 :: a12 :: a13 :: a14 :: a15 :: a16 :: a17 :: a18 :: a19 :: a20 :: a21 :: x :: σ) H QS) (QS (a0 :: a1 :: a2 :: a3 :: a4 :: a5 :: a6 :: a7 :: a8 :: a9 :: a10 :: a11 :: a12 :: a13 :: a14 :: a15 :: a16 :: a17 :: a18 :: a19 :: a20 :: a21 :: some v :: σ) H) := ⟨fun h => x_g22 h⟩
instance i_g23 {a0 a1 a2 a3 a4 a5 a6 a7 a8 a9 a10 a11 a12 a13 a14 a15 a16 a17 a18 a19 a20 a21 a22 : Option V} {x : Option V} {σ : L2.St} : St1 (gName 23 v (a0 :: a1 :: a2 :: a3 :: a4 :: a5 :: a6 :: a7 :: a8 :: a9 :: a10 :: a11 :: a12 :: a13 :: a14 :: a15 :: a16 :: a17 :: a18 :: a19 :: a20 :: a21 :: a22 :: x :: σ) H QS) (QS (a0 :: a1 :: a2 :: a3 :: a4 :: a5 :: a6 :: a7 :: a8 :: a9 :: a10 :: a11 :: a12 :: a13 :: a14 :: a15 :: a16 :: a17 :: a18 :: a19 :: a20 :: a21 :: a22 :: some v :: σ) H) := ⟨fun h => x_g23 h⟩
instance i_d0 {x : Option V} {σ : L2.St} {k : K0} : St1 (gDel 0 (x :: σ) H k) (k (none :: σ) H) := ⟨fun h => x_d0 h⟩
instance i_d1 {a0 : Option V} {x : Option V} {σ : L2.St} {k : K0} : St1 (gDel 1 (a0 :: x :: σ) H k) (k (a0 :: none :: σ) H) := ⟨fun h => x_d1 h⟩
instance i_d2 {a0 a1 : Option V} {x : Option V} {σ : L2.St} {k : K0} : St1 (gDel 2 (a0 :: a1 :: x :: σ) H k) (k (a0 :: a1 :: none :: σ) H) := ⟨fun h => x_d2 h⟩
instance i_d3 {a0 a1 a2 : Option V} {x : Option V} {σ : L2.St} {k : K0} : St1 (gDel 3 (a0 :: a1 :: a2 :: x :: σ) H k) (k (a0 :: a1 :: a2 :: none :: σ) H) := ⟨fun h => x_d3 h⟩
instance i_d4 {a0 a1 a2 a3 : Option V} {x : Option V} {σ : L2.St} {k : K0} : St1 (gDel 4 (a0 :: a1 :: a2 :: a3 :: x :: σ) H k) (k (a0 :: a1 :: a2 :: a3 :: none :: σ) H) := ⟨fun h => x_d4 h⟩
instance i_d5 {a0 a1 a2 a3 a4 : Option V} {x : Option V} {σ : L2.St} {k : K0} : St1 (gDel 5 (a0 :: a1 :: a2 :: a3 :: a4 :: x :: σ) H k) (k (a0 :: a1 :: a2 :: a3 :: a4 :: none :: σ) H) := ⟨fun h => x_d5 h⟩
instance i_d6 {a0 a1 a2 a3 a4 a5 : Option V} {x : Option V} {σ : L2.St} {k : K0} : St1 (gDel 6 (a0 :: a1 :: a2 :: a3 :: a4 :: a5 :: x :: σ) H k) (k (a0 :: a1 :: a2 :: a3 :: a4 :: a5 :: none :: σ) H) := ⟨fun h => x_d6 h⟩
instance i_d7 {a0 a1 a2 a3 a4 a5 a6 : Option V} {x : Option V} {σ : L2.St} {k : K0} : St1 (gDel 7 (a0 :: a1 :: a2 :: a3 :: a4 :: a5 :: a6 :: x :: σ) H k) (k (a0 :: a1 :: a2 :: a3 :: a4 :: a5 :: a6 :: none :: σ) H) := ⟨fun h => x_d7 h⟩
instance i_d8 {a0 a1 a2 a3 a4 a5 a6 a7 : Option V} {x : Option V} {σ : L2.St} {k : K0} : St1 (gDel 8 (a0 :: a1 :: a2 :: a3 :: a4 :: a5 :: a6 :: a7 :: x :: σ) H k) (k (a0 :: a1 :: a2 :: a3 :: a4 :: a5 :: a6 :: a7 :: none :: σ) H) := ⟨fun h => x_d8 h⟩
instance i_d9 {a0 a1 a2 a3 a4 a5 a6 a7 a8 : Option V} {x : Option V} {σ : L2.St} {k : K0} : St1 (gDel 9 (a0 :: a1 :: a2 :: a3 :: a4 :: a5 :: a6 :: a7 :: a8 :: x :: σ) H k) (k (a0 :: a1 :: a2 :: a3 :: a4 :: a5 :: a6 :: a7 :: a8 :: none :: σ) H) := ⟨fun h => x_d9 h⟩
instance i_d10 {a0 a1 a2 a3 a4 a5 a6 a7 a8 a9 : Option V} {x : Option V} {σ : L2.St} {k : K0} : St1 (gDel 10 (a0 :: a1 :: a2 :: a3 :: a4 :: a5 :: a6 :: a7 :: a8 :: a9 :: x :: σ) H k) (k (a0 :: a1 :: a2 :: a3 :: a4 :: a5 :: a6 :: a7 :: a8 :: a9 :: none :: σ) H) := ⟨fun h => x_d10 h⟩
instance i_d11 {a0 a1 a2 a3 a4 a5 a6 a7 a8 a9 a10 : Option V} {x : Option V} {σ : L2.St} {k : K0} : St1 (gDel 11 (a0 :: a1 :: a2 :: a3 :: a4 :: a5 :: a6 :: a7 :: a8 :: a9 :: a10 :: x :: σ) H k) (k (a0 :: a1 :: a2 :: a3 :: a4 :: a5 :: a6 :: a7 :: a8 :: a9 :: a10 :: none :: σ) H) := ⟨fun h => x_d11 h⟩
instance i_d12 {a0 a1 a2 a3 a4 a5 a6 a7 a8 a9 a10 a11 : Option V} {x : Option V} {σ : L2.St} {k : K0} : St1 (gDel 12 (a0 :: a1 :: a2 :: a3 :: a4 :: a5 :: a6 :: a7 :: a8 :: a9 :: a10 :: a11 :: x :: σ) H k) (k (a0 :: a1 :: a2 :: a3 :: a4 :: a5 :: a6 :: a7 :: a8 :: a9 :: a10 :: a11 :: none :: σ) H) := ⟨fun h => x_d12 h⟩
instance i_d13 {a0 a1 a2 a3 a4 a5 a6 a7 a8 a9 a10 a11 a12 : Option V} {x : Option V} {σ : L2.St} {k : K0} : St1 (gDel 13 (a0 :: a1 :: a2 :: a3 :: a4 :: a5 :: a6 :: a7 :: a8 :: a9 :: a10 :: a11 :: a12 :: x :: σ) H k) (k (a0 :: a1 :: a2 :: a3 :: a4 :: a5 :: a6 :: a7 :: a8 :: a9 :: a10 :: a11 :: a12 :: none :: σ) H) := ⟨fun h => x_d13 h⟩
instance i_d14 {a0 a1 a2 a3 a4 a5 a6 a7 a8 a9 a10 a11 a12 a13 : Option V} {x : Option V} {σ : L2.St} {k : K0} : St1 (gDel 14 (a0 :: a1 :: a2 :: a3 :: a4 :: a5 :: a6 :: a7 :: a8 :: a9 :: a10 :: a11 :: a12 :: a13 :: x :: σ) H k) (k (a0 :: a1 :: a2 :: a3 :: a4 :: a5 :: a6 :: a7 :: a8 :: a9 :: a10 :: a11 :: a12 :: a13 :: none :: σ) H) := ⟨fun h => x_d14 h⟩
instance i_d15 {a0 a1 a2 a3 a4 a5 a6 a7 a8 a9 a10 a11 a12 a13 a14 : Option V} {x : Option V} {σ : L2.St} {k : K0} : St1 (gDel 15 (a0 :: a1 :: a2 :: a3 :: a4 :: a5 :: a6 :: a7 :: a8 :: a9 :: a10 :: a11 :: a12 :: a13 :: a14 :: x :: σ) H k) (k (a0 :: a1 :: a2 :: a3 :: a4 :: a5 :: a6 :: a7 :: a8 :: a9 :: a10 :: a11 :: a12 :: a13 :: a14 :: none :: σ) H) := ⟨fun h => x_d15 h⟩
instance i_d16 {a0 a1 a2 a3 a4 a5 a6 a7 a8 a9 a10 a11 a12 a13 a14 a15 : Option V} {x : Option V} {σ : L2.St} {k : K0} : St1 (gDel 16 (a0 :: a1 :: a2 :: a3 :: a4 :: a5 :: a6 :: a7 :: a8 :: a9 :: a10 :: a11 :: a12 :: a13 :: a14 :: a15 :: x :: σ) H k) (k (a0 :: a1 :: a2 :: a3 :: a4 :: a5 :: a6 :: a7 :: a8 :: a9 :: a10 :: a11 :: a12 :: a13 :: a14 :: a15 :: none :: σ) H) := ⟨fun h => x_d16 h⟩
instance i_d17 {a0 a1 a2 a3 a4 a5 a6 a7 a8 a9 a10 a11 a12 a13 a14 a15 a16 : Option V} {x : Option V} {σ : L2.St} {k : K0} : St1 (gDel 17 (a0 :: a1 :: a2 :: a3 :: a4 :: a5 :: a6 :: a7 :: a8 :: a9 :: a10 :: a11 :: a12 :: a13 :: a14 :: a15 :: a16 :: x :: σ) H k) (k (a0 :: a1 :: a2 :: a3 :: a4 :: a5 :: a6 :: a7 :: a8 :: a9 :: a10 :: a11 :: a12 :: a13 :: a14 :: a15 :: a16 :: none :: σ) H) := ⟨fun h => x_d17 h⟩
instance i_d18 {a0 a1 a2 a3 a4 a5 a6 a7 a8 a9 a10 a11 a12 a13 a14 a15 a16 a17 : Option V} {x : Option V} {σ : L2.St} {k : K0} : St1 (gDel 18 (a0 :: a1 :: a2 :: a3 :: a4 :: a5 :: a6 :: a7 :: a8 :: a9 :: a10 :: a11 :: a12 :: a13 :: a14 :: a15 :: a16 :: a17 :: x :: σ) H k) (k (a0 :: a1 :: a2 :: a3 :: a4 :: a5 :: a6 :: a7 :: a8 :: a9 :: a10 :: a11 :: a12 :: a13 :: a14 :: a15 :: a16 :: a17 :: none :: σ) H) := ⟨fun h => x_d18 h⟩
instance i_d19 {a0 a1 a2 a3 a4 a5 a6 a7 a8 a9 a10 a11 a12 a13 a14 a15 a16 a17 a18 : Option V} {x : Option V} {σ : L2.St} {k : K0} : St1 (gDel 19 (a0 :: a1 :: a2 :: a3 :: a4 :: a5 :: a6 :: a7 :: a8 :: a9 :: a10 :: a11 :: a12 :: a13 :: a14 :: a15 :: a16 :: a17 :: a18 :: x :: σ) H k) (k (a0 :: a1 :: a2 :: a3 :: a4 :: a5 :: a6 :: a7 :: a8 :: a9 :: a10 :: a11 :: a12 :: a13 :: a14 :: a15 :: a16 :: a17 :: a18 :: none :: σ) H) := ⟨fun h => x_d19 h⟩
instance i_d20 {a0 a1 a2 a3 a4 a5 a6 a7 a8 a9 a10 a11 a12 a13 a14 a15 a16 a17 a18 a19 : Option V} {x : Option V} {σ : L2.St} {k : K0} : St1 (gDel 20 (a0 :: a1 :: a2 :: a3 :: a4 :: a5 :: a6 :: a7 :: a8 :: a9 :: a10 :: a11 :: a12 :: a13 :: a14 :: a15 :: a16 :: a17 :: a18 :: a19 :: x :: σ) H k) (k (a0 :: a1 :: a2 :: a3 :: a4 :: a5 :: a6 :: a7 :: a8 :: a9 :: a10 :: a11 :: a12 :: a13 :: a14 :: a15 :: a16 :: a17 :: a18 :: a19 :: none :: σ) H) := ⟨fun h => x_d20 h⟩
instance i_d21 {a0 a1 a2 a3 a4 a5 a6 a7 a8 a9 a10 a11 a12 a13 a14 a15 a16 a17 a18 a19 a20 : Option V} {x : Option V} {σ : L2.St} {k : K0} : St1 (gDel 21 (a0 :: a1 :: a2 :: a3 :: a4 :: a5 :: a6 :: a7 :: a8 :: a9 :: a10 :: a11 :: a12 :: a13 :: a14 :: a15 :: a16 :: a17 :: a18 :: a19 :: a20 :: x :: σ) H k) (k (a0 :: a1 :: a2 :: a3 :: a4 :: a5 :: a6 :: a7 :: a8 :: a9 :: a10 :: a11 :: a12 :: a13 :: a14 :: a15 :: a16 :: a17 :: a18 :: a19 :: a20 :: none :: σ) H) := ⟨fun h => x_d21 h⟩
instance i_d22 {a0 a1 a2 a3 a4 a5 a6 a7 a8 a9 a10 a11 a12 a13 a14 a15 a16 a17 a18 a19 a20 a21 : Option V} {x : Option V} {σ : L2.St} {k : K0} : St1 (gDel 22 (a0 :: a1 :: a2 :: a3 :: a4 :: a5 :: a6 :: a7 :: a8 :: a9 :: a10 :: a11 :: a12 :: a13 :: a14 :: a15 :: a16 :: a17 :: a18 :: a19 :: a20 :: a21 :: x :: σ) H k) (k (a0 :: a1 :: a2 :: a3 :: a4 :: a5 :: a6 :: a7 :: a8 :: a9 :: a10 :: a11 :: a12 :: a13 :: a14 :: a15 :: a16 :: a17 :: a18 :: a19 :: a20 :: a21 :: none :: σ) H) := ⟨fun h => x_d22 h⟩
instance i_d23 {a0 a1 a2 a3 a4 a5 a6 a7 a8 a9 a10 a11 a12 a13 a14 a15 a16 a17 a18 a19 a20 a21 a22 : Option V} {x : Option V} {σ : L2.St} {k : K0} : St1 (gDel 23 (a0 :: a1 :: a2 :: a3 :: a4 :: a5 :: a6 :: a7 :: a8 :: a9 :: a10 :: a11 :: a12 :: a13 :: a14 :: a15 :: a16 :: a17 :: a18 :: a19 :: a20 :: a21 :: a22 :: x :: σ) H k) (k (a0 :: a1 :: a2 :: a3 :: a4 :: a5 :: a6 :: a7 :: a8 :: a9 :: a10 :: a11 :: a12 :: a13 :: a14 :: a15 :: a16 :: a17 :: a18 :: a19 :: a20 :: a21 :: a22 :: none :: σ) H) := ⟨fun h => x_d23 h⟩
instance i_au0 {te : TE} {ti : TIp} {σ : L2.St} : St1 (tAug 0 te ti ⟨nx, rt, bk, ct⟩ (some x :: σ) H) (te (some x :: σ) H fun y H1 => ti x y H1 fun z H2 => nx (some z :: σ) H2) := ⟨fun h => x_au0 h⟩
instance i_au1 {te : TE} {ti : TIp} {a0 : Option V} {σ : L2.St} : St1 (tAug 1 te ti ⟨nx, rt, bk, ct⟩ (a0 :: some x :: σ) H) (te (a0 :: some x :: σ) H fun y H1 => ti x y H1 fun z H2 => nx (a0 :: some z :: σ) H2) := ⟨fun h => x_au1 h⟩
instance i_au2 {te : TE} {ti : TIp} {a0 a1 : Option V} {σ : L2.St} : St1 (tAug 2 te ti ⟨nx, rt, bk, ct⟩ (a0 :: a1 :: some x :: σ) H) (te (a0 :: a1 :: some x :: σ) H fun y H1 => ti x y H1 fun z H2 => nx (a0 :: a1 :: some z :: σ) H2) := ⟨fun h => x_au2 h⟩
instance i_au3 {te : TE} {ti : TIp} {a0 a1 a2 : Option V} {σ : L2.St} : St1 (tAug 3 te ti ⟨nx, rt, bk, ct⟩ (a0 :: a1 :: a2 :: some x :: σ) H) (te (a0 :: a1 :: a2 :: some x :: σ) H fun y H1 => ti x y H1 fun z H2 => nx (a0 :: a1 :: a2 :: some z :: σ) H2) := ⟨fun h => x_au3 h⟩
instance i_au4 {te : TE} {ti : TIp} {a0 a1 a2 a3 : Option V} {σ : L2.St} : St1 (tAug 4 te ti ⟨nx, rt, bk, ct⟩ (a0 :: a1 :: a2 :: a3 :: some x :: σ) H) (te (a0 :: a1 :: a2 :: a3 :: some x :: σ) H fun y H1 => ti x y H1 fun z H2 => nx (a0 :: a1 :: a2 :: a3 :: some z :: σ) H2) := ⟨fun h => x_au4 h⟩
instance i_au5 {te : TE} {ti : TIp} {a0 a1 a2 a3 a4 : Option V} {σ : L2.St} : St1 (tAug 5 te ti ⟨nx, rt, bk, ct⟩ (a0 :: a1 :: a2 :: a3 :: a4 :: some x :: σ) H) (te (a0 :: a1 :: a2 :: a3 :: a4 :: some x :: σ) H fun y H1 => ti x y H1 fun z H2 => nx (a0 :: a1 :: a2 :: a3 :: a4 :: some z :: σ) H2) := ⟨fun h => x_au5 h⟩
instance i_au6 {te : TE} {ti : TIp} {a0 a1 a2 a3 a4 a5 : Option V} {σ : L2.St} : St1 (tAug 6 te ti ⟨nx, rt, bk, ct⟩ (a0 :: a1 :: a2 :: a3 :: a4 :: a5 :: some x :: σ) H) (te (a0 :: a1 :: a2 :: a3 :: a4 :: a5 :: some x :: σ) H fun y H1 => ti x y H1 fun z H2 => nx (a0 :: a1 :: a2 :: a3 :: a4 :: a5 :: some z :: σ) H2) := ⟨fun h => x_au6 h⟩
instance i_au7 {te : TE} {ti : TIp} {a0 a1 a2 a3 a4 a5 a6 : Option V} {σ : L2.St} : St1 (tAug 7 te ti ⟨nx, rt, bk, ct⟩ (a0 :: a1 :: a2 :: a3 :: a4 :: a5 :: a6 :: some x :: σ) H) (te (a0 :: a1 :: a2 :: a3 :: a4 :: a5 :: a6 :: some x :: σ) H fun y H1 => ti x y H1 fun z H2 => nx (a0 :: a1 :: a2 :: a3 :: a4 :: a5 :: a6 :: some z :: σ) H2) := ⟨fun h => x_au7 h⟩
instance i_au8 {te : TE} {ti : TIp} {a0 a1 a2 a3 a4 a5 a6 a7 : Option V} {σ : L2.St} : St1 (tAug 8 te ti ⟨nx, rt, bk, ct⟩ (a0 :: a1 :: a2 :: a3 :: a4 :: a5 :: a6 :: a7 :: some x :: σ) H) (te (a0 :: a1 :: a2 :: a3 :: a4 :: a5 :: a6 :: a7 :: some x :: σ) H fun y H1 => ti x y H1 fun z H2 => nx (a0 :: a1 :: a2 :: a3 :: a4 :: a5 :: a6 :: a7 :: some z :: σ) H2) := ⟨fun h => x_au8 h⟩
instance i_au9 {te : TE} {ti : TIp} {a0 a1 a2 a3 a4 a5 a6 a7 a8 : Option V} {σ : L2.St} : St1 (tAug 9 te ti ⟨nx, rt, bk, ct⟩ (a0 :: a1 :: a2 :: a3 :: a4 :: a5 :: a6 :: a7 :: a8 :: some x :: σ) H) (te (a0 :: a1 :: a2 :: a3 :: a4 :: a5 :: a6 :: a7 :: a8 :: some x :: σ) H fun y H1 => ti x y H1 fun z H2 => nx (a0 :: a1 :: a2 :: a3 :: a4 :: a5 :: a6 :: a7 :: a8 :: some z :: σ) H2) := ⟨fun h => x_au9 h⟩
instance i_au10 {te : TE} {ti : TIp} {a0 a1 a2 a3 a4 a5 a6 a7 a8 a9 : Option V} {σ : L2.St} : St1 (tAug 10 te ti ⟨nx, rt, bk, ct⟩ (a0 :: a1 :: a2 :: a3 :: a4 :: a5 :: a6 :: a7 :: a8 :: a9 :: some x :: σ) H) (te (a0 :: a1 :: a2 :: a3 :: a4 :: a5 :: a6 :: a7 :: a8 :: a9 :: some x :: σ) H fun y H1 => ti x y H1 fun z H2 => nx (a0 :: a1 :: a2 :: a3 :: a4 :: a5 :: a6 :: a7 :: a8 :: a9 :: some z :: σ) H2) := ⟨fun h => x_au10 h⟩
instance i_au11 {te : TE} {ti : TIp} {a0 a1 a2 a3 a4 a5 a6 a7 a8 a9 a10 : Option V} {σ : L2.St} : St1 (tAug 11 te ti ⟨nx, rt, bk, ct⟩ (a0 :: a1 :: a2 :: a3 :: a4 :: a5 :: a6 :: a7 :: a8 :: a9 :: a10 :: some x :: σ) H) (te (a0 :: a1 :: a2 :: a3 :: a4 :: a5 :: a6 :: a7 :: a8 :: a9 :: a10 :: some x :: σ) H fun y H1 => ti x y H1 fun z H2 => nx (a0 :: a1 :: a2 :: a3 :: a4 :: a5 :: a6 :: a7 :: a8 :: a9 :: a10 :: some z :: σ) H2) := ⟨fun h => x_au11 h⟩
instance i_au12 {te : TE} {ti : TIp} {a0 a1 a2 a3 a4 a5 a6 a7 a8 a9 a10 a11 : Option V} {σ : L2.St} : St1 (tAug 12 te ti ⟨nx, rt, bk, ct⟩ (a0 :: a1 :: a2 :: a3 :: a4 :: a5 :: a6 :: a7 :: a8 :: a9 :: a10 :: a11 :: some x :: σ) H) (te (a0 :: a1 :: a2 :: a3 :: a4 :: a5 :: a6 :: a7 :: a8 :: a9 :: a10 :: a11 :: some x :: σ) H fun y H1 => ti x y H1 fun z H2 => nx (a0 :: a1 :: a2 :: a3 :: a4 :: a5 :: a6 :: a7 :: a8 :: a9 :: a10 :: a11 :: some z :: σ) H2) := ⟨fun h => x_au12 h⟩
instance i_au13 {te : TE} {ti : TIp} {a0 a1 a2 a3 a4 a5 a6 a7 a8 a9 a10 a11 a12 : Option V} {σ : L2.St} : St1 (tAug 13 te ti ⟨nx, rt, bk, ct⟩ (a0 :: a1 :: a2 :: a3 :: a4 :: a5 :: a6 :: a7 :: a8 :: a9 :: a10 :: a11 :: a12 :: some x :: σ) H) (te (a0 :: a1 :: a2 :: a3 :: a4 :: a5 :: a6 :: a7 :: a8 :: a9 :: a10 :: a11 :: a12 :: some x :: σ) H fun y H1 => ti x y H1 fun z H2 => nx (a0 :: a1 :: a2 :: a3 :: a4 :: a5 :: a6 :: a7 :: a8 :: a9 :: a10 :: a11 :: a12 :: some z :: σ) H2) := ⟨fun h => x_au13 h⟩
instance i_au14 {te : TE} {ti : TIp} {a0 a1 a2 a3 a4 a5 a6 a7 a8 a9 a10 a11 a12 a13 : Option V} {σ : L2.St} : St1 (tAug 14 te ti ⟨nx, rt, bk, ct⟩ (a0 :: a1 :: a2 :: a3 :: a4 :: a5 :: a6 :: a7 :: a8 :: a9 :: a10 :: a11 :: a12 :: a13 :: some x :: σ) H) (te (a0 :: a1 :: a2 :: a3 :: a4 :: a5 :: a6 :: a7 :: a8 :: a9 :: a10 :: a11 :: a12 :: a13 :: some x :: σ) H fun y H1 => ti x y H1 fun z H2 => nx (a0 :: a1 :: a2 :: a3 :: a4 :: a5 :: a6 :: a7 :: a8 :: a9 :: a10 :: a11 :: a12 :: a13 :: some z :: σ) H2) := ⟨fun h => x_au14 h⟩
instance i_au15 {te : TE} {ti : TIp} {a0 a1 a2 a3 a4 a5 a6 a7 a8 a9 a10 a11 a12 a13 a14 : Option V} {σ : L2.St} : St1 (tAug 15 te ti ⟨nx, rt, bk, ct⟩ (a0 :: a1 :: a2 :: a3 :: a4 :: a5 :: a6 :: a7 :: a8 :: a9 :: a10 :: a11 :: a12 :: a13 :: a14 :: some x :: σ) H) (te (a0 :: a1 :: a2 :: a3 :: a4 :: a5 :: a6 :: a7 :: a8 :: a9 :: a10 :: a11 :: a12 :: a13 :: a14 :: some x :: σ) H fun y H1 => ti x y H1 fun z H2 => nx (a0 :: a1 :: a2 :: a3 :: a4 :: a5 :: a6 :: a7 :: a8 :: a9 :: a10 :: a11 :: a12 :: a13 :: a14 :: some z :: σ) H2) := ⟨fun h => x_au15 h⟩
instance i_au16 {te : TE} {ti : TIp} {a0 a1 a2 a3 a4 a5 a6 a7 a8 a9 a10 a11 a12 a13 a14 a15 : Option V} {σ : L2.St} : St1 (tAug 16 te ti ⟨nx, rt, bk, ct⟩ (a0 :: a1 :: a2 :: a3 :: a4 :: a5 :: a6 :: a7 :: a8 :: a9 :: a10 :: a11 :: a12 :: a13 :: a14 :: a15 :: some x :: σ) H) (te (a0 :: a1 :: a2 :: a3 :: a4 :: a5 :: a6 :: a7 :: a8 :: a9 :: a10 :: a11 :: a12 :: a13 :: a14 :: a15 :: some x :: σ) H fun y H1 => ti x y H1 fun z H2 => nx (a0 :: a1 :: a2 :: a3 :: a4 :: a5 :: a6 :: a7 :: a8 :: a9 :: a10 :: a11 :: a12 :: a13 :: a14 :: a15 :: some z :: σ) H2) := ⟨fun h => x_au16 h⟩
instance i_au17 {te : TE} {ti : TIp} {a0 a1 a2 a3 a4 a5 a6 a7 a8 a9 a10 a11 a12 a13 a14 a15 a16 : Option V} {σ : L2.St} : St1 (tAug 17 te ti ⟨nx, rt, bk, ct⟩ (a0 :: a1 :: a2 :: a3 :: a4 :: a5 :: a6 :: a7 :: a8 :: a9 :: a10 :: a11 :: a12 :: a13 :: a14 :: a15 :: a16 :: some x :: σ) H) (te (a0 :: a1 :: a2 :: a3 :: a4 :: a5 :: a6 :: a7 :: a8 :: a9 :: a10 :: a11 :: a12 :: a13 :: a14 :: a15 :: a16 :: some x :: σ) H fun y H1 => ti x y H1 fun z H2 => nx (a0 :: a1 :: a2 :: a3 :: a4 :: a5 :: a6 :: a7 :: a8 :: a9 :: a10 :: a11 :: a12 :: a13 :: a14 :: a15 :: a16 :: some z :: σ) H2) := ⟨fun h => x_au17 h⟩
instance i_au18 {te : TE} {ti : TIp} {a0 a1 a2 a3 a4 a5 a6 a7 a8 a9 a10 a11 a12 a13 a14 a15 a16 a17 : Option V} {σ : L2.St} : St1 (tAug 18 te ti ⟨nx, rt, bk, ct⟩ (a0 :: a1 :: a2 :: a3 :: a4 :: a5 :: a6 :: a7 :: a8 :: a9 :: a10 :: a11 :: a12 :: a13 :: a14 :: a15 :: a16 :: a17 :: some x :: σ) H) (te (a0 :: a1 :: a2 :: a3 :: a4 :: a5 :: a6 :: a7 :: a8 :: a9 :: a10 :: a11 :: a12 :: a13 :: a14 :: a15 :: a16 :: a17 :: some x :: σ) H fun y H1 => ti x y H1 fun z H2 => nx (a0 :: a1 :: a2 :: a3 :: a4 :: a5 :: a6 :: a7 :: a8 :: a9 :: a10 :: a11 :: a12 :: a13 :: a14 :: a15 :: a16 :: a17 :: some z :: σ) H2) := ⟨fun h => x_au18 h⟩
instance i_au19 {te : TE} {ti : TIp} {a0 a1 a2 a3 a4 a5 a6 a7 a8 a9 a10 a11 a12 a13 a14 a15 a16 a17 a18 : Option V} {σ : L2.St} : St1 (tAug 19 te ti ⟨nx, rt, bk, ct⟩ (a0 :: a1 :: a2 :: a3 :: a4 :: a5 :: a6 :: a7 :: a8 :: a9 :: a10 :: a11 :: a12 :: a13 :: a14 :: a15 :: a16 :: a17 :: a18 :: some x :: σ) H) (te (a0 :: a1 :: a2 :: a3 :: a4 :: a5 :: a6 :: a7 :: a8 :: a9 :: a10 :: a11 :: a12 :: a13 :: a14 :: a15 :: a16 :: a17 :: a18 :: some x :: σ) H fun y H1 => ti x y H1 fun z H2 => nx (a0 :: a1 :: a2 :: a3 :: a4 :: a5 :: a6 :: a7 :: a8 :: a9 :: a10 :: a11 :: a12 :: a13 :: a14 :: a15 :: a16 :: a17 :: a18 :: some z :: σ) H2) := ⟨fun h => x_au19 h⟩
instance i_au20 {te : TE} {ti : TIp} {a0 a1 a2 a3 a4 a5 a6 a7 a8 a9 a10 a11 a12 a13 a14 a15 a16 a17 a18 a19 : Option V} {σ : L2.St} : St1 (tAug 20 te ti ⟨nx, rt, bk, ct⟩ (a0 :: a1 :: a2 :: a3 :: a4 :: a5 :: a6 :: a7 :: a8 :: a9 :: a10 :: a11 :: a12 :: a13 :: a14 :: a15 :: a16 :: a17 :: a18 :: a19 :: some x :: σ) H) (te (a0 :: a1 :: a2 :: a3 :: a4 :: a5 :: a6 :: a7 :: a8 :: a9 :: a10 :: a11 :: a12 :: a13 :: a14 :: a15 :: a16 :: a17 :: a18 :: a19 :: some x :: σ) H fun y H1 => ti x y H1 fun z H2 => nx (a0 :: a1 :: a2 :: a3 :: a4 :: a5 :: a6 :: a7 :: a8 :: a9 :: a10 :: a11 :: a12 :: a13 :: a14 :: a15 :: a16 :: a17 :: a18 :: a19 :: some z :: σ) H2) := ⟨fun h => x_au20 h⟩
instance i_au21 {te : TE} {ti : TIp} {a0 a1 a2 a3 a4 a5 a6 a7 a8 a9 a10 a11 a12 a13 a14 a15 a16 a17 a18 a19 a20 : Option V} {σ : L2.St} : St1 (tAug 21 te ti ⟨nx, rt, bk, ct⟩ (a0 :: a1 :: a2 :: a3 :: a4 :: a5 :: a6 :: a7 :: a8 :: a9 :: a10 :: a11 :: a12 :: a13 :: a14 :: a15 :: a16 :: a17 :: a18 :: a19 :: a20 :: some x :: σ) H) (te (a0 :: a1 :: a2 :: a3 :: a4 :: a5 :: a6 :: a7 :: a8 :: a9 :: a10 :: a11 :: a12 :: a13 :: a14 :: a15 :: a16 :: a17 :: a18 :: a19 :: a20 :: some x :: σ) H fun y H1 => ti x y H1 fun z H2 => nx (a0 :: a1 :: a2 :: a3 :: a4 :: a5 :: a6 :: a7 :: a8 :: a9 :: a10 :: a11 :: a12 :: a13 :: a14 :: a15 :: a16 :: a17 :: a18 :: a19 :: a20 :: some z :: σ) H2) := ⟨fun h => x_au21 h⟩
instance i_au22 {te : TE} {ti : TIp} {a0 a1 a2 a3 a4 a5 a6 a7 a8 a9 a10 a11 a12 a13 a14 a15 a16 a17 a18 a19 a20 a21 : Option V} {σ : L2.St} : St1 (tAug 22 te ti ⟨nx, rt, bk, ct⟩ (a0 :: a1 :: a2 :: a3 :: a4 :: a5 :: a6 :: a7 :: a8 :: a9 :: a10 :: a11 :: a12 :: a13 :: a14 :: a15 :: a16 :: a17 :: a18 :: a19 :: a20 :: a21 :: some x :: σ) H) (te (a0 :: a1 :: a2 :: a3 :: a4 :: a5 :: a6 :: a7 :: a8 :: a9 :: a10 :: a11 :: a12 :: a13 :: a14 :: a15 :: a16 :: a17 :: a18 :: a19 :: a20 :: a21 :: some x :: σ) H fun y H1 => ti x y H1 fun z H2 => nx (a0 :: a1 :: a2 :: a3 :: a4 :: a5 :: a6 :: a7 :: a8 :: a9 :: a10 :: a11 :: a12 :: a13 :: a14 :: a15 :: a16 :: a17 :: a18 :: a19 :: a20 :: a21 :: some z :: σ) H2) := ⟨fun h => x_au22 h⟩
instance i_au23 {te : TE} {ti : TIp} {a0 a1 a2 a3 a4 a5 a6 a7 a8 a9 a10 a11 a12 a13 a14 a15 a16 a17 a18 a19 a20 a21 a22 : Option V} {σ : L2.St} : St1 (tAug 23 te ti ⟨nx, rt, bk, ct⟩ (a0 :: a1 :: a2 :: a3 :: a4 :: a5 :: a6 :: a7 :: a8 :: a9 :: a10 :: a11 :: a12 :: a13 :: a14 :: a15 :: a16 :: a17 :: a18 :: a19 :: a20 :: a21 :: a22 :: some x :: σ) H) (te (a0 :: a1 :: a2 :: a3 :: a4 :: a5 :: a6 :: a7 :: a8 :: a9 :: a10 :: a11 :: a12 :: a13 :: a14 :: a15 :: a16 :: a17 :: a18 :: a19 :: a20 :: a21 :: a22 :: some x :: σ) H fun y H1 => ti x y H1 fun z H2 => nx (a0 :: a1 :: a2 :: a3 :: a4 :: a5 :: a6 :: a7 :: a8 :: a9 :: a10 :: a11 :: a12 :: a13 :: a14 :: a15 :: a16 :: a17 :: a18 :: a19 :: a20 :: a21 :: a22 :: some z :: σ) H2) := ⟨fun h => x_au23 h⟩
instance i_ml0 {σ : L2.St} : St1 (eMakeL 0 C sp [] E tl (some (.ref C) :: σ) H Q) (tMake C sp [] E tl (some (.ref C) :: σ) H Q) := ⟨fun h => x_ml0 h⟩
instance i_ml1 {a0 : Option V} {σ : L2.St} : St1 (eMakeL 1 C sp [] E tl (a0 :: some (.ref C) :: σ) H Q) (tMake C sp [] E tl (a0 :: some (.ref C) :: σ) H Q) := ⟨fun h => x_ml1 h⟩
instance i_eqP_nn  : St1 (rEqP S (.non) (.non) H Q) (Q (.bl true) H) := ⟨fun h => x_eqP_nn h⟩
instance i_eqP_ni  : St1 (rEqP S (.non) (.int i) H Q) (Q (.bl false) H) := ⟨fun h => x_eqP_ni h⟩
instance i_eqP_in  : St1 (rEqP S (.int i) (.non) H Q) (Q (.bl false) H) := ⟨fun h => x_eqP_in h⟩
instance i_eqP_nb  : St1 (rEqP S (.non) (.bl b) H Q) (Q (.bl false) H) := ⟨fun h => x_eqP_nb h⟩
instance i_eqP_bn  : St1 (rEqP S (.bl b) (.non) H Q) (Q (.bl false) H) := ⟨fun h => x_eqP_bn h⟩
instance i_eqP_ns {z : Str} : St1 (rEqP S (.non) (.str z) H Q) (Q (.bl false) H) := ⟨fun h => x_eqP_ns h⟩
instance i_eqP_sn {z : Str} : St1 (rEqP S (.str z) (.non) H Q) (Q (.bl false) H) := ⟨fun h => x_eqP_sn h⟩
instance i_eqP_is {z : Str} : St1 (rEqP S (.int i) (.str z) H Q) (Q (.bl false) H) := ⟨fun h => x_eqP_is h⟩
instance i_eqP_si {z : Str} : St1 (rEqP S (.str z) (.int i) H Q) (Q (.bl false) H) := ⟨fun h => x_eqP_si h⟩
instance i_eqP_bs {z : Str} : St1 (rEqP S (.bl b) (.str z) H Q) (Q (.bl false) H) := ⟨fun h => x_eqP_bs h⟩
instance i_eqP_sb {z : Str} : St1 (rEqP S (.str z) (.bl b) H Q) (Q (.bl false) H) := ⟨fun h => x_eqP_sb h⟩
instance i_neP_nn  : St1 (rNeP S (.non) (.non) H Q) (Q (.bl (!true)) H) := ⟨fun h => x_neP_nn h⟩
instance i_neP_ni  : St1 (rNeP S (.non) (.int i) H Q) (Q (.bl (!false)) H) := ⟨fun h => x_neP_ni h⟩
instance i_neP_in  : St1 (rNeP S (.int i) (.non) H Q) (Q (.bl (!false)) H) := ⟨fun h => x_neP_in h⟩
instance i_neP_nb  : St1 (rNeP S (.non) (.bl b) H Q) (Q (.bl (!false)) H) := ⟨fun h => x_neP_nb h⟩
instance i_neP_bn  : St1 (rNeP S (.bl b) (.non) H Q) (Q (.bl (!false)) H) := ⟨fun h => x_neP_bn h⟩
instance i_neP_ns {z : Str} : St1 (rNeP S (.non) (.str z) H Q) (Q (.bl (!false)) H) := ⟨fun h => x_neP_ns h⟩
instance i_neP_sn {z : Str} : St1 (rNeP S (.str z) (.non) H Q) (Q (.bl (!false)) H) := ⟨fun h => x_neP_sn h⟩
instance i_neP_is {z : Str} : St1 (rNeP S (.int i) (.str z) H Q) (Q (.bl (!false)) H) := ⟨fun h => x_neP_is h⟩
instance i_neP_si {z : Str} : St1 (rNeP S (.str z) (.int i) H Q) (Q (.bl (!false)) H) := ⟨fun h => x_neP_si h⟩
instance i_neP_bs {z : Str} : St1 (rNeP S (.bl b) (.str z) H Q) (Q (.bl (!false)) H) := ⟨fun h => x_neP_bs h⟩
instance i_neP_sb {z : Str} : St1 (rNeP S (.str z) (.bl b) H Q) (Q (.bl (!false)) H) := ⟨fun h => x_neP_sb h⟩
instance i_isi_int_int  : St1 (rIsI [.int i, .ty "int"] H Q) (Q (.bl true) H) := ⟨fun h => x_isi_int_int h⟩
instance i_isi_int_bool  : St1 (rIsI [.int i, .ty "bool"] H Q) (Q (.bl false) H) := ⟨fun h => x_isi_int_bool h⟩
instance i_isi_int_str  : St1 (rIsI [.int i, .ty "str"] H Q) (Q (.bl false) H) := ⟨fun h => x_isi_int_str h⟩
instance i_isi_int_list  : St1 (rIsI [.int i, .ty "list"] H Q) (Q (.bl false) H) := ⟨fun h => x_isi_int_list h⟩
instance i_isi_int_tuple  : St1 (rIsI [.int i, .ty "tuple"] H Q) (Q (.bl false) H) := ⟨fun h => x_isi_int_tuple h⟩
instance i_isi_int_dict  : St1 (rIsI [.int i, .ty "dict"] H Q) (Q (.bl false) H) := ⟨fun h => x_isi_int_dict h⟩
instance i_isi_bool_int  : St1 (rIsI [.bl b, .ty "int"] H Q) (Q (.bl true) H) := ⟨fun h => x_isi_bool_int h⟩
instance i_isi_bool_bool  : St1 (rIsI [.bl b, .ty "bool"] H Q) (Q (.bl true) H) := ⟨fun h => x_isi_bool_bool h⟩
instance i_isi_bool_str  : St1 (rIsI [.bl b, .ty "str"] H Q) (Q (.bl false) H) := ⟨fun h => x_isi_bool_str h⟩
instance i_isi_bool_list  : St1 (rIsI [.bl b, .ty "list"] H Q) (Q (.bl false) H) := ⟨fun h => x_isi_bool_list h⟩
instance i_isi_bool_tuple  : St1 (rIsI [.bl b, .ty "tuple"] H Q) (Q (.bl false) H) := ⟨fun h => x_isi_bool_tuple h⟩
instance i_isi_bool_dict  : St1 (rIsI [.bl b, .ty "dict"] H Q) (Q (.bl false) H) := ⟨fun h => x_isi_bool_dict h⟩
instance i_isi_str_int {zs : Str} : St1 (rIsI [.str zs, .ty "int"] H Q) (Q (.bl false) H) := ⟨fun h => x_isi_str_int h⟩
instance i_isi_str_bool {zs : Str} : St1 (rIsI [.str zs, .ty "bool"] H Q) (Q (.bl false) H) := ⟨fun h => x_isi_str_bool h⟩
instance i_isi_str_str {zs : Str} : St1 (rIsI [.str zs, .ty "str"] H Q) (Q (.bl true) H) := ⟨fun h => x_isi_str_str h⟩
instance i_isi_str_list {zs : Str} : St1 (rIsI [.str zs, .ty "list"] H Q) (Q (.bl false) H) := ⟨fun h => x_isi_str_list h⟩
instance i_isi_str_tuple {zs : Str} : St1 (rIsI [.str zs, .ty "tuple"] H Q) (Q (.bl false) H) := ⟨fun h => x_isi_str_tuple h⟩
instance i_isi_str_dict {zs : Str} : St1 (rIsI [.str zs, .ty "dict"] H Q) (Q (.bl false) H) := ⟨fun h => x_isi_str_dict h⟩
instance i_isi_NoneType_int  : St1 (rIsI [.non, .ty "int"] H Q) (Q (.bl false) H) := ⟨fun h => x_isi_NoneType_int h⟩
instance i_isi_NoneType_bool  : St1 (rIsI [.non, .ty "bool"] H Q) (Q (.bl false) H) := ⟨fun h => x_isi_NoneType_bool h⟩
instance i_isi_NoneType_str  : St1 (rIsI [.non, .ty "str"] H Q) (Q (.bl false) H) := ⟨fun h => x_isi_NoneType_str h⟩
instance i_isi_NoneType_list  : St1 (rIsI [.non, .ty "list"] H Q) (Q (.bl false) H) := ⟨fun h => x_isi_NoneType_list h⟩
instance i_isi_NoneType_tuple  : St1 (rIsI [.non, .ty "tuple"] H Q) (Q (.bl false) H) := ⟨fun h => x_isi_NoneType_tuple h⟩
instance i_isi_NoneType_dict  : St1 (rIsI [.non, .ty "dict"] H Q) (Q (.bl false) H) := ⟨fun h => x_isi_NoneType_dict h⟩
/-! with a bool in hand -/
def KBl (x : V) (QK : Bool → Prop) : Prop := ∃ k, x = .bl k ∧ QK k
instance i_bl {QK : Bool → Prop} : St1 (KBl (.bl b) QK) (QK b) := ⟨x_bl⟩
instance i_test : St1 (tTest te σ H QB) (te σ H fun x H' => KBl x fun k => QB k H') := ⟨id⟩
instance i_tB : St1 (tB te σ H QB) (te σ H fun x H' => KBl x fun k => QB k H') := ⟨id⟩
instance i_andV : St1 (tAndV ta tb σ H Q) (ta σ H fun x H1 => KBl x fun c => if c = true then tb σ H1 Q else Q (.bl false) H1) := ⟨id⟩
instance i_orV : St1 (tOrV ta tb σ H Q) (ta σ H fun x H1 => KBl x fun c => if c = true then Q (.bl true) H1 else tb σ H1 Q) := ⟨id⟩
def KNv (c : Bool) (Q : VK) (H : Hp) : Prop := Q (.bl (!c)) H
instance i_notV : St1 (tNotV ta σ H Q) (ta σ H fun x H1 => KBl x fun c => KNv c Q H1) := ⟨id⟩
instance (priority := 10) i_nv : St1 (KNv b Q H) (Q (.bl (!b)) H) := ⟨id⟩
instance i_nvT : St1 (KNv true Q H) (Q (.bl false) H) := ⟨id⟩
instance i_nvF : St1 (KNv false Q H) (Q (.bl true) H) := ⟨id⟩
def KNb (c : Bool) (QB : Bool → Hp → Prop) (H : Hp) : Prop := QB (!c) H
instance i_not : St1 (tNot t σ H QB) (t σ H fun c H1 => KNb c QB H1) := ⟨id⟩
instance (priority := 10) i_nb : St1 (KNb b QB H) (QB (!b) H) := ⟨id⟩
instance i_nbT : St1 (KNb true QB H) (QB false H) := ⟨id⟩
instance i_nbF : St1 (KNb false QB H) (QB true H) := ⟨id⟩
instance i_chain : St1 (tChain r r' ta tb tc σ H Q) (ta σ H fun x H1 => tb σ H1 fun y H2 => r x y H2 fun z H3 => KBl z fun k => if k = true then tc σ H3 fun w' H4 => r' y w' H4 Q else Q (.bl false) H3) := ⟨id⟩
instance i_clink {tl : TC} : St1 (cLink r tb tl σ x H Q) (tb σ H fun y H1 => r x y H1 fun z H2 => KBl z fun k => if k = true then tl σ y H2 Q else Q (.bl false) H2) := ⟨id⟩
/-! with an int in hand -/
def KIn (x : V) (QK : Int → Prop) : Prop := ∃ k, x = .int k ∧ QK k
instance i_in {QK : Int → Prop} : St1 (KIn (.int i) QK) (QK i) := ⟨x_int1⟩
instance i_forR1 : St1 (sForR none te g s1 ⟨nx, rt, bk, ct⟩ σ H) (te σ H fun y H1 => KIn y fun j => ForR g s1 nx rt 0 j σ H1) := ⟨id⟩
instance i_forR2 : St1 (sForR (some ta) tb g s1 ⟨nx, rt, bk, ct⟩ σ H) (ta σ H fun x H1 => tb σ H1 fun y H2 => KIn x fun i => KIn y fun j => ForR g s1 nx rt i j σ H2) := ⟨fun h => by
  refine x_forR2 ?_
  have e : (fun x H1 => tb σ H1 fun y H2 => KIn x fun i => KIn y fun j => ForR g s1 nx rt i j σ H2) = (fun x H1 => tb σ H1 fun y H2 => ∃ i j, x = .int i ∧ y = .int j ∧ ForR g s1 nx rt i j σ H2) := by
    funext x H1
    congr 1
    funext y H2
    exact propext ⟨fun ⟨i, e1, j, e2, h⟩ => ⟨i, j, e1, e2, h⟩, fun ⟨i, j, e1, e2, h⟩ => ⟨i, e1, j, e2, h⟩⟩
  rw [← e]
  exact h⟩
instance i_part : St1 (tPart te σ H QO) (te σ H fun x H1 => KIn x fun i => QO (some i) H1) := ⟨id⟩
/-! calls -/
theorem sp_app : (fun (vs : List V) (H1 : Hp) => sp (vs ++ []) H1 Q E) = fun vs H1 => sp vs H1 Q E := by
  funext vs H1
  rw [List.append_nil]
instance i_call : St1 (tCall sp [] E tl σ H Q) (tl σ H fun vs H1 => sp vs H1 Q E) := ⟨fun h => by
  refine x_call ?_
  rw [sp_app]
  exact h⟩
def KMk (C : Addr) (sp : Sp) (vs : List V) (H1 : Hp) (Q : VK) (E : XK) : Prop := ∀ x dx, H1 x = none → H1 dx = none → dx ≠ x → sp (.ref x :: vs) (upd (upd H1 dx (.own x)) x (.ins C dx [])) (fun v H2 => v = .non ∧ Q (.ref x) H2) E
instance i_make : St1 (tMake C sp [] E tl σ H Q) (tl σ H fun vs H1 => KMk C sp vs H1 Q E) := ⟨fun h => by
  refine x_make ?_
  have e : (fun (vs : List V) (H1 : Hp) => Kmake C sp vs H1 Q E) = fun vs H1 => KMk C sp vs H1 Q E := by
    funext vs H1
    unfold Kmake KMk
    simp only [List.append_nil]
  rw [e]
  exact h⟩
instance i_makeD {d : V} {ds : List V} : St1 (tMake C sp (d :: ds) E tl σ H Q) (tl σ H fun vs H1 => KmakeD C sp (vs ++ d :: ds) H1 Q E) := ⟨x_makeD⟩
instance i_mkG [F : FH H L] : St1 (KMk C sp vs H Q E) (∀ x dx H', FH H' ((x, Is (.ins C dx [])) :: L) → sp (.ref x :: vs) H' (fun v H2 => v = .non ∧ Q (.ref x) H2) E) := ⟨fun h x dx hx hd ne => h x dx _ ((F.other hd).new (by rw [upd_ne (Ne.symm ne)]; exact hx))⟩
instance i_mkDG {ws : List V} [F : FH H L] [ap : AppE xs ys ws] : St1 (KmakeD C sp (xs ++ ys) H Q E) (∀ x dx H', FH H' ((x, Is (.ins C dx [])) :: L) → sp (.ref x :: ws) H' (fun v H2 => v = .non ∧ Q (.ref x) H2) E) := ⟨fun h => x_makeDG F ap.e h⟩
instance i_newSG [F : FH H L] : St1 (KnewS C sp vs H Q E) (∀ x dx H', FH H' ((x, Is (.ins C dx [])) :: L) → sp (.ref x :: vs) H' (fun v H2 => v = .non ∧ Q (.ref x) H2) E) := ⟨fun h => x_newSG F h⟩
/-! objects -/
def KFl (C : Addr) (f : Str) (x : V) (H1 : Hp) (Q : VK) : Prop := ∃ a dx fs v, x = .ref a ∧ H1 a = some (.ins C dx fs) ∧ fs.lookup f = some v ∧ Q v H1
instance i_fld : St1 (eFld C f te σ H Q) (te σ H fun x H1 => KFl C f x H1 Q) := ⟨id⟩
instance i_fldG [F : FH H L] [a : Mm (p, Is (.ins C dx fs)) L] [l : LookF fs f v] : St1 (KFl C f (.ref p) H Q) (Q v H) := ⟨fun h => ⟨p, dx, fs, v, rfl, F.get a.m, l.l, h⟩⟩
def KFlD (Cs : List Addr) (f : Str) (x : V) (H1 : Hp) (Q : VK) : Prop := ∃ a C dx fs v, x = .ref a ∧ H1 a = some (.ins C dx fs) ∧ C ∈ Cs ∧ fs.lookup f = some v ∧ Q v H1
instance i_fldD : St1 (eFldD Cs f te σ H Q) (te σ H fun x H1 => KFlD Cs f x H1 Q) := ⟨id⟩
instance i_fldDG [F : FH H L] [a : Mm (p, Is (.ins C dx fs)) L] [c : Mm C Cs] [l : LookF fs f v] : St1 (KFlD Cs f (.ref p) H Q) (Q v H) := ⟨fun h => ⟨p, C, dx, fs, v, rfl, F.get a.m, c.m, l.l, h⟩⟩
def KSf (C : Addr) (f : Str) (y x : V) (H2 : Hp) (QH : Hp → Prop) : Prop := ∃ a dx fs, x = .ref a ∧ H2 a = some (.ins C dx fs) ∧ fs.length < 1000 ∧ QH (upd H2 a (.ins C dx (putF f y fs)))
instance i_setF : St1 (sSetF C f te tb ⟨nx, rt, bk, ct⟩ σ H) (tb σ H fun y H1 => te σ H1 fun x H2 => KSf C f y x H2 (nx σ)) := ⟨id⟩
instance i_setFG {QH : Hp → Prop} [F : FH H L] [a : Mm (p, Is (.ins C dx fs)) L] [z : Shr 60 fs] [e : PutFd f y fs fs'] [u : PutE p (Is (.ins C dx fs)) (Is (.ins C dx fs')) L L'] : St1 (KSf C f y (.ref p) H QH) (∀ H', FH H' L' → QH H') :=
  ⟨fun h => ⟨p, dx, fs, rfl, F.get a.m, Nat.lt_of_le_of_lt z.l (by decide), by rw [e.e]; exact h _ (F.put u.pu trivial)⟩⟩
def KSfD (Cs : List Addr) (f : Str) (y x : V) (H2 : Hp) (QH : Hp → Prop) : Prop := ∃ a C dx fs, x = .ref a ∧ H2 a = some (.ins C dx fs) ∧ C ∈ Cs ∧ fs.length < 1000 ∧ QH (upd H2 a (.ins C dx (putF f y fs)))
instance i_setFD : St1 (sSetFD Cs f te tb ⟨nx, rt, bk, ct⟩ σ H) (tb σ H fun y H1 => te σ H1 fun x H2 => KSfD Cs f y x H2 (nx σ)) := ⟨id⟩
instance i_setFDG {QH : Hp → Prop} [F : FH H L] [a : Mm (p, Is (.ins C dx fs)) L] [c : Mm C Cs] [z : Shr 60 fs] [e : PutFd f y fs fs'] [u : PutE p (Is (.ins C dx fs)) (Is (.ins C dx fs')) L L'] : St1 (KSfD Cs f y (.ref p) H QH) (∀ H', FH H' L' → QH H') :=
  ⟨fun h => ⟨p, C, dx, fs, rfl, F.get a.m, c.m, Nat.lt_of_le_of_lt z.l (by decide), by rw [e.e]; exact h _ (F.put u.pu trivial)⟩⟩
def KAf (C : Addr) (f : Str) (x : V) (H1 : Hp) (QAV : Addr → V → Prop) : Prop := ∃ a dx fs v, x = .ref a ∧ H1 a = some (.ins C dx fs) ∧ fs.lookup f = some v ∧ QAV a v
def KAs (C : Addr) (f : Str) (a : Addr) (z : V) (H3 : Hp) (QH : Hp → Prop) : Prop := ∃ dx' fs', H3 a = some (.ins C dx' fs') ∧ fs'.length < 1000 ∧ QH (upd H3 a (.ins C dx' (putF f z fs')))
instance i_augF {rd : V → V → Hp → VK → Prop} : St1 (sAugF C f te tb rd ⟨nx, rt, bk, ct⟩ σ H) (te σ H fun x H1 => KAf C f x H1 fun a v => tb σ H1 fun y H2 => rd v y H2 fun z H3 => KAs C f a z H3 (nx σ)) := ⟨id⟩
instance i_augFG {QAV : Addr → V → Prop} [F : FH H L] [a : Mm (p, Is (.ins C dx fs)) L] [l : LookF fs f v] : St1 (KAf C f (.ref p) H QAV) (QAV p v) := ⟨fun h => ⟨p, dx, fs, v, rfl, F.get a.m, l.l, h⟩⟩
instance i_augS2 {QH : Hp → Prop} [F : FH H L] [a : Mm (p, Is (.ins C dx fs)) L] [z : Shr 60 fs] [e : PutFd f y fs fs'] [u : PutE p (Is (.ins C dx fs)) (Is (.ins C dx fs')) L L'] : St1 (KAs C f p y H QH) (∀ H', FH H' L' → QH H') :=
  ⟨fun h => ⟨dx, fs, F.get a.m, Nat.lt_of_le_of_lt z.l (by decide), by rw [e.e]; exact h _ (F.put u.pu trivial)⟩⟩
def KAfD (Cs : List Addr) (f : Str) (x : V) (H1 : Hp) (QAV : Addr → Addr → V → Prop) : Prop := ∃ a C dx fs v, x = .ref a ∧ H1 a = some (.ins C dx fs) ∧ C ∈ Cs ∧ fs.lookup f = some v ∧ QAV a C v
instance i_augFD {rd : V → V → Hp → VK → Prop} : St1 (sAugFD Cs f te tb rd ⟨nx, rt, bk, ct⟩ σ H) (te σ H fun x H1 => KAfD Cs f x H1 fun a C v => tb σ H1 fun y H2 => rd v y H2 fun z H3 => KAs C f a z H3 (nx σ)) := ⟨id⟩
instance i_augFDG {QAV : Addr → Addr → V → Prop} [F : FH H L] [a : Mm (p, Is (.ins C dx fs)) L] [c : Mm C Cs] [l : LookF fs f v] : St1 (KAfD Cs f (.ref p) H QAV) (QAV p C v) := ⟨fun h => ⟨p, C, dx, fs, v, rfl, F.get a.m, c.m, l.l, h⟩⟩
def KMe (C : Addr) (m : Str) (x : V) (H1 : Hp) (B : Prop) : Prop := ∃ a dx fs, x = .ref a ∧ H1 a = some (.ins C dx fs) ∧ fs.lookup m = none ∧ B
theorem sp_app2 {x : V} : (fun (vs : List V) (H2 : Hp) => sp (x :: (vs ++ [])) H2 Q E) = fun vs H2 => sp (x :: vs) H2 Q E := by
  funext vs H1
  rw [List.append_nil]
instance i_meth : St1 (tMeth C m sp [] E ta tl σ H Q) (ta σ H fun x H1 => KMe C m x H1 (tl σ H1 fun vs H2 => sp (x :: vs) H2 Q E)) := ⟨fun h => by
  refine x_meth ?_
  have e : (fun x H1 => KMe C m x H1 (tl σ H1 fun vs H2 => sp (x :: vs) H2 Q E)) = fun x H1 => ∃ a dx fs, x = .ref a ∧ H1 a = some (.ins C dx fs) ∧ fs.lookup m = none ∧ tl σ H1 fun vs H2 => sp (x :: (vs ++ [])) H2 Q E := by
    funext x H1
    rw [sp_app2]
    rfl
  rw [← e]
  exact h⟩
instance i_methG [F : FH H L] [a : Mm (p, Is (.ins C dx fs)) L] [l : NoF fs m] : St1 (KMe C m (.ref p) H B) B := ⟨fun h => ⟨p, dx, fs, rfl, F.get a.m, l.l, h⟩⟩
instance i_mS {ES : L2.St → XK} : St1 (tMS C m sp ES ta tl σ H Q) (ta σ H fun x H1 => KMe C m x H1 (tl σ H1 fun vs H2 => sp (x :: vs) H2 Q (ES σ))) := ⟨id⟩
def KMD (ls : List (Addr × Sp)) (m : Str) (x : V) (H1 : Hp) (B : Sp → Prop) : Prop := ∃ a C dx fs sp, x = .ref a ∧ H1 a = some (.ins C dx fs) ∧ (C, sp) ∈ ls ∧ fs.lookup m = none ∧ B sp
instance i_mD {ES : L2.St → XK} : St1 (tMD ls m ES ta tl σ H Q) (ta σ H fun x H1 => KMD ls m x H1 fun sp => tl σ H1 fun vs H2 => sp (x :: vs) H2 Q (ES σ)) := ⟨id⟩
instance i_mDG {B : Sp → Prop} [F : FH H L] [a : Mm (p, Is (.ins C dx fs)) L] [c : Mm (C, sp) ls] [l : NoF fs m] : St1 (KMD ls m (.ref p) H B) (B sp) := ⟨fun h => ⟨p, C, dx, fs, sp, rfl, F.get a.m, c.m, l.l, h⟩⟩
def KPr (C : Addr) (x : V) (H1 : Hp) (B : Addr → Prop) : Prop := ∃ a dx fs, x = .ref a ∧ H1 a = some (.ins C dx fs) ∧ B a
instance i_prop : St1 (eProp C sp te σ H Q) (te σ H fun x H1 => KPr C x H1 fun a => sp [.ref a] H1 Q E0) := ⟨id⟩
instance i_propG {B : Addr → Prop} [F : FH H L] [a : Mm (p, Is (.ins C dx fs)) L] : St1 (KPr C (.ref p) H B) (B p) := ⟨fun h => ⟨p, dx, fs, rfl, F.get a.m, h⟩⟩
def KPrD (ls : List (Addr × Sp)) (x : V) (H1 : Hp) (B : Addr → Sp → Prop) : Prop := ∃ a C dx fs sp, x = .ref a ∧ H1 a = some (.ins C dx fs) ∧ (C, sp) ∈ ls ∧ B a sp
instance i_propD : St1 (ePropD ls te σ H Q) (te σ H fun x H1 => KPrD ls x H1 fun a sp => sp [.ref a] H1 Q E0) := ⟨id⟩
instance i_propDG {B : Addr → Sp → Prop} [F : FH H L] [a : Mm (p, Is (.ins C dx fs)) L] [c : Mm (C, sp) ls] : St1 (KPrD ls (.ref p) H B) (B p sp) := ⟨fun h => ⟨p, C, dx, fs, sp, rfl, F.get a.m, c.m, h⟩⟩
instance i_supM [F : FH H L] [a : Mm (p, Is (.ins C dx fs)) L] [c : Mm C Cs] : St1 (tSupM Cs sp E tl (some (.ref p) :: σ) H Q) (tl (some (.ref p) :: σ) H fun vs H1 => sp (.ref p :: vs) H1 Q E) := ⟨fun h => x_supM F a.m c.m h⟩
instance i_inOwnF [F : FH H L] [a : Mm (p, Is (.ins C dx fs)) L] : St1 (rInOwn C false sp E y (.ref p) H Q) (sp [.ref p, y] H (fun v H' => KBl v fun b => Q (.bl b) H') E) := ⟨fun h => x_inOwnF F a.m h⟩
instance i_inOwnT [F : FH H L] [a : Mm (p, Is (.ins C dx fs)) L] : St1 (rInOwn C true sp E y (.ref p) H Q) (sp [.ref p, y] H (fun v H' => KBl v fun b => Q (.bl (!b)) H') E) := ⟨fun h => x_inOwnT F a.m h⟩
/-! lists and tuples -/
instance i_ixL [F : FH H L] [a : Mm (p, Is (.lst xs)) L] [e : AtE xs i v] : St1 (rIx S (.ref p) (.int i) H Q) (Q v H) := ⟨fun h => x_ixL F a.m e.e h⟩
instance i_ixT [F : FH H L] [a : Mm (p, Is (.tup xs)) L] [e : AtE xs i v] : St1 (rIx S (.ref p) (.int i) H Q) (Q v H) := ⟨fun h => x_ixT F a.m e.e h⟩
instance i_getL [F : FH H L] [a : Mm (p, Is (.lst xs)) L] [e : AtE xs i v] : St1 (rGetL (.ref p) (.int i) H Q) (Q v H) := ⟨fun h => x_getL F a.m e.e h⟩
instance i_setL {QH : Hp → Prop} [F : FH H L] [a : Mm (p, Is (.lst xs)) L] [e : SetE xs i v ys] [u : PutE p (Is (.lst xs)) (Is (.lst ys)) L L'] : St1 (rSetL (.ref p) (.int i) v H QH) (∀ H', FH H' L' → QH H') := ⟨fun h => by
  obtain ⟨k, e1, e2⟩ := e.e
  subst e2
  exact x_setL F a.m e1 u.pu h⟩
instance i_lstG [F : FH H L] [z : Shr 100 xs] : St1 (Klst xs H Q) (∀ p H', H p = none → FH H' ((p, Is (.lst xs)) :: L) → Q (.ref p) H') := ⟨fun h => x_lstG F (len_leN (Nat.le_trans z.l (by decide))) h⟩
instance i_tupG [F : FH H L] [z : Shr 100 xs] : St1 (Ktup xs H Q) (∀ p H', H p = none → FH H' ((p, Is (.tup xs)) :: L) → Q (.ref p) H') := ⟨fun h => x_tupG F (len_leN (Nat.le_trans z.l (by decide))) h⟩
def KAp (x : V) (H1 : Hp) (B : Prop) : Prop := ∃ l, x = .ref l ∧ (∃ xs, H1 l = some (.lst xs)) ∧ B
instance i_apd : St1 (eApp te tl σ H Q) (te σ H fun x H1 => KAp x H1 (tl σ H1 fun vs H2 => rAppend x vs H2 Q)) := ⟨id⟩
instance i_apdG [F : FH H L] [a : Mm (p, Is (.lst xs)) L] : St1 (KAp (.ref p) H B) B := ⟨fun h => ⟨p, rfl, ⟨xs, F.get a.m⟩, h⟩⟩
instance i_append [F : FH H L] [a : Mm (p, Is (.lst xs)) L] [z : Shr 100 xs] [e : AppE xs [v] ys] [u : PutE p (Is (.lst xs)) (Is (.lst ys)) L L'] : St1 (rAppend (.ref p) [v] H Q) (∀ H', FH H' L' → Q .non H') := ⟨fun h => by
  have e1 := e.e
  subst e1
  exact x_append F a.m (len_ltN (Nat.lt_of_le_of_lt z.l (by decide))) u.pu h⟩
instance i_lcPut {D : Addr} {z : V} {k : Hp → Prop} [F : FH H L] [a : Mm (D, Is (.lst xs)) L] [s : Shr 100 xs] [e : AppE xs [z] ys] [u : PutE D (Is (.lst xs)) (Is (.lst ys)) L L'] : St1 (lcPut D z k H) (∀ H', FH H' L' → k H') := ⟨fun h => by
  have e1 := e.e
  subst e1
  exact x_lcPut F u.pu (Nat.lt_of_le_of_lt s.l (by decide)) h⟩
instance i_wipe {σ2 σw : L2.St} {vs : List Nat} [e : WipeE σ2 vs σw] : St1 (wipe σ2 vs = σw ∧ A) A := ⟨fun h => ⟨e.e, h⟩⟩
instance i_rdT [F : FH H L] [a : Mm (p, Is (.tup xs)) L] : St1 (RdS S H p (.tup xs) ∧ A) A := ⟨fun h => x_rdT F a.m h⟩
instance i_rdL [F : FH H L] [a : Mm (p, Is (.lst xs)) L] : St1 (RdS S H p (.lst xs) ∧ A) A := ⟨fun h => x_rdL F a.m h⟩
instance i_forTU [F : FH H L] [a : Mm (p, Is (.tup xs)) L] : St1 (ForS S g s1 nx rt (.ref p) σ H) (forKS S p (.tup xs) g s1 nx nx rt xs σ H) := ⟨fun h => forTU F a.m h⟩
instance i_lenL [F : FH H L] [a : Mm (p, Is (.lst xs)) L] [n : LenE xs k] : St1 (rLen S [.ref p] H Q) (Q (.int (k : Int)) H) := ⟨fun h => x_lenL F a.m (by rw [n.e]; exact h)⟩
instance i_lenT [F : FH H L] [a : Mm (p, Is (.tup xs)) L] [n : LenE xs k] : St1 (rLen S [.ref p] H Q) (Q (.int (k : Int)) H) := ⟨fun h => x_lenT F a.m (by rw [n.e]; exact h)⟩
instance i_listL [F : FH H L] [a : Mm (p, Is (.lst xs)) L] : St1 (rListOf S [.ref p] H Q) (∀ r H', H r = none → FH H' ((r, Is (.lst xs)) :: L) → Q (.ref r) H') := ⟨fun h => x_listL F a.m h⟩
instance i_listT [F : FH H L] [a : Mm (p, Is (.tup xs)) L] : St1 (rListOf S [.ref p] H Q) (∀ r H', H r = none → FH H' ((r, Is (.lst xs)) :: L) → Q (.ref r) H') := ⟨fun h => x_listT F a.m h⟩
instance i_tupleL [F : FH H L] [a : Mm (p, Is (.lst xs)) L] : St1 (rTupleOf S [.ref p] H Q) (∀ r H', H r = none → FH H' ((r, Is (.tup xs)) :: L) → Q (.ref r) H') := ⟨fun h => x_tupleL F a.m h⟩
instance i_tupleT [F : FH H L] [a : Mm (p, Is (.tup xs)) L] : St1 (rTupleOf S [.ref p] H Q) (Q (.ref p) H) := ⟨fun h => x_tupleT F a.m h⟩
instance i_cat {q : Addr} [F : FH H L] [a : Mm (p, Is (.lst xs)) L] [c : Mm (q, Is (.lst ys)) L] [s1 : Shr 100 xs] [s2 : Shr 100 ys] [e : AppE xs ys zs] : St1 (rAdd (.ref p) (.ref q) H Q) (∀ r H', H r = none → FH H' ((r, Is (.lst zs)) :: L) → Q (.ref r) H') := ⟨fun h => by
  have e1 := e.e
  subst e1
  exact x_cat F a.m c.m (len_leN (by rw [List.length_append]; exact Nat.le_trans (Nat.add_le_add s1.l s2.l) (by decide))) h⟩
instance i_allT [F : FH H L] [a : Mm (p, AllT) L] : St1 (rAll S [.ref p] H Q) (Q (.bl true) H) := ⟨fun h => x_allT F a.m h⟩
instance i_eqLs {q : Addr} {ns : List Int} [F : FH H L] [a : Mm (p, Is (.lst (ns.map V.int))) L] [b : Mm (q, Is (.lst (ns.map V.int))) L] : St1 (rEqP S (.ref p) (.ref q) H Q) (Q (.bl true) H) := ⟨fun h => x_eqPL F a.m b.m flat_ints flat_ints (by rw [eqv_ints, decide_eq_true rfl]) h⟩
instance i_neLs {q : Addr} {ns : List Int} [F : FH H L] [a : Mm (p, Is (.lst (ns.map V.int))) L] [b : Mm (q, Is (.lst (ns.map V.int))) L] : St1 (rNeP S (.ref p) (.ref q) H Q) (Q (.bl false) H) := ⟨fun h => x_nePL (b := true) F a.m b.m flat_ints flat_ints (by rw [eqv_ints, decide_eq_true rfl]) h⟩
instance (priority := 2000) i_eqPIs : St1 (rEqP S (.int i) (.int i) H Q) (Q (.bl true) H) := ⟨fun h => x_eqPI (by rw [decide_eq_true rfl]; exact h)⟩
instance (priority := 2000) i_nePIs : St1 (rNeP S (.int i) (.int i) H Q) (Q (.bl false) H) := ⟨fun h => x_nePI (by rw [decide_eq_false (fun z => z rfl)]; exact h)⟩
instance (priority := 2000) i_eqPBs : St1 (rEqP S (.bl b) (.bl b) H Q) (Q (.bl true) H) := ⟨fun h => x_eqPB (by rw [decide_eq_true rfl]; exact h)⟩
instance (priority := 2000) i_nePBs : St1 (rNeP S (.bl b) (.bl b) H Q) (Q (.bl false) H) := ⟨fun h => x_nePB (by rw [decide_eq_false (fun z => z rfl)]; exact h)⟩
instance i_eqPSd {a b : Str} [n : NeS a b] : St1 (rEqP S (.str a) (.str b) H Q) (Q (.bl false) H) := ⟨fun h => x_eqPSd n.ne h⟩
instance i_nePSd {a b : Str} [n : NeS a b] : St1 (rNeP S (.str a) (.str b) H Q) (Q (.bl true) H) := ⟨fun h => x_nePSd n.ne h⟩
/-! errors -/
instance i_mkC1 {C : Addr} {f : Str} [F : FH H L] : St1 (KmkC C [f] E [v] H) (∀ d H', FH H' ((d, Is (.xd [(f, v)])) :: L) → E (.ref C) (some d) H') := ⟨fun h => x_mkC1 F h⟩
instance i_mkC2 {C : Addr} {f g : Str} {w : V} [F : FH H L] : St1 (KmkC C [f, g] E [v, w] H) (∀ d H', FH H' ((d, Is (.xd [(g, w), (f, v)])) :: L) → E (.ref C) (some d) H') := ⟨fun h => x_mkC2 F h⟩
def KXf (b : Addr) (cls : Value) (d : Option Addr) (Cs : List Addr) (f : Str) (x : V) (H1 : Hp) (Q : VK) : Prop := x = .ref b ∧ ∃ C, C ∈ Cs ∧ cls = .ref C ∧ ∃ (dd : Addr) (fs : List (Str × V)) (v : V), d = some dd ∧ H1 dd = some (.xd fs) ∧ fs.lookup f = some v ∧ Q v H1
instance i_xf {b : Addr} {cls : Value} {d : Option Addr} : St1 (eXf b cls d Cs f te σ H Q) (te σ H fun x H1 => KXf b cls d Cs f x H1 Q) := ⟨id⟩
instance i_xfG {b C : Addr} [F : FH H L] [a : Mm (p, Is (.xd fs)) L] [c : Mm C Cs] [l : LookF fs f v] : St1 (KXf b (.ref C) (some p) Cs f (.ref b) H Q) (Q v H) := ⟨fun h => ⟨rfl, C, c.m, rfl, p, fs, v, rfl, F.get a.m, l.l, h⟩⟩
instance i_isX {b C : Addr} {tbl : List (Value × V × Bool)} {c : V} {k : Bool} [F : FH H L] [a : Mm (p, Is (.xd fs)) L] [n : Mm (Value.ref C, c, k) tbl] : St1 (rIsX tbl b (.ref C) (some p) [.ref b, c] H Q) (Q (.bl k) H) := ⟨fun h => x_isX F a.m n.m h⟩
instance i_isr_list_int [F : FH H L] [a : Mm (p, Is (.lst xs)) L] : St1 (rIsI [.ref p, .ty "int"] H Q) (Q (.bl false) H) := ⟨fun h => x_isr_list_int F a.m h⟩
instance i_isr_list_bool [F : FH H L] [a : Mm (p, Is (.lst xs)) L] : St1 (rIsI [.ref p, .ty "bool"] H Q) (Q (.bl false) H) := ⟨fun h => x_isr_list_bool F a.m h⟩
instance i_isr_list_str [F : FH H L] [a : Mm (p, Is (.lst xs)) L] : St1 (rIsI [.ref p, .ty "str"] H Q) (Q (.bl false) H) := ⟨fun h => x_isr_list_str F a.m h⟩
instance i_isr_list_list [F : FH H L] [a : Mm (p, Is (.lst xs)) L] : St1 (rIsI [.ref p, .ty "list"] H Q) (Q (.bl true) H) := ⟨fun h => x_isr_list_list F a.m h⟩
instance i_isr_list_tuple [F : FH H L] [a : Mm (p, Is (.lst xs)) L] : St1 (rIsI [.ref p, .ty "tuple"] H Q) (Q (.bl false) H) := ⟨fun h => x_isr_list_tuple F a.m h⟩
instance i_isr_list_dict [F : FH H L] [a : Mm (p, Is (.lst xs)) L] : St1 (rIsI [.ref p, .ty "dict"] H Q) (Q (.bl false) H) := ⟨fun h => x_isr_list_dict F a.m h⟩
instance i_isr_tuple_int [F : FH H L] [a : Mm (p, Is (.tup xs)) L] : St1 (rIsI [.ref p, .ty "int"] H Q) (Q (.bl false) H) := ⟨fun h => x_isr_tuple_int F a.m h⟩
instance i_isr_tuple_bool [F : FH H L] [a : Mm (p, Is (.tup xs)) L] : St1 (rIsI [.ref p, .ty "bool"] H Q) (Q (.bl false) H) := ⟨fun h => x_isr_tuple_bool F a.m h⟩
instance i_isr_tuple_str [F : FH H L] [a : Mm (p, Is (.tup xs)) L] : St1 (rIsI [.ref p, .ty "str"] H Q) (Q (.bl false) H) := ⟨fun h => x_isr_tuple_str F a.m h⟩
instance i_isr_tuple_list [F : FH H L] [a : Mm (p, Is (.tup xs)) L] : St1 (rIsI [.ref p, .ty "list"] H Q) (Q (.bl false) H) := ⟨fun h => x_isr_tuple_list F a.m h⟩
instance i_isr_tuple_tuple [F : FH H L] [a : Mm (p, Is (.tup xs)) L] : St1 (rIsI [.ref p, .ty "tuple"] H Q) (Q (.bl true) H) := ⟨fun h => x_isr_tuple_tuple F a.m h⟩
instance i_isr_tuple_dict [F : FH H L] [a : Mm (p, Is (.tup xs)) L] : St1 (rIsI [.ref p, .ty "dict"] H Q) (Q (.bl false) H) := ⟨fun h => x_isr_tuple_dict F a.m h⟩
instance i_slp1 {b0 : V} [F : FH H L] [a : Mm (p, Is (.lst (b0 :: xs))) L] : St1 (rSl S (.ref p) none (some 1) H Q) (∀ q H', H q = none → FH H' ((q, Is (.lst [b0])) :: L) → Q (.ref q) H') := ⟨fun h => x_slL F a.m (by rw [show cutV (b0 :: xs) none (some 1) = [b0] from cutV_pre (ys := [b0]) (n := 1) rfl]; exact h)⟩
instance i_slp2 {b0 b1 : V} [F : FH H L] [a : Mm (p, Is (.lst (b0 :: b1 :: xs))) L] : St1 (rSl S (.ref p) none (some 2) H Q) (∀ q H', H q = none → FH H' ((q, Is (.lst [b0, b1])) :: L) → Q (.ref q) H') := ⟨fun h => x_slL F a.m (by rw [show cutV (b0 :: b1 :: xs) none (some 2) = [b0, b1] from cutV_pre (ys := [b0, b1]) (n := 2) rfl]; exact h)⟩
instance i_slp3 {b0 b1 b2 : V} [F : FH H L] [a : Mm (p, Is (.lst (b0 :: b1 :: b2 :: xs))) L] : St1 (rSl S (.ref p) none (some 3) H Q) (∀ q H', H q = none → FH H' ((q, Is (.lst [b0, b1, b2])) :: L) → Q (.ref q) H') := ⟨fun h => x_slL F a.m (by rw [show cutV (b0 :: b1 :: b2 :: xs) none (some 3) = [b0, b1, b2] from cutV_pre (ys := [b0, b1, b2]) (n := 3) rfl]; exact h)⟩
instance i_slp4 {b0 b1 b2 b3 : V} [F : FH H L] [a : Mm (p, Is (.lst (b0 :: b1 :: b2 :: b3 :: xs))) L] : St1 (rSl S (.ref p) none (some 4) H Q) (∀ q H', H q = none → FH H' ((q, Is (.lst [b0, b1, b2, b3])) :: L) → Q (.ref q) H') := ⟨fun h => x_slL F a.m (by rw [show cutV (b0 :: b1 :: b2 :: b3 :: xs) none (some 4) = [b0, b1, b2, b3] from cutV_pre (ys := [b0, b1, b2, b3]) (n := 4) rfl]; exact h)⟩
instance i_slp5 {b0 b1 b2 b3 b4 : V} [F : FH H L] [a : Mm (p, Is (.lst (b0 :: b1 :: b2 :: b3 :: b4 :: xs))) L] : St1 (rSl S (.ref p) none (some 5) H Q) (∀ q H', H q = none → FH H' ((q, Is (.lst [b0, b1, b2, b3, b4])) :: L) → Q (.ref q) H') := ⟨fun h => x_slL F a.m (by rw [show cutV (b0 :: b1 :: b2 :: b3 :: b4 :: xs) none (some 5) = [b0, b1, b2, b3, b4] from cutV_pre (ys := [b0, b1, b2, b3, b4]) (n := 5) rfl]; exact h)⟩
instance i_slp6 {b0 b1 b2 b3 b4 b5 : V} [F : FH H L] [a : Mm (p, Is (.lst (b0 :: b1 :: b2 :: b3 :: b4 :: b5 :: xs))) L] : St1 (rSl S (.ref p) none (some 6) H Q) (∀ q H', H q = none → FH H' ((q, Is (.lst [b0, b1, b2, b3, b4, b5])) :: L) → Q (.ref q) H') := ⟨fun h => x_slL F a.m (by rw [show cutV (b0 :: b1 :: b2 :: b3 :: b4 :: b5 :: xs) none (some 6) = [b0, b1, b2, b3, b4, b5] from cutV_pre (ys := [b0, b1, b2, b3, b4, b5]) (n := 6) rfl]; exact h)⟩
instance i_slp7 {b0 b1 b2 b3 b4 b5 b6 : V} [F : FH H L] [a : Mm (p, Is (.lst (b0 :: b1 :: b2 :: b3 :: b4 :: b5 :: b6 :: xs))) L] : St1 (rSl S (.ref p) none (some 7) H Q) (∀ q H', H q = none → FH H' ((q, Is (.lst [b0, b1, b2, b3, b4, b5, b6])) :: L) → Q (.ref q) H') := ⟨fun h => x_slL F a.m (by rw [show cutV (b0 :: b1 :: b2 :: b3 :: b4 :: b5 :: b6 :: xs) none (some 7) = [b0, b1, b2, b3, b4, b5, b6] from cutV_pre (ys := [b0, b1, b2, b3, b4, b5, b6]) (n := 7) rfl]; exact h)⟩
instance i_slp8 {b0 b1 b2 b3 b4 b5 b6 b7 : V} [F : FH H L] [a : Mm (p, Is (.lst (b0 :: b1 :: b2 :: b3 :: b4 :: b5 :: b6 :: b7 :: xs))) L] : St1 (rSl S (.ref p) none (some 8) H Q) (∀ q H', H q = none → FH H' ((q, Is (.lst [b0, b1, b2, b3, b4, b5, b6, b7])) :: L) → Q (.ref q) H') := ⟨fun h => x_slL F a.m (by rw [show cutV (b0 :: b1 :: b2 :: b3 :: b4 :: b5 :: b6 :: b7 :: xs) none (some 8) = [b0, b1, b2, b3, b4, b5, b6, b7] from cutV_pre (ys := [b0, b1, b2, b3, b4, b5, b6, b7]) (n := 8) rfl]; exact h)⟩
instance i_slp9 {b0 b1 b2 b3 b4 b5 b6 b7 b8 : V} [F : FH H L] [a : Mm (p, Is (.lst (b0 :: b1 :: b2 :: b3 :: b4 :: b5 :: b6 :: b7 :: b8 :: xs))) L] : St1 (rSl S (.ref p) none (some 9) H Q) (∀ q H', H q = none → FH H' ((q, Is (.lst [b0, b1, b2, b3, b4, b5, b6, b7, b8])) :: L) → Q (.ref q) H') := ⟨fun h => x_slL F a.m (by rw [show cutV (b0 :: b1 :: b2 :: b3 :: b4 :: b5 :: b6 :: b7 :: b8 :: xs) none (some 9) = [b0, b1, b2, b3, b4, b5, b6, b7, b8] from cutV_pre (ys := [b0, b1, b2, b3, b4, b5, b6, b7, b8]) (n := 9) rfl]; exact h)⟩
instance i_slp10 {b0 b1 b2 b3 b4 b5 b6 b7 b8 b9 : V} [F : FH H L] [a : Mm (p, Is (.lst (b0 :: b1 :: b2 :: b3 :: b4 :: b5 :: b6 :: b7 :: b8 :: b9 :: xs))) L] : St1 (rSl S (.ref p) none (some 10) H Q) (∀ q H', H q = none → FH H' ((q, Is (.lst [b0, b1, b2, b3, b4, b5, b6, b7, b8, b9])) :: L) → Q (.ref q) H') := ⟨fun h => x_slL F a.m (by rw [show cutV (b0 :: b1 :: b2 :: b3 :: b4 :: b5 :: b6 :: b7 :: b8 :: b9 :: xs) none (some 10) = [b0, b1, b2, b3, b4, b5, b6, b7, b8, b9] from cutV_pre (ys := [b0, b1, b2, b3, b4, b5, b6, b7, b8, b9]) (n := 10) rfl]; exact h)⟩
instance i_slp11 {b0 b1 b2 b3 b4 b5 b6 b7 b8 b9 b10 : V} [F : FH H L] [a : Mm (p, Is (.lst (b0 :: b1 :: b2 :: b3 :: b4 :: b5 :: b6 :: b7 :: b8 :: b9 :: b10 :: xs))) L] : St1 (rSl S (.ref p) none (some 11) H Q) (∀ q H', H q = none → FH H' ((q, Is (.lst [b0, b1, b2, b3, b4, b5, b6, b7, b8, b9, b10])) :: L) → Q (.ref q) H') := ⟨fun h => x_slL F a.m (by rw [show cutV (b0 :: b1 :: b2 :: b3 :: b4 :: b5 :: b6 :: b7 :: b8 :: b9 :: b10 :: xs) none (some 11) = [b0, b1, b2, b3, b4, b5, b6, b7, b8, b9, b10] from cutV_pre (ys := [b0, b1, b2, b3, b4, b5, b6, b7, b8, b9, b10]) (n := 11) rfl]; exact h)⟩
instance i_slp12 {b0 b1 b2 b3 b4 b5 b6 b7 b8 b9 b10 b11 : V} [F : FH H L] [a : Mm (p, Is (.lst (b0 :: b1 :: b2 :: b3 :: b4 :: b5 :: b6 :: b7 :: b8 :: b9 :: b10 :: b11 :: xs))) L] : St1 (rSl S (.ref p) none (some 12) H Q) (∀ q H', H q = none → FH H' ((q, Is (.lst [b0, b1, b2, b3, b4, b5, b6, b7, b8, b9, b10, b11])) :: L) → Q (.ref q) H') := ⟨fun h => x_slL F a.m (by rw [show cutV (b0 :: b1 :: b2 :: b3 :: b4 :: b5 :: b6 :: b7 :: b8 :: b9 :: b10 :: b11 :: xs) none (some 12) = [b0, b1, b2, b3, b4, b5, b6, b7, b8, b9, b10, b11] from cutV_pre (ys := [b0, b1, b2, b3, b4, b5, b6, b7, b8, b9, b10, b11]) (n := 12) rfl]; exact h)⟩
instance i_sl1 {b0 : V} [F : FH H L] [a : Mm (p, Is (.lst (b0 :: xs))) L] : St1 (rSl S (.ref p) (some 1) none H Q) (∀ q H', H q = none → FH H' ((q, Is (.lst xs)) :: L) → Q (.ref q) H') := ⟨fun h => x_sl1 F a.m h⟩
/-! enumerate; isinstance of several types; insert; messages; dicts without a key -/
instance i_forEn {gi gj : TG} : St1 (sForEn S te gi gj s1 ⟨nx, rt, bk, ct⟩ σ H) (te σ H fun x H1 => EnS S gi gj s1 nx rt x σ H1) := ⟨id⟩
theorem enL {gi gj : TG} (Pv : Nat → L2.St → Prop) (F : FH H L) (m : (p, Is (.lst xs)) ∈ L ∨ (p, Is (.tup xs)) ∈ L) (h0 : Pv 0 σ)
    (hs : ∀ (i : Nat) y σ H, xs[i]? = some y → Pv i σ → FH H L → gi (.int (i : Int)) σ H fun σ' H' => gj y σ' H' fun σ2 H2 => s1 ⟨fun σ H => Pv (i + 1) σ ∧ FH H L, rt, nx, fun σ H => Pv (i + 1) σ ∧ FH H L⟩ σ2 H2) (hd : ∀ σ H, Pv xs.length σ → FH H L → nx σ H) : EnS S gi gj s1 nx rt (.ref p) σ H := by
  refine ⟨p, xs, rfl, fun i σ H => Pv i σ ∧ FH H L, ⟨h0, F⟩, ?_, fun i y σ H T e q hT => hs i y σ _ e q.1 (q.2.other hT), fun σ H q => hd σ H q.1 q.2⟩
  rcases m with m | m
  · exact .inl fun i H _ ⟨σ, q⟩ => .inl (.inl (q.2.get m))
  · exact .inr fun i H _ ⟨σ, q⟩ => .inl (.inl (q.2.get m))
instance i_dnew [F : FH H L] : St1 (tDNewK σ H Q) (∀ p H', FH H' ((p, Is (.dK [])) :: L) → Q (.ref p) H') := ⟨fun h p hp => h p _ (F.new hp)⟩
def KFm (vs : List V) (A : Prop) : Prop := (∀ y ∈ vs, fmtOk y) ∧ A
instance i_raiseF {C : Addr} {gs : List Str} {D : Ends} : St1 (sRaise E (tMkF C gs tl) D σ H) (tl σ H fun vs H1 => KFm vs (KmkC C gs E vs H1)) := ⟨id⟩
instance i_raiseSF {C : Addr} {gs : List Str} {D : Ends} {W : WX} : St1 (sRaiseS W (tMkF C gs tl) D σ H) (tl σ H fun vs H1 => KFm vs (KmkC C gs (WE W σ) vs H1)) := ⟨id⟩
theorem x_fmI (h1 : -18446744073709551616 < i ∧ i < 18446744073709551616) (h : A) : KFm [.int i] A := ⟨fun y hy => by
  have e : y = .int i := by simpa using hy
  subst e
  show i.natAbs.log2 < 1920
  by_cases e : i.natAbs = 0
  · rw [e]; decide
  · have h2 := Nat.log2_self_le e
    have h3 : 2 ^ i.natAbs.log2 < 2 ^ 64 := by
      have : (2 : Nat) ^ 64 = 18446744073709551616 := by decide
      omega
    have := (Nat.pow_lt_pow_iff_right (by decide : 1 < 2)).mp h3
    omega, h⟩
class TyE (H : Hp) (v : V) (t : outParam String) : Prop where
  t : TyN H v t
instance ty_non : TyE H .non "NoneType" := ⟨.non⟩
instance ty_bl : TyE H (.bl b) "bool" := ⟨.bl b⟩
instance ty_int : TyE H (.int i) "int" := ⟨.int i⟩
instance ty_str {z : Str} : TyE H (.str z) "str" := ⟨.str z⟩
instance ty_lst [F : FH H L] [a : Mm (p, Is (.lst xs)) L] : TyE H (.ref p) "list" := ⟨.lst (.inl (F.get a.m))⟩
instance ty_tup [F : FH H L] [a : Mm (p, Is (.tup xs)) L] : TyE H (.ref p) "tuple" := ⟨.tup (.inl (F.get a.m))⟩
instance ty_dk {kvs : List (Key × V)} [F : FH H L] [a : Mm (p, Is (.dK kvs)) L] : TyE H (.ref p) "dict" := ⟨.dK (F.get a.m)⟩
class Kit1 (t n : String) (c : outParam Bool) : Prop where
  k : kitB t n = some c
  e : isA t n = c
class OrE (a b : Bool) (c : outParam Bool) : Prop where
  e : (a || b) = c
instance or_t {b : Bool} : OrE true b true := ⟨rfl⟩
instance or_f {b : Bool} : OrE false b b := ⟨rfl⟩
class KitA (t : String) (vs : List V) (c : outParam Bool) : Prop where
  e : ∃ ns, Tys vs ns ∧ (∀ n ∈ ns, kitB t n = some (isA t n)) ∧ ns.any (isA t) = c
instance kita_nil {t : String} : KitA t [] false := ⟨[], .nil, (fun _ h => nomatch h), rfl⟩
instance kita_cons {t n : String} {vs : List V} {c d e : Bool} [a : Kit1 t n c] [b : KitA t vs d] [o : OrE c d e] : KitA t (.ty n :: vs) e := ⟨by
  obtain ⟨ns, h1, h2, h3⟩ := b.e
  refine ⟨n :: ns, .cons h1, fun m hm => ?_, ?_⟩
  · rcases List.mem_cons.mp hm with z | z
    · subst z; rw [a.e]; exact a.k
    · exact h2 m z
  · rw [List.any_cons, a.e, h3, o.e]⟩
instance i_isT {vs : List V} {t : String} {c : Bool} [F : FH H L] [ty : TyE H x t] [a : Mm (p, Is (.tup vs)) L] [k : KitA t vs c] : St1 (rIsT [x, .ref p] H Q) (Q (.bl c) H) := ⟨fun h => by
  obtain ⟨ns, h1, h2, h3⟩ := k.e
  exact ⟨x, p, vs, ns, t, rfl, F.get a.m, h1, ty.t, h2, by rw [h3]; exact h⟩⟩
def KIns (x : V) (H1 : Hp) (B : Prop) : Prop := ∃ l, x = .ref l ∧ (∃ xs, H1 l = some (.lst xs)) ∧ B
instance i_ins : St1 (eIns te tl σ H Q) (te σ H fun x H1 => KIns x H1 (tl σ H1 fun vs H2 => rIns x vs H2 Q)) := ⟨id⟩
instance i_insG [F : FH H L] [a : Mm (p, Is (.lst xs)) L] : St1 (KIns (.ref p) H B) B := ⟨fun h => ⟨p, rfl, ⟨xs, F.get a.m⟩, h⟩⟩
theorem x_insL (F : FH H L) (pu : Put p (Is (.lst xs)) (Is (.lst (xs.take i.toNat ++ [y] ++ xs.drop i.toNat))) L L') (sz : xs.length < 16777216) (h0 : 0 ≤ i) (h1 : i < 9223372036854775808) (h : ∀ H', FH H' L' → Q .non H') : rIns (.ref p) [.int i, y] H Q := by
  have e : (2 : Int) ^ 63 = 9223372036854775808 := by decide
  exact ⟨p, xs, i, y, rfl, rfl, F.get pu.mem, by rw [sizeLine_eq]; exact sz, h0, by rw [e]; exact h1, h _ (F.put pu trivial)⟩
instance kit1_int_int : Kit1 "int" "int" true := ⟨kit_int_int, by decide⟩
instance kit1_int_bool : Kit1 "int" "bool" false := ⟨kit_int_bool, by decide⟩
instance kit1_int_str : Kit1 "int" "str" false := ⟨kit_int_str, by decide⟩
instance kit1_int_list : Kit1 "int" "list" false := ⟨kit_int_list, by decide⟩
instance kit1_int_tuple : Kit1 "int" "tuple" false := ⟨kit_int_tuple, by decide⟩
instance kit1_int_dict : Kit1 "int" "dict" false := ⟨kit_int_dict, by decide⟩
instance kit1_bool_int : Kit1 "bool" "int" true := ⟨kit_bool_int, by decide⟩
instance kit1_bool_bool : Kit1 "bool" "bool" true := ⟨kit_bool_bool, by decide⟩
instance kit1_bool_str : Kit1 "bool" "str" false := ⟨kit_bool_str, by decide⟩
instance kit1_bool_list : Kit1 "bool" "list" false := ⟨kit_bool_list, by decide⟩
instance kit1_bool_tuple : Kit1 "bool" "tuple" false := ⟨kit_bool_tuple, by decide⟩
instance kit1_bool_dict : Kit1 "bool" "dict" false := ⟨kit_bool_dict, by decide⟩
instance kit1_str_int : Kit1 "str" "int" false := ⟨kit_str_int, by decide⟩
instance kit1_str_bool : Kit1 "str" "bool" false := ⟨kit_str_bool, by decide⟩
instance kit1_str_str : Kit1 "str" "str" true := ⟨kit_str_str, by decide⟩
instance kit1_str_list : Kit1 "str" "list" false := ⟨kit_str_list, by decide⟩
instance kit1_str_tuple : Kit1 "str" "tuple" false := ⟨kit_str_tuple, by decide⟩
instance kit1_str_dict : Kit1 "str" "dict" false := ⟨kit_str_dict, by decide⟩
instance kit1_NoneType_int : Kit1 "NoneType" "int" false := ⟨kit_NoneType_int, by decide⟩
instance kit1_NoneType_bool : Kit1 "NoneType" "bool" false := ⟨kit_NoneType_bool, by decide⟩
instance kit1_NoneType_str : Kit1 "NoneType" "str" false := ⟨kit_NoneType_str, by decide⟩
instance kit1_NoneType_list : Kit1 "NoneType" "list" false := ⟨kit_NoneType_list, by decide⟩
instance kit1_NoneType_tuple : Kit1 "NoneType" "tuple" false := ⟨kit_NoneType_tuple, by decide⟩
instance kit1_NoneType_dict : Kit1 "NoneType" "dict" false := ⟨kit_NoneType_dict, by decide⟩
instance kit1_list_int : Kit1 "list" "int" false := ⟨kit_list_int, by decide⟩
instance kit1_list_bool : Kit1 "list" "bool" false := ⟨kit_list_bool, by decide⟩
instance kit1_list_str : Kit1 "list" "str" false := ⟨kit_list_str, by decide⟩
instance kit1_list_list : Kit1 "list" "list" true := ⟨kit_list_list, by decide⟩
instance kit1_list_tuple : Kit1 "list" "tuple" false := ⟨kit_list_tuple, by decide⟩
instance kit1_list_dict : Kit1 "list" "dict" false := ⟨kit_list_dict, by decide⟩
instance kit1_tuple_int : Kit1 "tuple" "int" false := ⟨kit_tuple_int, by decide⟩
instance kit1_tuple_bool : Kit1 "tuple" "bool" false := ⟨kit_tuple_bool, by decide⟩
instance kit1_tuple_str : Kit1 "tuple" "str" false := ⟨kit_tuple_str, by decide⟩
instance kit1_tuple_list : Kit1 "tuple" "list" false := ⟨kit_tuple_list, by decide⟩
instance kit1_tuple_tuple : Kit1 "tuple" "tuple" true := ⟨kit_tuple_tuple, by decide⟩
instance kit1_tuple_dict : Kit1 "tuple" "dict" false := ⟨kit_tuple_dict, by decide⟩
instance kit1_dict_int : Kit1 "dict" "int" false := ⟨kit_dict_int, by decide⟩
instance i_isr_dict_int {kvs : List (Key × V)} [F : FH H L] [a : Mm (p, Is (.dK kvs)) L] : St1 (rIsI [.ref p, .ty "int"] H Q) (Q (.bl false) H) := ⟨fun h => isi_of (.dK (F.get a.m)) kit_dict_int rfl h⟩
instance kit1_dict_bool : Kit1 "dict" "bool" false := ⟨kit_dict_bool, by decide⟩
instance i_isr_dict_bool {kvs : List (Key × V)} [F : FH H L] [a : Mm (p, Is (.dK kvs)) L] : St1 (rIsI [.ref p, .ty "bool"] H Q) (Q (.bl false) H) := ⟨fun h => isi_of (.dK (F.get a.m)) kit_dict_bool rfl h⟩
instance kit1_dict_str : Kit1 "dict" "str" false := ⟨kit_dict_str, by decide⟩
instance i_isr_dict_str {kvs : List (Key × V)} [F : FH H L] [a : Mm (p, Is (.dK kvs)) L] : St1 (rIsI [.ref p, .ty "str"] H Q) (Q (.bl false) H) := ⟨fun h => isi_of (.dK (F.get a.m)) kit_dict_str rfl h⟩
instance kit1_dict_list : Kit1 "dict" "list" false := ⟨kit_dict_list, by decide⟩
instance i_isr_dict_list {kvs : List (Key × V)} [F : FH H L] [a : Mm (p, Is (.dK kvs)) L] : St1 (rIsI [.ref p, .ty "list"] H Q) (Q (.bl false) H) := ⟨fun h => isi_of (.dK (F.get a.m)) kit_dict_list rfl h⟩
instance kit1_dict_tuple : Kit1 "dict" "tuple" false := ⟨kit_dict_tuple, by decide⟩
instance i_isr_dict_tuple {kvs : List (Key × V)} [F : FH H L] [a : Mm (p, Is (.dK kvs)) L] : St1 (rIsI [.ref p, .ty "tuple"] H Q) (Q (.bl false) H) := ⟨fun h => isi_of (.dK (F.get a.m)) kit_dict_tuple rfl h⟩
instance kit1_dict_dict : Kit1 "dict" "dict" true := ⟨kit_dict_dict, by decide⟩
instance i_isr_dict_dict {kvs : List (Key × V)} [F : FH H L] [a : Mm (p, Is (.dK kvs)) L] : St1 (rIsI [.ref p, .ty "dict"] H Q) (Q (.bl true) H) := ⟨fun h => isi_of (.dK (F.get a.m)) kit_dict_dict rfl h⟩
/-- a comprehension over a range: a map -/
theorem lcRM {tel : TE} {us : List Nat} {σw : L2.St} (n : Nat) (f : Nat → V) (ej : j = (n : Int)) (hn : n < 16777216) (F : FH H L) (ew : wipe σ us = σw)
    (hs : ∀ (i : Nat) H (QX : V → Hp → Prop), i < n → FH H L → QX (f i) H → g (.int (i : Int)) σw H fun σ2 H2 => wipe σ2 us = σw ∧ tel σ2 H2 QX)
    (hd : ∀ D H', FH H' ((D, Is (.lst ((List.range n).map f))) :: L) → Q (.ref D) H') : LcR g tYes tel us Q (.int j) σ H := by
  subst ew ej
  have e62 : (2 : Int) ^ 62 = 4611686018427387904 := by decide
  refine ⟨_, rfl, ⟨by rw [e62]; decide, by rw [e62]; decide, by rw [e62]; omega, by rw [e62]; omega⟩, fun D hD => ⟨fun i H => FH H ((D, Is (.lst ((List.range i).map f))) :: L), F.new hD, fun i H hi q => ?_, fun H q => hd D H ?_⟩⟩
  · have h := hs i H (fun z H4 => ∃ acc, H4 D = some (.lst acc) ∧ acc.length < sizeLine ∧ FH (upd H4 D (.lst (acc ++ [z]))) ((D, Is (.lst ((List.range (i + 1)).map f))) :: L)) (by omega) q.tail ⟨_, q.get (List.Mem.head _), by rw [sizeLine_eq, List.length_map, List.length_range]; omega, by rw [List.range_succ, List.map_append]; exact q.put .here trivial⟩
    rw [Int.zero_add]
    exact h
  · have e1 : ((n : Int) - 0).toNat = n := by omega
    dsimp only at q
    rw [e1] at q
    exact q
/-! unrolled where Unr is an instance -/
class Unr : Prop where
  t : True
class Lit (xs : List V) : Prop where
  t : True
instance lit_nil : Lit [] := ⟨trivial⟩
instance lit_cons [a : Lit xs] : Lit (x :: xs) := ⟨trivial⟩
class RgE (j : Int) (n : outParam Nat) (xs : outParam (List V)) : Prop where
  j : j = (n : Int)
  l : n < 1000
  e : (List.range n).map (fun (i : Nat) => V.int (0 + (i : Int))) = xs
def forKL (g : TG) (s1 : TS) (P bk : K0) (rt : VK) : List V → L2.St → Hp → Prop
  | [], σ, H => P σ H
  | x :: xs, σ, H => g x σ H fun σ' H' => s1 ⟨forKL g s1 P bk rt xs, rt, bk, forKL g s1 P bk rt xs⟩ σ' H'
instance i_forKL {P : K0} : St1 (forKL g s1 P bk rt (x :: xs) σ H) (g x σ H fun σ' H' => s1 ⟨forKL g s1 P bk rt xs, rt, bk, forKL g s1 P bk rt xs⟩ σ' H') := ⟨id⟩
instance i_forKL0 {P : K0} : St1 (forKL g s1 P bk rt [] σ H) (P σ H) := ⟨id⟩
theorem forRU (n : Nat) (ej : j = (n : Int)) (hn : n < 1000) (exs : (List.range n).map (fun (i : Nat) => V.int (0 + (i : Int))) = xs) (h : forKL g s1 nx nx rt xs σ H) : ForR g s1 nx rt 0 j σ H := by
  subst ej exs
  have e62 : (2 : Int) ^ 62 = 4611686018427387904 := by decide
  refine ⟨⟨by rw [e62]; decide, by rw [e62]; decide, by rw [e62]; omega, by rw [e62]; omega⟩, fun i σ H => forKL g s1 nx nx rt (((List.range n).map (fun (i : Nat) => V.int (0 + (i : Int)))).drop i) σ H, by (dsimp only; rw [List.drop_zero]; exact h), fun i σ H hi q => ?_, fun σ H q => ?_⟩
  · dsimp only at q
    have hl : i < ((List.range n).map (fun (i : Nat) => V.int (0 + (i : Int)))).length := by rw [List.length_map, List.length_range]; omega
    rw [List.drop_eq_getElem_cons hl] at q
    rw [List.getElem_map, List.getElem_range] at q
    exact q
  · have e1 : ((n : Int) - 0).toNat = n := by omega
    dsimp only at q
    rw [e1, List.drop_of_length_le (by rw [List.length_map, List.length_range]; exact Nat.le_refl _)] at q
    exact q
instance i_forRU [Unr] {n : Nat} [r : RgE j n xs] : St1 (ForR g s1 nx rt 0 j σ H) (forKL g s1 nx nx rt xs σ H) := ⟨fun h => forRU n r.j r.l r.e h⟩
instance i_lcRU [Unr] {tt : TT} {tel : TE} {us : List Nat} {σw : L2.St} {n : Nat} [F : FH H L] [r : RgE j n xs] [e : WipeE σ us σw] : St1 (LcR g tt tel us Q (.int j) σ H) (∀ D H', FH H' ((D, Is (.lst [])) :: L) → lcKR g tt tel us σw D Q xs H') := ⟨fun h => lcRU n r.j (by have := r.l; omega) r.e F e.e h⟩
instance i_lcLU [Unr] {tt : TT} {tel : TE} {us : List Nat} {σw : L2.St} [F : FH H L] [a : Mm (p, Is (.lst xs)) L] [l : Lit xs] [e : WipeE σ us σw] : St1 (LcS S g tt tel us Q (.ref p) σ H) (∀ D H', FH H' ((D, Is (.lst [])) :: L) → lcKS S p (.lst xs) g tt tel us σw D Q xs H') := ⟨fun h => lcLU F a.m e.e h⟩
instance i_forLU [Unr] [F : FH H L] [a : Mm (p, Is (.lst xs)) L] [l : Lit xs] : St1 (ForS S g s1 nx rt (.ref p) σ H) (forKS S p (.lst xs) g s1 nx nx rt xs σ H) := ⟨fun h => forLU F a.m h⟩
instance rg0 : RgE 0 0 [] := ⟨rfl, by decide, rfl⟩
instance rg1 : RgE 1 1 [.int 0] := ⟨rfl, by decide, rfl⟩
instance rg2 : RgE 2 2 [.int 0, .int 1] := ⟨rfl, by decide, rfl⟩
instance rg3 : RgE 3 3 [.int 0, .int 1, .int 2] := ⟨rfl, by decide, rfl⟩
instance rg4 : RgE 4 4 [.int 0, .int 1, .int 2, .int 3] := ⟨rfl, by decide, rfl⟩
instance rg5 : RgE 5 5 [.int 0, .int 1, .int 2, .int 3, .int 4] := ⟨rfl, by decide, rfl⟩
instance rg6 : RgE 6 6 [.int 0, .int 1, .int 2, .int 3, .int 4, .int 5] := ⟨rfl, by decide, rfl⟩
instance rg7 : RgE 7 7 [.int 0, .int 1, .int 2, .int 3, .int 4, .int 5, .int 6] := ⟨rfl, by decide, rfl⟩
instance rg8 : RgE 8 8 [.int 0, .int 1, .int 2, .int 3, .int 4, .int 5, .int 6, .int 7] := ⟨rfl, by decide, rfl⟩
instance rg9 : RgE 9 9 [.int 0, .int 1, .int 2, .int 3, .int 4, .int 5, .int 6, .int 7, .int 8] := ⟨rfl, by decide, rfl⟩
instance rg10 : RgE 10 10 [.int 0, .int 1, .int 2, .int 3, .int 4, .int 5, .int 6, .int 7, .int 8, .int 9] := ⟨rfl, by decide, rfl⟩
instance rg11 : RgE 11 11 [.int 0, .int 1, .int 2, .int 3, .int 4, .int 5, .int 6, .int 7, .int 8, .int 9, .int 10] := ⟨rfl, by decide, rfl⟩
instance rg12 : RgE 12 12 [.int 0, .int 1, .int 2, .int 3, .int 4, .int 5, .int 6, .int 7, .int 8, .int 9, .int 10, .int 11] := ⟨rfl, by decide, rfl⟩
instance rg13 : RgE 13 13 [.int 0, .int 1, .int 2, .int 3, .int 4, .int 5, .int 6, .int 7, .int 8, .int 9, .int 10, .int 11, .int 12] := ⟨rfl, by decide, rfl⟩
instance rg14 : RgE 14 14 [.int 0, .int 1, .int 2, .int 3, .int 4, .int 5, .int 6, .int 7, .int 8, .int 9, .int 10, .int 11, .int 12, .int 13] := ⟨rfl, by decide, rfl⟩
instance rg15 : RgE 15 15 [.int 0, .int 1, .int 2, .int 3, .int 4, .int 5, .int 6, .int 7, .int 8, .int 9, .int 10, .int 11, .int 12, .int 13, .int 14] := ⟨rfl, by decide, rfl⟩
instance rg16 : RgE 16 16 [.int 0, .int 1, .int 2, .int 3, .int 4, .int 5, .int 6, .int 7, .int 8, .int 9, .int 10, .int 11, .int 12, .int 13, .int 14, .int 15] := ⟨rfl, by decide, rfl⟩
/-! heads -/
class HdAr (G : Prop) : Prop where
  t : True
theorem hdAr_is {G : Prop} [HdAr G] (h : G) : G := h
class HdIx (G : Prop) : Prop where
  t : True
theorem hdIx_is {G : Prop} [HdIx G] (h : G) : G := h
class HdEq (G : Prop) : Prop where
  t : True
theorem hdEq_is {G : Prop} [HdEq G] (h : G) : G := h
class HdIn (G : Prop) : Prop where
  t : True
theorem hdIn_is {G : Prop} [HdIn G] (h : G) : G := h
class HdTy (G : Prop) : Prop where
  t : True
theorem hdTy_is {G : Prop} [HdTy G] (h : G) : G := h
class HdFm (G : Prop) : Prop where
  t : True
theorem hdFm_is {G : Prop} [HdFm G] (h : G) : G := h
class HdK (G : Prop) : Prop where
  t : True
theorem hdK_is {G : Prop} [HdK G] (h : G) : G := h
instance hd0 : HdIx (rIx S x y H Q) := ⟨trivial⟩
instance hd1 : HdIx (rLen S xs H Q) := ⟨trivial⟩
instance hd2 : HdIx (rSl S x lo hi H Q) := ⟨trivial⟩
instance hd3 : HdEq (rEqP S x y H Q) := ⟨trivial⟩
instance hd4 : HdEq (rNeP S x y H Q) := ⟨trivial⟩
instance hd5 : HdEq (rEq x y H Q) := ⟨trivial⟩
instance hd6 : HdEq (rNe x y H Q) := ⟨trivial⟩
instance hd7 : HdAr (rMul x y H Q) := ⟨trivial⟩
instance hd8 : HdAr (rFdiv x y H Q) := ⟨trivial⟩
instance hd9 : HdAr (rMod x y H Q) := ⟨trivial⟩
instance hd10 : HdAr (rPow x y H Q) := ⟨trivial⟩
instance hd11 : HdAr (rShl x y H Q) := ⟨trivial⟩
instance hd12 : HdAr (rStrI xs H Q) := ⟨trivial⟩
instance hd13 : HdIn (rInA S b x y H Q) := ⟨trivial⟩
instance hd14 : Hd (rSum S xs H Q) := ⟨trivial⟩
instance hd15 : Hd (rAll S xs H Q) := ⟨trivial⟩
instance hd16 : Hd (rAdd x y H Q) := ⟨trivial⟩
instance hd17 : HdTy (rIsI xs H Q) := ⟨trivial⟩
instance hd18 {tbl : List (Value × V × Bool)} {a : Value} {z : Option Addr} : Hd (rIsX tbl C a z xs H Q) := ⟨trivial⟩
instance hd19 : Hd (rGetL x y H Q) := ⟨trivial⟩
instance hd20 {QH : Hp → Prop} : Hd (rSetL x y v H QH) := ⟨trivial⟩
instance hd21 : Hd (Klst xs H Q) := ⟨trivial⟩
instance hd22 : Hd (Ktup xs H Q) := ⟨trivial⟩
instance hd23 {QH : Hp → Prop} : Hd (lcPut p v QH H) := ⟨trivial⟩
instance hd24 : Hd (rAppend x xs H Q) := ⟨trivial⟩
instance hd25 : Hd (tSupM Cs sp E tl σ H Q) := ⟨trivial⟩
instance hd26 {QK : Bool → Prop} : HdK (KBl x QK) := ⟨trivial⟩
instance hd27 {QK : Int → Prop} : HdK (KIn x QK) := ⟨trivial⟩
instance hd28 : HdK (KFl C f x H Q) := ⟨trivial⟩
instance hd29 : HdK (KFlD Cs f x H Q) := ⟨trivial⟩
instance hd30 {QH : Hp → Prop} : HdK (KSf C f x y H QH) := ⟨trivial⟩
instance hd31 {QH : Hp → Prop} : HdK (KSfD Cs f x y H QH) := ⟨trivial⟩
instance hd32 {QAV : Addr → V → Prop} : HdK (KAf C f x H QAV) := ⟨trivial⟩
instance hd33 {QH : Hp → Prop} : HdK (KAs C f p x H QH) := ⟨trivial⟩
instance hd34 {QAV : Addr → Addr → V → Prop} : HdK (KAfD Cs f x H QAV) := ⟨trivial⟩
instance hd35 : HdK (KMe C m x H B) := ⟨trivial⟩
instance hd36 {QB2 : Sp → Prop} : HdK (KMD ls m x H QB2) := ⟨trivial⟩
instance hd37 {QA : Addr → Prop} : HdK (KPr C x H QA) := ⟨trivial⟩
instance hd38 {QA : Addr → Sp → Prop} : HdK (KPrD ls x H QA) := ⟨trivial⟩
instance hd39 : HdK (KAp x H B) := ⟨trivial⟩
instance hd40 {tab : List (Value × Nat)} {cl : List Sui} {D : Ends} {cls : Value} {d : Option Addr} : Hd (wT tab cl D cls d σ H) := ⟨trivial⟩
instance hd41 : Hd (A ∧ B) := ⟨trivial⟩
instance hd42 : HdFm (KFm xs A) := ⟨trivial⟩
instance hd43 : Hd (rIsT xs H Q) := ⟨trivial⟩
instance hd44 : Hd (rIns x xs H Q) := ⟨trivial⟩
instance hd45 : Hd (rListOf S xs H Q) := ⟨trivial⟩
instance hd46 : Hd (rTupleOf S xs H Q) := ⟨trivial⟩
end
end Y

namespace Y.k03
open PySem PySem.Spec PyProof.Rows L2
/-! ### the readings -/
structure Cl where
  S : Sta
  c_InvalidWords : Addr
  c_WrongSum : Addr
  c_LossError : Addr
def t_purse (a : Cl) (E : XK) : TS :=
  (tSeq (tAsg (eLc a.S (L2.tSl (rSl a.S) (tVar 0) tNoPart (tPart (tC (.int 63)))) (gName 2) tYes (tIf (tTest (tOp rGe (tVar 2) (tC (.int 0)))) (tVar 2) (tOp rSub (tUn rNeg (tC (.int 1))) (tVar 2))) [2]) (gName 1))
    (tSeq (tAsg (tC (.int 0)) (gName 3))
    (tSeq (sFor a.S (tVar 1) (gName 4) (tAsg (tOp rMod (tCB rInt (tCons (tOp rAdd (tOp rAdd (tOp rMul (tVar 3) (tC (.int 48271))) (tVar 4)) (tC (.int 1))) tNil)) (tC (.int 2147483647))) (gName 3)))
    (tRet (tLst (tCons (tVar 1) (tCons (tC (.int 0)) (tCons (tC (.int 0)) (tCons (tC (.int 0)) (tCons (tVar 3) tNil))))))))))
def sp_purse (a : Cl) : Sp := spB 5 1 (t_purse a)
theorem in_purse {a : Cl} {v0 : V} {H : Hp} {Q : VK} {E : XK} (h : (tSeq (tAsg (eLc a.S (L2.tSl (rSl a.S) (tVar 0) tNoPart (tPart (tC (.int 63)))) (gName 2) tYes (tIf (tTest (tOp rGe (tVar 2) (tC (.int 0)))) (tVar 2) (tOp rSub (tUn rNeg (tC (.int 1))) (tVar 2))) [2]) (gName 1))
    (tSeq (tAsg (tC (.int 0)) (gName 3))
    (tSeq (sFor a.S (tVar 1) (gName 4) (tAsg (tOp rMod (tCB rInt (tCons (tOp rAdd (tOp rAdd (tOp rMul (tVar 3) (tC (.int 48271))) (tVar 4)) (tC (.int 1))) tNil)) (tC (.int 2147483647))) (gName 3)))
    (tRet (tLst (tCons (tVar 1) (tCons (tC (.int 0)) (tCons (tC (.int 0)) (tCons (tC (.int 0)) (tCons (tVar 3) tNil)))))))))) ⟨fun _ H' => Q .non H', Q, fun _ _ => False, fun _ _ => False⟩ [some v0, none, none, none, none] H) : sp_purse a [v0] H Q E := ⟨rfl, h⟩
def t_draw (a : Cl) (E : XK) : TS :=
  (tSeq (tIfS (tAnd (tTest (tOp (rEqP a.S) (tOp (rIx a.S) (tVar 0) (tC (.int 2))) (tC (.int 0)))) (tAnd (tTest (tOp rLt (tOp (rIx a.S) (tVar 0) (tC (.int 1))) (tCB (rLen a.S) (tCons (tOp (rIx a.S) (tVar 0) (tC (.int 0))) tNil)))) (tTest (tOp rGe (tOp (rIx a.S) (tOp (rIx a.S) (tVar 0) (tC (.int 0))) (tOp (rIx a.S) (tVar 0) (tC (.int 1)))) (tOp rPow (tC (.int 10)) (tC (.int 18))))))) (tSeq (tAsg (tOp (rIx a.S) (tOp (rIx a.S) (tVar 0) (tC (.int 0))) (tOp (rIx a.S) (tVar 0) (tC (.int 1)))) (gSub (tVar 0) (tC (.int 2)) rSetL))
    (tAsg (tOp rAdd (tOp (rIx a.S) (tVar 0) (tC (.int 1))) (tC (.int 1))) (gSub (tVar 0) (tC (.int 1)) rSetL))) tNext)
    (tSeq (tIfS (tTest (tOp rGt (tOp (rIx a.S) (tVar 0) (tC (.int 2))) (tC (.int 0)))) (tSeq (tAsg (tOp rMod (tCB rInt (tCons (tOp (rIx a.S) (tVar 0) (tC (.int 2))) tNil)) (tVar 1)) (gName 2))
    (tSeq (tAsg (tOp rFdiv (tOp (rIx a.S) (tVar 0) (tC (.int 2))) (tVar 1)) (gSub (tVar 0) (tC (.int 2)) rSetL))
    (tRet (tVar 2)))) tNext)
    (tSeq (tAsg (tOp (rIx a.S) (tVar 0) (tC (.int 4))) (gName 3))
    (tSeq (tIfS (tTest (tOp rLt (tOp (rIx a.S) (tVar 0) (tC (.int 1))) (tCB (rLen a.S) (tCons (tOp (rIx a.S) (tVar 0) (tC (.int 0))) tNil)))) (tSeq (tAsg (tOp (rIx a.S) (tOp (rIx a.S) (tVar 0) (tC (.int 0))) (tOp (rIx a.S) (tVar 0) (tC (.int 1)))) (gName 3))
    (tAsg (tOp rAdd (tOp (rIx a.S) (tVar 0) (tC (.int 1))) (tC (.int 1))) (gSub (tVar 0) (tC (.int 1)) rSetL))) tNext)
    (tSeq (tAsg (tOp rAdd (tOp (rIx a.S) (tVar 0) (tC (.int 3))) (tC (.int 1))) (gSub (tVar 0) (tC (.int 3)) rSetL))
    (tSeq (tAsg (tOp rMod (tCB rInt (tCons (tOp rAdd (tOp rMul (tVar 3) (tC (.int 48271))) (tOp rMul (tOp (rIx a.S) (tVar 0) (tC (.int 4))) (tOp rAdd (tC (.int 7919)) (tOp rMul (tC (.int 69621)) (tOp (rIx a.S) (tVar 0) (tC (.int 3))))))) tNil)) (tC (.int 2147483647))) (gName 4))
    (tSeq (tAsg (tOp rMod (tCB rInt (tCons (tOp rAdd (tOp rMul (tVar 4) (tOp rAdd (tC (.int 40692)) (tOp rFdiv (tVar 4) (tC (.int 32768))))) (tOp rMul (tOp (rIx a.S) (tVar 0) (tC (.int 4))) (tOp (rIx a.S) (tVar 0) (tC (.int 3))))) tNil)) (tC (.int 2147483629))) (gName 4))
    (tRet (tOp rMod (tCB rInt (tCons (tOp rFdiv (tVar 4) (tC (.int 7))) tNil)) (tVar 1))))))))))
def sp_draw (a : Cl) : Sp := spB 5 2 (t_draw a)
theorem in_draw {a : Cl} {v0 v1 : V} {H : Hp} {Q : VK} {E : XK} (h : (tSeq (tIfS (tAnd (tTest (tOp (rEqP a.S) (tOp (rIx a.S) (tVar 0) (tC (.int 2))) (tC (.int 0)))) (tAnd (tTest (tOp rLt (tOp (rIx a.S) (tVar 0) (tC (.int 1))) (tCB (rLen a.S) (tCons (tOp (rIx a.S) (tVar 0) (tC (.int 0))) tNil)))) (tTest (tOp rGe (tOp (rIx a.S) (tOp (rIx a.S) (tVar 0) (tC (.int 0))) (tOp (rIx a.S) (tVar 0) (tC (.int 1)))) (tOp rPow (tC (.int 10)) (tC (.int 18))))))) (tSeq (tAsg (tOp (rIx a.S) (tOp (rIx a.S) (tVar 0) (tC (.int 0))) (tOp (rIx a.S) (tVar 0) (tC (.int 1)))) (gSub (tVar 0) (tC (.int 2)) rSetL))
    (tAsg (tOp rAdd (tOp (rIx a.S) (tVar 0) (tC (.int 1))) (tC (.int 1))) (gSub (tVar 0) (tC (.int 1)) rSetL))) tNext)
    (tSeq (tIfS (tTest (tOp rGt (tOp (rIx a.S) (tVar 0) (tC (.int 2))) (tC (.int 0)))) (tSeq (tAsg (tOp rMod (tCB rInt (tCons (tOp (rIx a.S) (tVar 0) (tC (.int 2))) tNil)) (tVar 1)) (gName 2))
    (tSeq (tAsg (tOp rFdiv (tOp (rIx a.S) (tVar 0) (tC (.int 2))) (tVar 1)) (gSub (tVar 0) (tC (.int 2)) rSetL))
    (tRet (tVar 2)))) tNext)
    (tSeq (tAsg (tOp (rIx a.S) (tVar 0) (tC (.int 4))) (gName 3))
    (tSeq (tIfS (tTest (tOp rLt (tOp (rIx a.S) (tVar 0) (tC (.int 1))) (tCB (rLen a.S) (tCons (tOp (rIx a.S) (tVar 0) (tC (.int 0))) tNil)))) (tSeq (tAsg (tOp (rIx a.S) (tOp (rIx a.S) (tVar 0) (tC (.int 0))) (tOp (rIx a.S) (tVar 0) (tC (.int 1)))) (gName 3))
    (tAsg (tOp rAdd (tOp (rIx a.S) (tVar 0) (tC (.int 1))) (tC (.int 1))) (gSub (tVar 0) (tC (.int 1)) rSetL))) tNext)
    (tSeq (tAsg (tOp rAdd (tOp (rIx a.S) (tVar 0) (tC (.int 3))) (tC (.int 1))) (gSub (tVar 0) (tC (.int 3)) rSetL))
    (tSeq (tAsg (tOp rMod (tCB rInt (tCons (tOp rAdd (tOp rMul (tVar 3) (tC (.int 48271))) (tOp rMul (tOp (rIx a.S) (tVar 0) (tC (.int 4))) (tOp rAdd (tC (.int 7919)) (tOp rMul (tC (.int 69621)) (tOp (rIx a.S) (tVar 0) (tC (.int 3))))))) tNil)) (tC (.int 2147483647))) (gName 4))
    (tSeq (tAsg (tOp rMod (tCB rInt (tCons (tOp rAdd (tOp rMul (tVar 4) (tOp rAdd (tC (.int 40692)) (tOp rFdiv (tVar 4) (tC (.int 32768))))) (tOp rMul (tOp (rIx a.S) (tVar 0) (tC (.int 4))) (tOp (rIx a.S) (tVar 0) (tC (.int 3))))) tNil)) (tC (.int 2147483629))) (gName 4))
    (tRet (tOp rMod (tCB rInt (tCons (tOp rFdiv (tVar 4) (tC (.int 7))) tNil)) (tVar 1)))))))))) ⟨fun _ H' => Q .non H', Q, fun _ _ => False, fun _ _ => False⟩ [some v0, some v1, none, none, none] H) : sp_draw a [v0, v1] H Q E := ⟨rfl, h⟩
def t_word (a : Cl) (E : XK) : TS :=
  (tSeq (tAsg (tCall (sp_draw a) [] E (tCons (tVar 0) (tCons (tC (.int 4)) tNil))) (gName 1))
    (tSeq (tIfS (tTest (tOp (rEqP a.S) (tVar 1) (tC (.int 1)))) (tRet (tOp rSub (tC (.int 65535)) (tCall (sp_draw a) [] E (tCons (tVar 0) (tCons (tC (.int 3)) tNil))))) tNext)
    (tSeq (tIfS (tTest (tOp (rEqP a.S) (tVar 1) (tC (.int 2)))) (tRet (tCall (sp_draw a) [] E (tCons (tVar 0) (tCons (tC (.int 3)) tNil)))) tNext)
    (tRet (tCall (sp_draw a) [] E (tCons (tVar 0) (tCons (tC (.int 65536)) tNil)))))))
def sp_word (a : Cl) : Sp := spB 2 1 (t_word a)
theorem in_word {a : Cl} {v0 : V} {H : Hp} {Q : VK} {E : XK} (h : (tSeq (tAsg (tCall (sp_draw a) [] E (tCons (tVar 0) (tCons (tC (.int 4)) tNil))) (gName 1))
    (tSeq (tIfS (tTest (tOp (rEqP a.S) (tVar 1) (tC (.int 1)))) (tRet (tOp rSub (tC (.int 65535)) (tCall (sp_draw a) [] E (tCons (tVar 0) (tCons (tC (.int 3)) tNil))))) tNext)
    (tSeq (tIfS (tTest (tOp (rEqP a.S) (tVar 1) (tC (.int 2)))) (tRet (tCall (sp_draw a) [] E (tCons (tVar 0) (tCons (tC (.int 3)) tNil)))) tNext)
    (tRet (tCall (sp_draw a) [] E (tCons (tVar 0) (tCons (tC (.int 65536)) tNil))))))) ⟨fun _ H' => Q .non H', Q, fun _ _ => False, fun _ _ => False⟩ [some v0, none] H) : sp_word a [v0] H Q E := ⟨rfl, h⟩
def t_sequence (a : Cl) (E : XK) : TS :=
  (tSeq (tAsg (tCall (sp_draw a) [] E (tCons (tVar 0) (tCons (tC (.int 256)) tNil))) (gName 1))
    (tSeq (tIfS (tTest (tOp (rEqP a.S) (tVar 1) (tC (.int 255)))) (tSeq (tAsg (tCall (sp_word a) [] E (tCons (tVar 0) tNil)) (gName 2))
    (tSeq (tAsg (tCall (sp_word a) [] E (tCons (tVar 0) tNil)) (gName 3))
    (tRet (eLcR none (tOp rAdd (tC (.int 65533)) (tCall (sp_draw a) [] E (tCons (tVar 0) (tCons (tC (.int 3)) tNil)))) (gName 4) tYes (tOp rMod (tCB rInt (tCons (tOp rAdd (tVar 2) (tOp rMul (tVar 3) (tVar 4))) tNil)) (tC (.int 65536))) [4])))) tNext)
    (tSeq (tAsg (tOp rMod (tCB rInt (tCons (tOp rAdd (tC (.int 3)) (tCall (sp_draw a) [] E (tCons (tVar 0) (tCons (tC (.int 12)) tNil)))) tNil)) (tC (.int 12))) (gName 5))
    (tSeq (tIfS (tTest (tOp (rEqP a.S) (tOp rMod (tCB rInt (tCons (tVar 1) tNil)) (tC (.int 16))) (tC (.int 14)))) (tAsg (tCall (sp_draw a) [] E (tCons (tVar 0) (tCons (tC (.int 1500)) tNil))) (gName 5)) tNext)
    (tSeq (tAsg (tLst tNil) (gName 6))
    (tSeq (sForR none (tVar 5) (gName 4) (tDrop (eApp (tVar 6) (tCons (tCall (sp_word a) [] E (tCons (tVar 0) tNil)) tNil))))
    (tRet (tVar 6))))))))
def sp_sequence (a : Cl) : Sp := spB 7 1 (t_sequence a)
theorem in_sequence {a : Cl} {v0 : V} {H : Hp} {Q : VK} {E : XK} (h : (tSeq (tAsg (tCall (sp_draw a) [] E (tCons (tVar 0) (tCons (tC (.int 256)) tNil))) (gName 1))
    (tSeq (tIfS (tTest (tOp (rEqP a.S) (tVar 1) (tC (.int 255)))) (tSeq (tAsg (tCall (sp_word a) [] E (tCons (tVar 0) tNil)) (gName 2))
    (tSeq (tAsg (tCall (sp_word a) [] E (tCons (tVar 0) tNil)) (gName 3))
    (tRet (eLcR none (tOp rAdd (tC (.int 65533)) (tCall (sp_draw a) [] E (tCons (tVar 0) (tCons (tC (.int 3)) tNil)))) (gName 4) tYes (tOp rMod (tCB rInt (tCons (tOp rAdd (tVar 2) (tOp rMul (tVar 3) (tVar 4))) tNil)) (tC (.int 65536))) [4])))) tNext)
    (tSeq (tAsg (tOp rMod (tCB rInt (tCons (tOp rAdd (tC (.int 3)) (tCall (sp_draw a) [] E (tCons (tVar 0) (tCons (tC (.int 12)) tNil)))) tNil)) (tC (.int 12))) (gName 5))
    (tSeq (tIfS (tTest (tOp (rEqP a.S) (tOp rMod (tCB rInt (tCons (tVar 1) tNil)) (tC (.int 16))) (tC (.int 14)))) (tAsg (tCall (sp_draw a) [] E (tCons (tVar 0) (tCons (tC (.int 1500)) tNil))) (gName 5)) tNext)
    (tSeq (tAsg (tLst tNil) (gName 6))
    (tSeq (sForR none (tVar 5) (gName 4) (tDrop (eApp (tVar 6) (tCons (tCall (sp_word a) [] E (tCons (tVar 0) tNil)) tNil))))
    (tRet (tVar 6)))))))) ⟨fun _ H' => Q .non H', Q, fun _ _ => False, fun _ _ => False⟩ [some v0, none, none, none, none, none, none] H) : sp_sequence a [v0] H Q E := ⟨rfl, h⟩
def t_sum (a : Cl) (E : XK) : TS :=
  (tSeq (tAsg (tC (.int 0)) (gName 1))
    (tSeq (sForR none (tCB (rLen a.S) (tCons (tVar 0) tNil)) (gName 2) (tAsg (tOp rAdd (tVar 1) (tOp rMul (tOp (rIx a.S) (tVar 0) (tVar 2)) (tOp rAdd (tVar 2) (tC (.int 1))))) (gName 1)))
    (tRet (tOp rMod (tCB rInt (tCons (tVar 1) tNil)) (tC (.int 65537))))))
def sp_sum (a : Cl) : Sp := spB 3 1 (t_sum a)
theorem in_sum {a : Cl} {v0 : V} {H : Hp} {Q : VK} {E : XK} (h : (tSeq (tAsg (tC (.int 0)) (gName 1))
    (tSeq (sForR none (tCB (rLen a.S) (tCons (tVar 0) tNil)) (gName 2) (tAsg (tOp rAdd (tVar 1) (tOp rMul (tOp (rIx a.S) (tVar 0) (tVar 2)) (tOp rAdd (tVar 2) (tC (.int 1))))) (gName 1)))
    (tRet (tOp rMod (tCB rInt (tCons (tVar 1) tNil)) (tC (.int 65537)))))) ⟨fun _ H' => Q .non H', Q, fun _ _ => False, fun _ _ => False⟩ [some v0, none, none] H) : sp_sum a [v0] H Q E := ⟨rfl, h⟩
def t_is (a : Cl) (E : XK) : TS :=
  (tRet (tAndV (tCB rIsI (tCons (tVar 0) (tCons (tC (.ty "int")) tNil))) (tAndV (tNotV (tCB rIsI (tCons (tVar 0) (tCons (tC (.ty "bool")) tNil)))) (tOp (rEqP a.S) (tVar 0) (tVar 1)))))
def sp_is (a : Cl) : Sp := spB 2 2 (t_is a)
theorem in_is {a : Cl} {v0 v1 : V} {H : Hp} {Q : VK} {E : XK} (h : (tRet (tAndV (tCB rIsI (tCons (tVar 0) (tCons (tC (.ty "int")) tNil))) (tAndV (tNotV (tCB rIsI (tCons (tVar 0) (tCons (tC (.ty "bool")) tNil)))) (tOp (rEqP a.S) (tVar 0) (tVar 1))))) ⟨fun _ H' => Q .non H', Q, fun _ _ => False, fun _ _ => False⟩ [some v0, some v1] H) : sp_is a [v0, v1] H Q E := ⟨rfl, h⟩
def t_is_row (a : Cl) (E : XK) : TS :=
  (tRet (tCB rIsT (tCons (tVar 0) (tCons (tTup (tCons (tC (.ty "list")) (tCons (tC (.ty "tuple")) tNil))) tNil))))
def sp_is_row (a : Cl) : Sp := spB 1 1 (t_is_row a)
theorem in_is_row {a : Cl} {v0 : V} {H : Hp} {Q : VK} {E : XK} (h : (tRet (tCB rIsT (tCons (tVar 0) (tCons (tTup (tCons (tC (.ty "list")) (tCons (tC (.ty "tuple")) tNil))) tNil)))) ⟨fun _ H' => Q .non H', Q, fun _ _ => False, fun _ _ => False⟩ [some v0] H) : sp_is_row a [v0] H Q E := ⟨rfl, h⟩
def t_is_whole (a : Cl) (E : XK) : TS :=
  (tRet (tAndV (tCB rIsI (tCons (tVar 0) (tCons (tC (.ty "int")) tNil))) (tNotV (tCB rIsI (tCons (tVar 0) (tCons (tC (.ty "bool")) tNil))))))
def sp_is_whole (a : Cl) : Sp := spB 1 1 (t_is_whole a)
theorem in_is_whole {a : Cl} {v0 : V} {H : Hp} {Q : VK} {E : XK} (h : (tRet (tAndV (tCB rIsI (tCons (tVar 0) (tCons (tC (.ty "int")) tNil))) (tNotV (tCB rIsI (tCons (tVar 0) (tCons (tC (.ty "bool")) tNil)))))) ⟨fun _ H' => Q .non H', Q, fun _ _ => False, fun _ _ => False⟩ [some v0] H) : sp_is_whole a [v0] H Q E := ⟨rfl, h⟩
def t_in_range (a : Cl) (E : XK) : TS :=
  (tRet (tAndV (tCall (sp_is_whole a) [] E (tCons (tVar 0) tNil)) (tChain rLe rLe (tVar 1) (tVar 0) (tVar 2))))
def sp_in_range (a : Cl) : Sp := spB 3 3 (t_in_range a)
theorem in_in_range {a : Cl} {v0 v1 v2 : V} {H : Hp} {Q : VK} {E : XK} (h : (tRet (tAndV (tCall (sp_is_whole a) [] E (tCons (tVar 0) tNil)) (tChain rLe rLe (tVar 1) (tVar 0) (tVar 2)))) ⟨fun _ H' => Q .non H', Q, fun _ _ => False, fun _ _ => False⟩ [some v0, some v1, some v2] H) : sp_in_range a [v0, v1, v2] H Q E := ⟨rfl, h⟩
def t_demand_words (a : Cl) (E : XK) : TS :=
  (tSeq (tIfS (tNot (tB (tCall (sp_is_row a) [] E (tCons (tVar 0) tNil)))) (sRaise E (tMkF a.c_InvalidWords ["place"] (tCons (tC (.int 0)) tNil))) tNext)
    (sForEn a.S (tVar 0) (gName 1) (gName 2) (tIfS (tNot (tB (tCall (sp_in_range a) [] E (tCons (tVar 2) (tCons (tC (.int 0)) (tCons (tC (.int 65535)) tNil)))))) (sRaise E (tMkF a.c_InvalidWords ["place"] (tCons (tVar 1) tNil))) tNext)))
def sp_demand_words (a : Cl) : Sp := spB 3 1 (t_demand_words a)
theorem in_demand_words {a : Cl} {v0 : V} {H : Hp} {Q : VK} {E : XK} (h : (tSeq (tIfS (tNot (tB (tCall (sp_is_row a) [] E (tCons (tVar 0) tNil)))) (sRaise E (tMkF a.c_InvalidWords ["place"] (tCons (tC (.int 0)) tNil))) tNext)
    (sForEn a.S (tVar 0) (gName 1) (gName 2) (tIfS (tNot (tB (tCall (sp_in_range a) [] E (tCons (tVar 2) (tCons (tC (.int 0)) (tCons (tC (.int 65535)) tNil)))))) (sRaise E (tMkF a.c_InvalidWords ["place"] (tCons (tVar 1) tNil))) tNext))) ⟨fun _ H' => Q .non H', Q, fun _ _ => False, fun _ _ => False⟩ [some v0, none, none] H) : sp_demand_words a [v0] H Q E := ⟨rfl, h⟩
def t_check_sum (a : Cl) (E : XK) : TS :=
  (tSeq (tDrop (tCall (sp_demand_words a) [] E (tCons (tVar 0) tNil)))
    (tSeq (tAsg (tC (.int 0)) (gName 1))
    (tSeq (sForEn a.S (tVar 0) (gName 2) (gName 3) (tAug 1 (tOp rMul (tOp rAdd (tVar 2) (tC (.int 1))) (tVar 3)) rAug))
    (tRet (tOp rMod (tVar 1) (tC (.int 65537)))))))
def sp_check_sum (a : Cl) : Sp := spB 4 1 (t_check_sum a)
theorem in_check_sum {a : Cl} {v0 : V} {H : Hp} {Q : VK} {E : XK} (h : (tSeq (tDrop (tCall (sp_demand_words a) [] E (tCons (tVar 0) tNil)))
    (tSeq (tAsg (tC (.int 0)) (gName 1))
    (tSeq (sForEn a.S (tVar 0) (gName 2) (gName 3) (tAug 1 (tOp rMul (tOp rAdd (tVar 2) (tC (.int 1))) (tVar 3)) rAug))
    (tRet (tOp rMod (tVar 1) (tC (.int 65537))))))) ⟨fun _ H' => Q .non H', Q, fun _ _ => False, fun _ _ => False⟩ [some v0, none, none, none] H) : sp_check_sum a [v0] H Q E := ⟨rfl, h⟩
def t_form (a : Cl) (E : XK) : TS :=
  (tSeq (tIfS (tTest (tOp (rEqP a.S) (tVar 0) (tC (.int 0)))) (tRet (tCB (rListOf a.S) (tCons (tVar 1) tNil))) tNext)
    (tRet (tCB (rTupleOf a.S) (tCons (tVar 1) tNil))))
def sp_form (a : Cl) : Sp := spB 2 2 (t_form a)
theorem in_form {a : Cl} {v0 v1 : V} {H : Hp} {Q : VK} {E : XK} (h : (tSeq (tIfS (tTest (tOp (rEqP a.S) (tVar 0) (tC (.int 0)))) (tRet (tCB (rListOf a.S) (tCons (tVar 1) tNil))) tNext)
    (tRet (tCB (rTupleOf a.S) (tCons (tVar 1) tNil)))) ⟨fun _ H' => Q .non H', Q, fun _ _ => False, fun _ _ => False⟩ [some v0, some v1] H) : sp_form a [v0, v1] H Q E := ⟨rfl, h⟩
def t_changes (a : Cl) (E : XK) : TS :=
  (tSeq (tIfS (tTest (tOp (rEqP a.S) (tCB (rLen a.S) (tCons (tVar 1) tNil)) (tC (.int 0)))) (tRet (tC (.bl true))) tNext)
    (tSeq (tAsg (tCall (sp_draw a) [] E (tCons (tVar 0) (tCons (tCB (rLen a.S) (tCons (tVar 1) tNil)) tNil))) (gName 3))
    (tSeq (tAsg (tCB (rListOf a.S) (tCons (tVar 1) tNil)) (gName 4))
    (tSeq (tAsg (tOp rMod (tCB rInt (tCons (tOp rAdd (tOp rAdd (tOp (rIx a.S) (tVar 1) (tVar 3)) (tC (.int 1))) (tCall (sp_draw a) [] E (tCons (tVar 0) (tCons (tC (.int 65535)) tNil)))) tNil)) (tC (.int 65536))) (gSub (tVar 4) (tVar 3) rSetL))
    (tSeq (tAsg (tCall (sp_check_sum a) [] E (tCons (tCall (sp_form a) [] E (tCons (tCall (sp_draw a) [] E (tCons (tVar 0) (tCons (tC (.int 2)) tNil))) (tCons (tVar 4) tNil))) tNil)) (gName 5))
    (tSeq (tIfS (tOr (tNot (tB (tCall (sp_is a) [] E (tCons (tVar 5) (tCons (tCall (sp_sum a) [] E (tCons (tVar 4) tNil)) tNil))))) (tTest (tOp (rEqP a.S) (tVar 5) (tVar 2)))) (tRet (tC (.bl false))) tNext)
    (tSeq (tAsg (tCall (sp_draw a) [] E (tCons (tVar 0) (tCons (tCB (rLen a.S) (tCons (tVar 1) tNil)) tNil))) (gName 6))
    (tSeq (tAsg (tCB (rListOf a.S) (tCons (tVar 1) tNil)) (gName 7))
    (tSeq (tAsg (tOp (rIx a.S) (tVar 1) (tVar 6)) (gSub (tVar 7) (tVar 3) rSetL))
    (tSeq (tAsg (tOp (rIx a.S) (tVar 1) (tVar 3)) (gSub (tVar 7) (tVar 6) rSetL))
    (tSeq (tAsg (tCall (sp_check_sum a) [] E (tCons (tCB (rListOf a.S) (tCons (tVar 7) tNil)) tNil)) (gName 5))
    (tSeq (tIfS (tNot (tB (tCall (sp_is a) [] E (tCons (tVar 5) (tCons (tCall (sp_sum a) [] E (tCons (tVar 7) tNil)) tNil))))) (tRet (tC (.bl false))) tNext)
    (tRet (tOrV (tOp (rEqP a.S) (tOp (rIx a.S) (tVar 1) (tVar 3)) (tOp (rIx a.S) (tVar 1) (tVar 6))) (tOp (rNeP a.S) (tVar 5) (tVar 2))))))))))))))))
def sp_changes (a : Cl) : Sp := spB 8 3 (t_changes a)
theorem in_changes {a : Cl} {v0 v1 v2 : V} {H : Hp} {Q : VK} {E : XK} (h : (tSeq (tIfS (tTest (tOp (rEqP a.S) (tCB (rLen a.S) (tCons (tVar 1) tNil)) (tC (.int 0)))) (tRet (tC (.bl true))) tNext)
    (tSeq (tAsg (tCall (sp_draw a) [] E (tCons (tVar 0) (tCons (tCB (rLen a.S) (tCons (tVar 1) tNil)) tNil))) (gName 3))
    (tSeq (tAsg (tCB (rListOf a.S) (tCons (tVar 1) tNil)) (gName 4))
    (tSeq (tAsg (tOp rMod (tCB rInt (tCons (tOp rAdd (tOp rAdd (tOp (rIx a.S) (tVar 1) (tVar 3)) (tC (.int 1))) (tCall (sp_draw a) [] E (tCons (tVar 0) (tCons (tC (.int 65535)) tNil)))) tNil)) (tC (.int 65536))) (gSub (tVar 4) (tVar 3) rSetL))
    (tSeq (tAsg (tCall (sp_check_sum a) [] E (tCons (tCall (sp_form a) [] E (tCons (tCall (sp_draw a) [] E (tCons (tVar 0) (tCons (tC (.int 2)) tNil))) (tCons (tVar 4) tNil))) tNil)) (gName 5))
    (tSeq (tIfS (tOr (tNot (tB (tCall (sp_is a) [] E (tCons (tVar 5) (tCons (tCall (sp_sum a) [] E (tCons (tVar 4) tNil)) tNil))))) (tTest (tOp (rEqP a.S) (tVar 5) (tVar 2)))) (tRet (tC (.bl false))) tNext)
    (tSeq (tAsg (tCall (sp_draw a) [] E (tCons (tVar 0) (tCons (tCB (rLen a.S) (tCons (tVar 1) tNil)) tNil))) (gName 6))
    (tSeq (tAsg (tCB (rListOf a.S) (tCons (tVar 1) tNil)) (gName 7))
    (tSeq (tAsg (tOp (rIx a.S) (tVar 1) (tVar 6)) (gSub (tVar 7) (tVar 3) rSetL))
    (tSeq (tAsg (tOp (rIx a.S) (tVar 1) (tVar 3)) (gSub (tVar 7) (tVar 6) rSetL))
    (tSeq (tAsg (tCall (sp_check_sum a) [] E (tCons (tCB (rListOf a.S) (tCons (tVar 7) tNil)) tNil)) (gName 5))
    (tSeq (tIfS (tNot (tB (tCall (sp_is a) [] E (tCons (tVar 5) (tCons (tCall (sp_sum a) [] E (tCons (tVar 7) tNil)) tNil))))) (tRet (tC (.bl false))) tNext)
    (tRet (tOrV (tOp (rEqP a.S) (tOp (rIx a.S) (tVar 1) (tVar 3)) (tOp (rIx a.S) (tVar 1) (tVar 6))) (tOp (rNeP a.S) (tVar 5) (tVar 2)))))))))))))))) ⟨fun _ H' => Q .non H', Q, fun _ _ => False, fun _ _ => False⟩ [some v0, some v1, some v2, none, none, none, none, none] H) : sp_changes a [v0, v1, v2] H Q E := ⟨rfl, h⟩
def t_number (a : Cl) (E : XK) : TS :=
  (tSeq (tAsg (tCall (sp_draw a) [] E (tCons (tVar 0) (tCons (tC (.int 4)) tNil))) (gName 2))
    (tSeq (tIfS (tTest (tOp (rEqP a.S) (tVar 2) (tC (.int 0)))) (tRet (tCB rMin2 (tCons (tVar 1) (tCons (tCall (sp_draw a) [] E (tCons (tVar 0) (tCons (tC (.int 4)) tNil))) tNil)))) tNext)
    (tSeq (tIfS (tTest (tOp (rEqP a.S) (tVar 2) (tC (.int 1)))) (tRet (tCB rMax2 (tCons (tC (.int 0)) (tCons (tOp rSub (tVar 1) (tCall (sp_draw a) [] E (tCons (tVar 0) (tCons (tC (.int 4)) tNil)))) tNil)))) tNext)
    (tSeq (tAsg (tOp rAdd (tOp rMul (tCall (sp_draw a) [] E (tCons (tVar 0) (tCons (tC (.int 65536)) tNil))) (tC (.int 65536))) (tCall (sp_draw a) [] E (tCons (tVar 0) (tCons (tC (.int 65536)) tNil)))) (gName 3))
    (tRet (tOp rMod (tCB rInt (tCons (tVar 3) tNil)) (tOp rAdd (tVar 1) (tC (.int 1)))))))))
def sp_number (a : Cl) : Sp := spB 4 2 (t_number a)
theorem in_number {a : Cl} {v0 v1 : V} {H : Hp} {Q : VK} {E : XK} (h : (tSeq (tAsg (tCall (sp_draw a) [] E (tCons (tVar 0) (tCons (tC (.int 4)) tNil))) (gName 2))
    (tSeq (tIfS (tTest (tOp (rEqP a.S) (tVar 2) (tC (.int 0)))) (tRet (tCB rMin2 (tCons (tVar 1) (tCons (tCall (sp_draw a) [] E (tCons (tVar 0) (tCons (tC (.int 4)) tNil))) tNil)))) tNext)
    (tSeq (tIfS (tTest (tOp (rEqP a.S) (tVar 2) (tC (.int 1)))) (tRet (tCB rMax2 (tCons (tC (.int 0)) (tCons (tOp rSub (tVar 1) (tCall (sp_draw a) [] E (tCons (tVar 0) (tCons (tC (.int 4)) tNil)))) tNil)))) tNext)
    (tSeq (tAsg (tOp rAdd (tOp rMul (tCall (sp_draw a) [] E (tCons (tVar 0) (tCons (tC (.int 65536)) tNil))) (tC (.int 65536))) (tCall (sp_draw a) [] E (tCons (tVar 0) (tCons (tC (.int 65536)) tNil)))) (gName 3))
    (tRet (tOp rMod (tCB rInt (tCons (tVar 3) tNil)) (tOp rAdd (tVar 1) (tC (.int 1))))))))) ⟨fun _ H' => Q .non H', Q, fun _ _ => False, fun _ _ => False⟩ [some v0, some v1, none, none] H) : sp_number a [v0, v1] H Q E := ⟨rfl, h⟩
def t_odd (a : Cl) (E : XK) : TS :=
  (tSeq (tAsg (tCall (sp_draw a) [] E (tCons (tVar 0) (tCons (tC (.int 12)) tNil))) (gName 1))
    (tSeq (tIfS (tTest (tOp (rEqP a.S) (tVar 1) (tC (.int 10)))) (tRet (tOp rAdd (tC (.int 65537)) (tCall (sp_number a) [] E (tCons (tVar 0) (tCons (tC (.int 1000000000)) tNil))))) tNext)
    (tSeq (tIfS (tTest (tOp (rEqP a.S) (tVar 1) (tC (.int 11)))) (tRet (tOp rSub (tUn rNeg (tC (.int 2))) (tCall (sp_number a) [] E (tCons (tVar 0) (tCons (tC (.int 1000000000)) tNil))))) tNext)
    (tRet (tOp (rIx a.S) (tLst (tCons (tC (.int 65536)) (tCons (tUn rNeg (tC (.int 1))) (tCons (tC (.bl true)) (tCons (tC (.bl false)) (tCons (tC .non) (tCons (tC (.str "1")) (tCons (tC (.str "")) (tCons (tTup (tCons (tC (.int 1)) tNil)) (tCons (tLst tNil) (tCons tDNewK tNil))))))))))) (tVar 1))))))
def sp_odd (a : Cl) : Sp := spB 2 1 (t_odd a)
theorem in_odd {a : Cl} {v0 : V} {H : Hp} {Q : VK} {E : XK} (h : (tSeq (tAsg (tCall (sp_draw a) [] E (tCons (tVar 0) (tCons (tC (.int 12)) tNil))) (gName 1))
    (tSeq (tIfS (tTest (tOp (rEqP a.S) (tVar 1) (tC (.int 10)))) (tRet (tOp rAdd (tC (.int 65537)) (tCall (sp_number a) [] E (tCons (tVar 0) (tCons (tC (.int 1000000000)) tNil))))) tNext)
    (tSeq (tIfS (tTest (tOp (rEqP a.S) (tVar 1) (tC (.int 11)))) (tRet (tOp rSub (tUn rNeg (tC (.int 2))) (tCall (sp_number a) [] E (tCons (tVar 0) (tCons (tC (.int 1000000000)) tNil))))) tNext)
    (tRet (tOp (rIx a.S) (tLst (tCons (tC (.int 65536)) (tCons (tUn rNeg (tC (.int 1))) (tCons (tC (.bl true)) (tCons (tC (.bl false)) (tCons (tC .non) (tCons (tC (.str "1")) (tCons (tC (.str "")) (tCons (tTup (tCons (tC (.int 1)) tNil)) (tCons (tLst tNil) (tCons tDNewK tNil))))))))))) (tVar 1)))))) ⟨fun _ H' => Q .non H', Q, fun _ _ => False, fun _ _ => False⟩ [some v0, none] H) : sp_odd a [v0] H Q E := ⟨rfl, h⟩
def t_is_word (a : Cl) (E : XK) : TS :=
  (tRet (tAndV (tCB rIsI (tCons (tVar 0) (tCons (tC (.ty "int")) tNil))) (tAndV (tNotV (tCB rIsI (tCons (tVar 0) (tCons (tC (.ty "bool")) tNil)))) (tChain rLe rLe (tC (.int 0)) (tVar 0) (tC (.int 65535))))))
def sp_is_word (a : Cl) : Sp := spB 1 1 (t_is_word a)
theorem in_is_word {a : Cl} {v0 : V} {H : Hp} {Q : VK} {E : XK} (h : (tRet (tAndV (tCB rIsI (tCons (tVar 0) (tCons (tC (.ty "int")) tNil))) (tAndV (tNotV (tCB rIsI (tCons (tVar 0) (tCons (tC (.ty "bool")) tNil)))) (tChain rLe rLe (tC (.int 0)) (tVar 0) (tC (.int 65535)))))) ⟨fun _ H' => Q .non H', Q, fun _ _ => False, fun _ _ => False⟩ [some v0] H) : sp_is_word a [v0] H Q E := ⟨rfl, h⟩
def t_refusal (a : Cl) (E : XK) : TS :=
  (tSeq (sTry [(.ref a.c_InvalidWords, 0)] [(some 1, fun b cls d => (tSeq (tIfS (tB (tCB (rIsX [(.ref a.c_InvalidWords, .ref a.c_WrongSum, false)] b cls d) (tCons (tVar 1) (tCons (eCon (.ref a.c_WrongSum)) tNil)))) (tRet (tTup (tCons (tC (.str "sum")) (tCons (eXf b cls d [a.c_InvalidWords] "place" (tVar 1)) tNil)))) tNext)
    (tRet (tTup (tCons (tC (.str "words")) (tCons (eXf b cls d [a.c_InvalidWords] "place" (tVar 1)) tNil)))))), (none, fun b cls d => (tRet (tTup (tCons (tC (.str "other")) (tCons (tC (.int 0)) tNil)))))] (fun W => (tDrop (tCS (sp_check_sum a) (WE W) (tCons (tVar 0) tNil)))))
    (tRet (tTup (tCons (tC (.str "told")) (tCons (tC (.int 0)) tNil)))))
def sp_refusal (a : Cl) : Sp := spB 2 1 (t_refusal a)
theorem in_refusal {a : Cl} {v0 : V} {H : Hp} {Q : VK} {E : XK} (h : (tSeq (sTry [(.ref a.c_InvalidWords, 0)] [(some 1, fun b cls d => (tSeq (tIfS (tB (tCB (rIsX [(.ref a.c_InvalidWords, .ref a.c_WrongSum, false)] b cls d) (tCons (tVar 1) (tCons (eCon (.ref a.c_WrongSum)) tNil)))) (tRet (tTup (tCons (tC (.str "sum")) (tCons (eXf b cls d [a.c_InvalidWords] "place" (tVar 1)) tNil)))) tNext)
    (tRet (tTup (tCons (tC (.str "words")) (tCons (eXf b cls d [a.c_InvalidWords] "place" (tVar 1)) tNil)))))), (none, fun b cls d => (tRet (tTup (tCons (tC (.str "other")) (tCons (tC (.int 0)) tNil)))))] (fun W => (tDrop (tCS (sp_check_sum a) (WE W) (tCons (tVar 0) tNil)))))
    (tRet (tTup (tCons (tC (.str "told")) (tCons (tC (.int 0)) tNil))))) ⟨fun _ H' => Q .non H', Q, fun _ _ => False, fun _ _ => False⟩ [some v0, none] H) : sp_refusal a [v0] H Q E := ⟨rfl, h⟩
def t_refuses (a : Cl) (E : XK) : TS :=
  (tSeq (tAsg (tCB (rListOf a.S) (tCons (tVar 1) tNil)) (gName 2))
    (tSeq (sForR none (tOp rAdd (tC (.int 1)) (tCall (sp_draw a) [] E (tCons (tVar 0) (tCons (tC (.int 2)) tNil)))) (gName 3) (tDrop (eIns (tVar 2) (tCons (tCall (sp_draw a) [] E (tCons (tVar 0) (tCons (tOp rAdd (tCB (rLen a.S) (tCons (tVar 2) tNil)) (tC (.int 1))) tNil))) (tCons (tCall (sp_odd a) [] E (tCons (tVar 0) tNil)) tNil)))))
    (tSeq (tAsg (tC (.int 0)) (gName 4))
    (tSeq (tWhile (tAnd (tTest (tOp rLt (tVar 4) (tCB (rLen a.S) (tCons (tVar 2) tNil)))) (tB (tCall (sp_is_word a) [] E (tCons (tOp (rIx a.S) (tVar 2) (tVar 4)) tNil)))) (tAsg (tOp rAdd (tVar 4) (tC (.int 1))) (gName 4)))
    (tSeq (tAsg (tCall (sp_refusal a) [] E (tCons (tCall (sp_form a) [] E (tCons (tCall (sp_draw a) [] E (tCons (tVar 0) (tCons (tC (.int 2)) tNil))) (tCons (tVar 2) tNil))) tNil)) (gName 5))
    (tSeq (tIfS (tOr (tTest (tOp (rNeP a.S) (tOp (rIx a.S) (tVar 5) (tC (.int 0))) (tC (.str "words")))) (tNot (tB (tCall (sp_is a) [] E (tCons (tOp (rIx a.S) (tVar 5) (tC (.int 1))) (tCons (tVar 4) tNil)))))) (tRet (tC (.bl false))) tNext)
    (tSeq (tAsg (tCall (sp_refusal a) [] E (tCons (tOp (rIx a.S) (tLst (tCons (tC .non) (tCons (tC (.int 5)) (tCons (tC (.bl true)) (tCons (tC (.str "")) (tCons (tC (.str "ab")) (tCons tDNewK (tCons (tC (.int 65537)) tNil)))))))) (tCall (sp_draw a) [] E (tCons (tVar 0) (tCons (tC (.int 7)) tNil)))) tNil)) (gName 5))
    (tRet (tAndV (tOp (rEqP a.S) (tOp (rIx a.S) (tVar 5) (tC (.int 0))) (tC (.str "words"))) (tCall (sp_is a) [] E (tCons (tOp (rIx a.S) (tVar 5) (tC (.int 1))) (tCons (tC (.int 0)) tNil))))))))))))
def sp_refuses (a : Cl) : Sp := spB 6 2 (t_refuses a)
theorem in_refuses {a : Cl} {v0 v1 : V} {H : Hp} {Q : VK} {E : XK} (h : (tSeq (tAsg (tCB (rListOf a.S) (tCons (tVar 1) tNil)) (gName 2))
    (tSeq (sForR none (tOp rAdd (tC (.int 1)) (tCall (sp_draw a) [] E (tCons (tVar 0) (tCons (tC (.int 2)) tNil)))) (gName 3) (tDrop (eIns (tVar 2) (tCons (tCall (sp_draw a) [] E (tCons (tVar 0) (tCons (tOp rAdd (tCB (rLen a.S) (tCons (tVar 2) tNil)) (tC (.int 1))) tNil))) (tCons (tCall (sp_odd a) [] E (tCons (tVar 0) tNil)) tNil)))))
    (tSeq (tAsg (tC (.int 0)) (gName 4))
    (tSeq (tWhile (tAnd (tTest (tOp rLt (tVar 4) (tCB (rLen a.S) (tCons (tVar 2) tNil)))) (tB (tCall (sp_is_word a) [] E (tCons (tOp (rIx a.S) (tVar 2) (tVar 4)) tNil)))) (tAsg (tOp rAdd (tVar 4) (tC (.int 1))) (gName 4)))
    (tSeq (tAsg (tCall (sp_refusal a) [] E (tCons (tCall (sp_form a) [] E (tCons (tCall (sp_draw a) [] E (tCons (tVar 0) (tCons (tC (.int 2)) tNil))) (tCons (tVar 2) tNil))) tNil)) (gName 5))
    (tSeq (tIfS (tOr (tTest (tOp (rNeP a.S) (tOp (rIx a.S) (tVar 5) (tC (.int 0))) (tC (.str "words")))) (tNot (tB (tCall (sp_is a) [] E (tCons (tOp (rIx a.S) (tVar 5) (tC (.int 1))) (tCons (tVar 4) tNil)))))) (tRet (tC (.bl false))) tNext)
    (tSeq (tAsg (tCall (sp_refusal a) [] E (tCons (tOp (rIx a.S) (tLst (tCons (tC .non) (tCons (tC (.int 5)) (tCons (tC (.bl true)) (tCons (tC (.str "")) (tCons (tC (.str "ab")) (tCons tDNewK (tCons (tC (.int 65537)) tNil)))))))) (tCall (sp_draw a) [] E (tCons (tVar 0) (tCons (tC (.int 7)) tNil)))) tNil)) (gName 5))
    (tRet (tAndV (tOp (rEqP a.S) (tOp (rIx a.S) (tVar 5) (tC (.int 0))) (tC (.str "words"))) (tCall (sp_is a) [] E (tCons (tOp (rIx a.S) (tVar 5) (tC (.int 1))) (tCons (tC (.int 0)) tNil)))))))))))) ⟨fun _ H' => Q .non H', Q, fun _ _ => False, fun _ _ => False⟩ [some v0, some v1, none, none, none, none] H) : sp_refuses a [v0, v1] H Q E := ⟨rfl, h⟩
def t_law (a : Cl) (E : XK) : TS :=
  (tSeq (tAsg (tCall (sp_purse a) [] E (tCons (tVar 0) tNil)) (gName 1))
    (tSeq (tAsg (tCall (sp_sequence a) [] E (tCons (tVar 1) tNil)) (gName 2))
    (tSeq (tAsg (tCall (sp_sum a) [] E (tCons (tVar 2) tNil)) (gName 3))
    (tSeq (tAsg (tCB (rListOf a.S) (tCons (tVar 2) tNil)) (gName 4))
    (tSeq (tIfS (tOr (tNot (tB (tCall (sp_is a) [] E (tCons (tC (.int 65537)) (tCons (tC (.int 65537)) tNil))))) (tOr (tNot (tB (tCall (sp_is a) [] E (tCons (tCall (sp_check_sum a) [] E (tCons (tVar 4) tNil)) (tCons (tVar 3) tNil))))) (tTest (tOp (rNeP a.S) (tVar 4) (tVar 2))))) (tRet (tC (.bl false))) tNext)
    (tSeq (tIfS (tOr (tNot (tB (tCall (sp_changes a) [] E (tCons (tVar 1) (tCons (tVar 2) (tCons (tVar 3) tNil)))))) (tNot (tB (tCall (sp_refuses a) [] E (tCons (tVar 1) (tCons (tVar 2) tNil)))))) (tRet (tC (.bl false))) tNext)
    (tRet (tAndV (tCall (sp_is a) [] E (tCons (tCall (sp_check_sum a) [] E (tCons (tCB (rTupleOf a.S) (tCons (tVar 2) tNil)) tNil)) (tCons (tVar 3) tNil))) (tAndV (tCall (sp_is a) [] E (tCons (tCall (sp_check_sum a) [] E (tCons (tVar 4) tNil)) (tCons (tVar 3) tNil))) (tOp (rEqP a.S) (tVar 4) (tVar 2)))))))))))
def sp_law (a : Cl) : Sp := spB 5 1 (t_law a)
theorem in_law {a : Cl} {v0 : V} {H : Hp} {Q : VK} {E : XK} (h : (tSeq (tAsg (tCall (sp_purse a) [] E (tCons (tVar 0) tNil)) (gName 1))
    (tSeq (tAsg (tCall (sp_sequence a) [] E (tCons (tVar 1) tNil)) (gName 2))
    (tSeq (tAsg (tCall (sp_sum a) [] E (tCons (tVar 2) tNil)) (gName 3))
    (tSeq (tAsg (tCB (rListOf a.S) (tCons (tVar 2) tNil)) (gName 4))
    (tSeq (tIfS (tOr (tNot (tB (tCall (sp_is a) [] E (tCons (tC (.int 65537)) (tCons (tC (.int 65537)) tNil))))) (tOr (tNot (tB (tCall (sp_is a) [] E (tCons (tCall (sp_check_sum a) [] E (tCons (tVar 4) tNil)) (tCons (tVar 3) tNil))))) (tTest (tOp (rNeP a.S) (tVar 4) (tVar 2))))) (tRet (tC (.bl false))) tNext)
    (tSeq (tIfS (tOr (tNot (tB (tCall (sp_changes a) [] E (tCons (tVar 1) (tCons (tVar 2) (tCons (tVar 3) tNil)))))) (tNot (tB (tCall (sp_refuses a) [] E (tCons (tVar 1) (tCons (tVar 2) tNil)))))) (tRet (tC (.bl false))) tNext)
    (tRet (tAndV (tCall (sp_is a) [] E (tCons (tCall (sp_check_sum a) [] E (tCons (tCB (rTupleOf a.S) (tCons (tVar 2) tNil)) tNil)) (tCons (tVar 3) tNil))) (tAndV (tCall (sp_is a) [] E (tCons (tCall (sp_check_sum a) [] E (tCons (tVar 4) tNil)) (tCons (tVar 3) tNil))) (tOp (rEqP a.S) (tVar 4) (tVar 2))))))))))) ⟨fun _ H' => Q .non H', Q, fun _ _ => False, fun _ _ => False⟩ [some v0, none, none, none, none] H) : sp_law a [v0] H Q E := ⟨rfl, h⟩

/-! the walker: «walk_at "y 1"» one step, «walk_at "y"» as far as it goes -/
local macro_rules | `(tactic| walk_at "y mem") => `(tactic| repeat (first | assumption | exact List.Mem.head _ | apply List.Mem.tail))
local macro_rules | `(tactic| walk_at "y sub") => `(tactic| first | exact List.Sublist.refl _ | exact List.nil_sublist _ | (refine List.Sublist.cons₂ _ ?_; walk_at "y sub") | (refine List.Sublist.cons _ ?_; walk_at "y sub"))
local macro_rules | `(tactic| walk_at "y take") => `(tactic| first | exact Y.Take.here | (apply Y.Take.there; walk_at "y take"))
local macro_rules | `(tactic| walk_at "y sel") => `(tactic| first | exact Y.Sel.all | exact Y.Sel.nil | (refine' Y.Sel.cons ?h ?s; (case h => walk_at "y take"); (case s => walk_at "y sel")) | ((fail_if_success (show Y.Sel (_ :: _) _)); apply Y.Sel.drop; walk_at "y sel"))
local macro_rules | `(tactic| walk_at "y src") => `(tactic| first | assumption | (refine Y.Src.is ?_; walk_at "y mem"; done) | (refine Y.Src.rd ?_; walk_at "y mem"; done) | (refine Y.Src.st ?_; assumption) | (apply Y.Src.cons; walk_at "y src"))
local macro_rules | `(tactic| walk_at "y put") => `(tactic| repeat (first | assumption | exact Y.Put.here | apply Y.Put.there))
local macro_rules | `(tactic| walk_at "y at") => `(tactic| first | exact Y.atI_at (j := 0) rfl rfl | exact Y.atI_at (j := 1) rfl rfl | exact Y.atI_at (j := 2) rfl rfl | exact Y.atI_at (j := 3) rfl rfl | exact Y.atI_at (j := 4) rfl rfl | exact Y.atI_at (j := 5) rfl rfl | exact Y.atI_at (j := 6) rfl rfl | exact Y.atI_at (j := 7) rfl rfl | exact Y.atI_at (j := 8) rfl rfl | exact Y.atI_at (j := 9) rfl rfl | exact Y.atI_at (j := 10) rfl rfl | exact Y.atI_at (j := 11) rfl rfl | exact Y.atI_at (j := 12) rfl rfl | exact Y.atI_at (j := 13) rfl rfl | exact Y.atI_at (j := 14) rfl rfl | exact Y.atI_at (j := 15) rfl rfl | assumption | exact Y.atI_ints (by omega) (by omega))
local macro_rules | `(tactic| walk_at "y ix") => `(tactic| first | exact Y.ixN_b (j := 0) rfl rfl | exact Y.ixN_b (j := 1) rfl rfl | exact Y.ixN_b (j := 2) rfl rfl | exact Y.ixN_b (j := 3) rfl rfl | exact Y.ixN_b (j := 4) rfl rfl | exact Y.ixN_b (j := 5) rfl rfl | exact Y.ixN_b (j := 6) rfl rfl | exact Y.ixN_b (j := 7) rfl rfl | exact Y.ixN_b (j := 8) rfl rfl | exact Y.ixN_b (j := 9) rfl rfl | exact Y.ixN_b (j := 10) rfl rfl | exact Y.ixN_b (j := 11) rfl rfl | exact Y.ixN_b (j := 12) rfl rfl | exact Y.ixN_b (j := 13) rfl rfl | exact Y.ixN_b (j := 14) rfl rfl | exact Y.ixN_b (j := 15) rfl rfl | assumption | exact Y.ixN_i (by omega) (by omega))
local macro_rules | `(tactic| walk_at "y field") => `(tactic| first | assumption | exact Y.look_hit | exact Y.look_nil | (refine' Y.look_miss ?hd ?tl; (case hd => decide +kernel); (case tl => walk_at "y field")))
local macro_rules | `(tactic| walk_at "y putf") => `(tactic| first | exact Y.put_nil | exact Y.put_hit | (refine' Y.put_miss ?hd ?tl; (case hd => decide +kernel); (case tl => walk_at "y putf")))
local macro_rules | `(tactic| walk_at "y size") => `(tactic| first | exact Y.len_leB rfl | exact Y.len_ltB rfl | exact Y.f_lt rfl | (refine Y.len_leN ?_; simp only [List.length_append, List.length_cons, List.length_nil, List.length_map]; omega) | (refine Y.len_ltN ?_; simp only [List.length_append, List.length_cons, List.length_nil, List.length_map]; omega))
local macro_rules | `(tactic| walk_at "y flat") => `(tactic| first | exact Y.flat_ints | rfl | assumption | (refine Y.flat_cons ?_ ?_; (first | rfl | decide +kernel | assumption); walk_at "y flat"))
local macro_rules | `(tactic| walk_at "y eqv") => `(tactic| first | exact Y.eqv_nil | exact Y.eqv_nc | exact Y.eqv_cn | exact Y.eqv_ints | assumption | ((try simp (disch := decide +kernel) only [Y.eqv_strS, Y.eqv_strD, Y.eqv_int, Y.eqv_bl, Y.eqv_nil, Y.eqv_nc, Y.eqv_cn, Y.eqv_nn, Y.eqv_ni, Y.eqv_in, Y.eqv_ns, Y.eqv_sn, Y.eqv_si, Y.eqv_is, decide_true, Bool.true_and, Bool.false_and, Bool.and_true, Bool.and_false, eq_self, List.cons_append, List.nil_append]); (try simp only [Y.eqv_str, Y.eqv_int, Y.eqv_bl, Y.eqv_nil, Y.eqv_nc, Y.eqv_cn, Y.eqv_nn, Y.eqv_ni, Y.eqv_in, Y.eqv_ns, Y.eqv_sn, Y.eqv_si, Y.eqv_is, decide_true, Bool.true_and, Bool.false_and, Bool.and_true, Bool.and_false, eq_self, List.cons_append, List.nil_append, ← Bool.decide_and]); rfl))
local macro_rules | `(tactic| walk_at "y side") => `(tactic| fail "side")
local macro_rules | `(tactic| walk_at "y spec") => `(tactic| fail "spec")
local macro_rules | `(tactic| walk_at "y old Ar") => `(tactic| first
  | ((with_reducible refine' Y.x_strI ?c ?_); (case c => omega))
  | ((with_reducible refine' Y.x_mod ?c ?_); (case c => first | omega | decide | walk_at "y side"))
  | ((with_reducible refine' Y.x_fdiv ?c ?_); (case c => first | exact Y.div_small (by omega) (by omega) | walk_at "y side"))
  | ((with_reducible refine' Y.x_mul ?c ?_); (case c => first | exact Y.mulR (by omega) (by omega) | exact Y.mulL (by omega) (by omega) | walk_at "y side"))
  | ((with_reducible refine Y.is_pow ?_); first
    | (with_reducible refine Y.x_pw10_1 ?_)
    | (with_reducible refine Y.x_pw10_2 ?_)
    | (with_reducible refine Y.x_pw10_3 ?_)
    | (with_reducible refine Y.x_pw10_4 ?_)
    | (with_reducible refine Y.x_pw10_5 ?_)
    | (with_reducible refine Y.x_pw10_6 ?_)
    | (with_reducible refine Y.x_pw10_7 ?_)
    | (with_reducible refine Y.x_pw10_8 ?_)
    | (with_reducible refine Y.x_pw10_9 ?_)
    | (with_reducible refine Y.x_pw10_10 ?_)
    | (with_reducible refine Y.x_pw10_11 ?_)
    | (with_reducible refine Y.x_pw10_12 ?_)
    | (with_reducible refine Y.x_pw10_13 ?_)
    | (with_reducible refine Y.x_pw10_14 ?_)
    | (with_reducible refine Y.x_pw10_15 ?_)
    | (with_reducible refine Y.x_pw10_16 ?_)
    | (with_reducible refine Y.x_pw10_17 ?_)
    | (with_reducible refine Y.x_pw10_18 ?_)
    | (with_reducible refine Y.x_pw10_19 ?_)
    | (with_reducible refine Y.x_pw10_20 ?_)
    | (with_reducible refine Y.x_pw10_21 ?_)
    | (with_reducible refine Y.x_pw10_22 ?_)
    | (with_reducible refine Y.x_pw10_23 ?_)
    | (with_reducible refine Y.x_pw10_24 ?_)
    | (with_reducible refine Y.x_pw2_6 ?_)
    | (with_reducible refine Y.x_pw2_10 ?_)
    | (with_reducible refine Y.x_pw2_16 ?_)
    | (with_reducible refine Y.x_pw2_20 ?_)
    | (with_reducible refine Y.x_pw2_30 ?_)
    | (with_reducible refine Y.x_pw2_31 ?_)
    | (with_reducible refine Y.x_pw2_32 ?_)
    | (with_reducible refine Y.x_pw2_40 ?_)
    | (with_reducible refine Y.x_pw2_48 ?_)
    | (with_reducible refine Y.x_pw2_60 ?_)
    | (with_reducible refine Y.x_pw2_62 ?_)
    | (with_reducible refine Y.x_pw2_63 ?_)
    | (with_reducible refine Y.x_pw2_64 ?_))
  | ((with_reducible refine' Y.x_pow ?c ?_); (case c => first | exact ⟨by decide, by decide, by decide⟩ | walk_at "y side"))
  | ((with_reducible refine' Y.x_shl ?c ?_); (case c => first | exact ⟨by omega, by omega, by decide⟩ | walk_at "y side")))
local macro_rules | `(tactic| walk_at "y old Ix") => `(tactic| first
  | ((with_reducible refine Y.is_ix ?_); first
    | ((with_reducible refine' Y.x_ixL ?F ?m ?a ?_); (case F => assumption); (case m => walk_at "y mem"); (case a => walk_at "y at"))
    | ((with_reducible refine' Y.x_ixT ?F ?m ?a ?_); (case F => assumption); (case m => walk_at "y mem"); (case a => walk_at "y at"))
    | ((with_reducible refine' Y.x_ixR ?F ?m ?a ?_); (case F => assumption); (case m => walk_at "y mem"); (case a => walk_at "y at"))
    | ((with_reducible refine' Y.x_ixS ?ms ?a ?_); (case ms => assumption); (case a => walk_at "y at")))
  | ((with_reducible refine Y.is_len ?_); first
    | ((with_reducible refine' Y.x_lenL ?F ?m ?_); (case F => assumption); (case m => walk_at "y mem"))
    | ((with_reducible refine' Y.x_lenT ?F ?m ?_); (case F => assumption); (case m => walk_at "y mem"))
    | ((with_reducible refine' Y.x_lenR ?F ?m ?_); (case F => assumption); (case m => walk_at "y mem"))
    | ((with_reducible refine' Y.x_lenS ?ms ?_); (case ms => assumption)))
  | ((with_reducible refine Y.is_sl ?_); first
    | ((with_reducible refine' Y.x_sl1 ?F ?m ?_); (case F => assumption); (case m => walk_at "y mem"); intro _ _ _ _)
    | ((with_reducible refine' Y.x_slp1 ?F ?m ?_); (case F => assumption); (case m => walk_at "y mem"); intro _ _ _ _)
    | ((with_reducible refine' Y.x_slp2 ?F ?m ?_); (case F => assumption); (case m => walk_at "y mem"); intro _ _ _ _)
    | ((with_reducible refine' Y.x_slp3 ?F ?m ?_); (case F => assumption); (case m => walk_at "y mem"); intro _ _ _ _)
    | ((with_reducible refine' Y.x_slp4 ?F ?m ?_); (case F => assumption); (case m => walk_at "y mem"); intro _ _ _ _)
    | ((with_reducible refine' Y.x_slp5 ?F ?m ?_); (case F => assumption); (case m => walk_at "y mem"); intro _ _ _ _)
    | ((with_reducible refine' Y.x_slp6 ?F ?m ?_); (case F => assumption); (case m => walk_at "y mem"); intro _ _ _ _)
    | ((with_reducible refine' Y.x_slp7 ?F ?m ?_); (case F => assumption); (case m => walk_at "y mem"); intro _ _ _ _)
    | ((with_reducible refine' Y.x_slp8 ?F ?m ?_); (case F => assumption); (case m => walk_at "y mem"); intro _ _ _ _)
    | ((with_reducible refine' Y.x_slL ?F ?m ?_); (case F => assumption); (case m => walk_at "y mem"); intro _ _ _ _)
    | ((with_reducible refine' Y.x_slR ?F ?m ?_); (case F => assumption); (case m => walk_at "y mem"); intro _ _ _ _)
    | ((with_reducible refine' Y.x_slS ?F ?ms ?_); (case F => assumption); (case ms => assumption); intro _ _ _ _)))
local macro_rules | `(tactic| walk_at "y old Eq") => `(tactic| first
  | ((with_reducible refine Y.is_eqP ?_); first
    | (with_reducible refine Y.x_eqPI ?_)
    | (with_reducible refine Y.x_eqPB ?_)
    | (with_reducible refine Y.x_eqPSs ?_)
    | ((with_reducible refine' Y.x_eqPSd ?ne ?_); (case ne => decide +kernel))
    | (with_reducible refine Y.x_eqPS ?_)
    | (with_reducible refine Y.x_eqP_nn ?_)
    | (with_reducible refine Y.x_eqP_ni ?_)
    | (with_reducible refine Y.x_eqP_in ?_)
    | (with_reducible refine Y.x_eqP_nb ?_)
    | (with_reducible refine Y.x_eqP_bn ?_)
    | (with_reducible refine Y.x_eqP_ns ?_)
    | (with_reducible refine Y.x_eqP_sn ?_)
    | (with_reducible refine Y.x_eqP_is ?_)
    | (with_reducible refine Y.x_eqP_si ?_)
    | (with_reducible refine Y.x_eqP_bs ?_)
    | (with_reducible refine Y.x_eqP_sb ?_)
    | ((with_reducible refine' Y.x_eqPL ?F ?m ?n ?f1 ?f2 ?ev ?_); (case F => assumption); (case m => walk_at "y mem"); (case n => walk_at "y mem"); (case f1 => walk_at "y flat"); (case f2 => walk_at "y flat"); (case ev => walk_at "y eqv"))
    | ((with_reducible refine' Y.x_eqPT ?F ?m ?n ?f1 ?f2 ?ev ?_); (case F => assumption); (case m => walk_at "y mem"); (case n => walk_at "y mem"); (case f1 => walk_at "y flat"); (case f2 => walk_at "y flat"); (case ev => walk_at "y eqv")))
  | ((with_reducible refine Y.is_neP ?_); first
    | (with_reducible refine Y.x_nePI ?_)
    | (with_reducible refine Y.x_nePB ?_)
    | (with_reducible refine Y.x_nePSs ?_)
    | ((with_reducible refine' Y.x_nePSd ?ne ?_); (case ne => decide +kernel))
    | (with_reducible refine Y.x_nePS ?_)
    | (with_reducible refine Y.x_neP_nn ?_)
    | (with_reducible refine Y.x_neP_ni ?_)
    | (with_reducible refine Y.x_neP_in ?_)
    | (with_reducible refine Y.x_neP_nb ?_)
    | (with_reducible refine Y.x_neP_bn ?_)
    | (with_reducible refine Y.x_neP_ns ?_)
    | (with_reducible refine Y.x_neP_sn ?_)
    | (with_reducible refine Y.x_neP_is ?_)
    | (with_reducible refine Y.x_neP_si ?_)
    | (with_reducible refine Y.x_neP_bs ?_)
    | (with_reducible refine Y.x_neP_sb ?_)
    | ((with_reducible refine' Y.x_nePL ?F ?m ?n ?f1 ?f2 ?ev ?_); (case F => assumption); (case m => walk_at "y mem"); (case n => walk_at "y mem"); (case f1 => walk_at "y flat"); (case f2 => walk_at "y flat"); (case ev => walk_at "y eqv"))
    | ((with_reducible refine' Y.x_nePT ?F ?m ?n ?f1 ?f2 ?ev ?_); (case F => assumption); (case m => walk_at "y mem"); (case n => walk_at "y mem"); (case f1 => walk_at "y flat"); (case f2 => walk_at "y flat"); (case ev => walk_at "y eqv"))))
local macro_rules | `(tactic| walk_at "y old In") => `(tactic| first
  | ((with_reducible refine' Y.x_inL (bb := false) ?F ?m ?f ?fs ?e ?_); (case F => assumption); (case m => walk_at "y mem"); (case f => rfl); (case fs => rfl); (case e => rfl))
  | ((with_reducible refine' Y.x_inL (bb := true) ?F ?m ?f ?fs ?e ?_); (case F => assumption); (case m => walk_at "y mem"); (case f => rfl); (case fs => rfl); (case e => rfl))
  | ((with_reducible refine' Y.x_inL ?F ?m ?f ?fs ?e ?_); (case F => assumption); (case m => walk_at "y mem"); (case f => rfl); (case fs => rfl); (case e => rfl))
  | ((with_reducible refine' Y.x_inT (bb := false) ?F ?m ?f ?fs ?e ?_); (case F => assumption); (case m => walk_at "y mem"); (case f => rfl); (case fs => rfl); (case e => rfl))
  | ((with_reducible refine' Y.x_inT (bb := true) ?F ?m ?f ?fs ?e ?_); (case F => assumption); (case m => walk_at "y mem"); (case f => rfl); (case fs => rfl); (case e => rfl))
  | ((with_reducible refine' Y.x_inT ?F ?m ?f ?fs ?e ?_); (case F => assumption); (case m => walk_at "y mem"); (case f => rfl); (case fs => rfl); (case e => rfl))
  | ((with_reducible refine' Y.x_ninL (bb := false) ?F ?m ?f ?fs ?e ?_); (case F => assumption); (case m => walk_at "y mem"); (case f => rfl); (case fs => rfl); (case e => rfl))
  | ((with_reducible refine' Y.x_ninL (bb := true) ?F ?m ?f ?fs ?e ?_); (case F => assumption); (case m => walk_at "y mem"); (case f => rfl); (case fs => rfl); (case e => rfl))
  | ((with_reducible refine' Y.x_ninL ?F ?m ?f ?fs ?e ?_); (case F => assumption); (case m => walk_at "y mem"); (case f => rfl); (case fs => rfl); (case e => rfl))
  | ((with_reducible refine' Y.x_ninT (bb := false) ?F ?m ?f ?fs ?e ?_); (case F => assumption); (case m => walk_at "y mem"); (case f => rfl); (case fs => rfl); (case e => rfl))
  | ((with_reducible refine' Y.x_ninT (bb := true) ?F ?m ?f ?fs ?e ?_); (case F => assumption); (case m => walk_at "y mem"); (case f => rfl); (case fs => rfl); (case e => rfl))
  | ((with_reducible refine' Y.x_ninT ?F ?m ?f ?fs ?e ?_); (case F => assumption); (case m => walk_at "y mem"); (case f => rfl); (case fs => rfl); (case e => rfl)))
local macro_rules | `(tactic| walk_at "y old Ty") => `(tactic| first
  | ((with_reducible refine Y.is_isi ?_); first
    | ((with_reducible refine' Y.x_isr_list_int ?F ?m ?_); (case F => assumption); (case m => walk_at "y mem"))
    | ((with_reducible refine' Y.x_isr_list_bool ?F ?m ?_); (case F => assumption); (case m => walk_at "y mem"))
    | ((with_reducible refine' Y.x_isr_list_str ?F ?m ?_); (case F => assumption); (case m => walk_at "y mem"))
    | ((with_reducible refine' Y.x_isr_list_list ?F ?m ?_); (case F => assumption); (case m => walk_at "y mem"))
    | ((with_reducible refine' Y.x_isr_list_tuple ?F ?m ?_); (case F => assumption); (case m => walk_at "y mem"))
    | ((with_reducible refine' Y.x_isr_list_dict ?F ?m ?_); (case F => assumption); (case m => walk_at "y mem"))
    | ((with_reducible refine' Y.x_isr_tuple_int ?F ?m ?_); (case F => assumption); (case m => walk_at "y mem"))
    | ((with_reducible refine' Y.x_isr_tuple_bool ?F ?m ?_); (case F => assumption); (case m => walk_at "y mem"))
    | ((with_reducible refine' Y.x_isr_tuple_str ?F ?m ?_); (case F => assumption); (case m => walk_at "y mem"))
    | ((with_reducible refine' Y.x_isr_tuple_list ?F ?m ?_); (case F => assumption); (case m => walk_at "y mem"))
    | ((with_reducible refine' Y.x_isr_tuple_tuple ?F ?m ?_); (case F => assumption); (case m => walk_at "y mem"))
    | ((with_reducible refine' Y.x_isr_tuple_dict ?F ?m ?_); (case F => assumption); (case m => walk_at "y mem"))))
local macro_rules | `(tactic| walk_at "y old Oth") => `(tactic| first
  | ((with_reducible refine' Y.x_wipe ?e ?_); (case e => rfl))
  | ((with_reducible refine' Y.x_lcPut ?F ?pu ?sz ?_); (case F => assumption); (case pu => walk_at "y put"); (case sz => walk_at "y size"); intro _ _)
  | ((with_reducible refine' Y.x_mDG ?F ?hm ?mt ?l ?_); (case F => assumption); (case hm => walk_at "y mem"); (case mt => walk_at "y mem"); (case l => walk_at "y field"))
  | ((with_reducible refine' Y.x_fldDG ?F ?m ?mt ?l ?_); (case F => assumption); (case m => walk_at "y mem"); (case mt => walk_at "y mem"); (case l => walk_at "y field"))
  | ((with_reducible refine' Y.x_setFDG ?F ?m ?mt ?z ?e ?pu ?_); (case F => assumption); (case m => walk_at "y mem"); (case mt => walk_at "y mem"); (case z => walk_at "y size"); (case e => walk_at "y putf"); (case pu => walk_at "y put"); intro _ _)
  | ((with_reducible refine' Y.x_augFDG ?F ?m ?mt ?l ?_); (case F => assumption); (case m => walk_at "y mem"); (case mt => walk_at "y mem"); (case l => walk_at "y field"))
  | ((with_reducible refine' Y.x_propDG ?F ?m ?mt ?_); (case F => assumption); (case m => walk_at "y mem"); (case mt => walk_at "y mem"))
  | ((with_reducible refine' Y.x_supM ?F ?m ?mt ?_); (case F => assumption); (case m => walk_at "y mem"); (case mt => walk_at "y mem"))
  | ((with_reducible refine' Y.x_getL ?F ?m ?a ?_); (case F => assumption); (case m => walk_at "y mem"); (case a => walk_at "y at"))
  | ((with_reducible refine' Y.x_wTs ?mt ?rf ?_); (case mt => walk_at "y mem"); (case rf => rfl); intro _)
  | ((with_reducible refine' Y.x_wTn ?mt ?rf ?_); (case mt => walk_at "y mem"); (case rf => rfl); intro _)
  | ((with_reducible refine' Y.x_xfG ?F ?m ?mt ?l ?_); (case F => assumption); (case m => walk_at "y mem"); (case mt => walk_at "y mem"); (case l => walk_at "y field"))
  | ((with_reducible refine' Y.x_isX ?F ?m ?mt ?_); (case F => assumption); (case m => walk_at "y mem"); (case mt => walk_at "y mem"))
  | ((with_reducible refine' Y.x_isXi  ?_); )
  | ((with_reducible refine' Y.x_fldG ?F ?m ?l ?_); (case F => assumption); (case m => walk_at "y mem"); (case l => walk_at "y field"))
  | ((with_reducible refine' Y.x_methG ?F ?m ?l ?_); (case F => assumption); (case m => walk_at "y mem"); (case l => walk_at "y field"))
  | ((with_reducible refine' Y.x_inOwnF ?F ?m ?_); (case F => assumption); (case m => walk_at "y mem"))
  | ((with_reducible refine' Y.x_inOwnT ?F ?m ?_); (case F => assumption); (case m => walk_at "y mem"))
  | ((with_reducible refine' Y.x_setFG ?F ?m ?z ?e ?pu ?_); (case F => assumption); (case m => walk_at "y mem"); (case z => walk_at "y size"); (case e => walk_at "y putf"); (case pu => walk_at "y put"); intro _ _)
  | ((with_reducible refine' Y.x_setL ?F ?m ?ax ?pu ?_); (case F => assumption); (case m => walk_at "y mem"); (case ax => walk_at "y ix"); (case pu => walk_at "y put"); intro _ _)
  | ((with_reducible refine' Y.x_apdG ?F ?m ?_); (case F => assumption); (case m => walk_at "y mem"))
  | ((with_reducible refine' Y.x_append ?F ?m ?z ?pu ?_); (case F => assumption); (case m => walk_at "y mem"); (case z => walk_at "y size"); (case pu => walk_at "y put"); intro _ _)
  | ((with_reducible refine' Y.x_lstG ?F ?z ?_); (case F => assumption); (case z => walk_at "y size"); intro _ _ _ _)
  | ((with_reducible refine' Y.x_tupG ?F ?z ?_); (case F => assumption); (case z => walk_at "y size"); intro _ _ _ _)
  | ((with_reducible refine' Y.forTU ?F ?m ?_); (case F => assumption); (case m => walk_at "y mem"))
  | ((with_reducible refine' Y.x_sumL ?F ?m ?_); (case F => assumption); (case m => walk_at "y mem"))
  | ((with_reducible refine' Y.x_cat ?F ?m ?n ?z ?_); (case F => assumption); (case m => walk_at "y mem"); (case n => walk_at "y mem"); (case z => walk_at "y size"); intro _ _ _ _)
  | ((with_reducible refine' Y.x_propG ?F ?m ?_); (case F => assumption); (case m => walk_at "y mem"))
  | ((with_reducible refine' Y.x_augFG ?F ?m ?l ?_); (case F => assumption); (case m => walk_at "y mem"); (case l => walk_at "y field"))
  | ((with_reducible refine' Y.x_augFS ?F ?m ?z ?e ?pu ?_); (case F => assumption); (case m => walk_at "y mem"); (case z => walk_at "y size"); (case e => walk_at "y putf"); (case pu => walk_at "y put"); intro _ _))
local macro_rules | `(tactic| walk_at "y open") => `(tactic| with_reducible first | unfold Y.KFl | unfold Y.KFlD | unfold Y.KSf | unfold Y.KSfD | unfold Y.KAf | unfold Y.KAs | unfold Y.KAfD | unfold Y.KMe | unfold Y.KMD | unfold Y.KPr | unfold Y.KPrD | unfold Y.KAp | unfold Y.KBl | unfold Y.KIn)
local macro_rules | `(tactic| walk_at "y 1") => `(tactic| first
  | ((with_reducible refine Y.go ?_); intros)
  | ((with_reducible refine Y.hdAr_is ?_); walk_at "y old Ar")
  | ((with_reducible refine Y.hdIx_is ?_); walk_at "y old Ix")
  | ((with_reducible refine Y.hdEq_is ?_); walk_at "y old Eq")
  | ((with_reducible refine Y.hdIn_is ?_); walk_at "y old In")
  | ((with_reducible refine Y.hdTy_is ?_); walk_at "y old Ty")
  | ((with_reducible refine Y.hdFm_is ?_); ((with_reducible refine' Y.x_fmI ?b ?_); (case b => omega)))
  | ((with_reducible refine Y.hdK_is ?_); walk_at "y open"; walk_at "y old Oth")
  | ((with_reducible refine Y.hd_is ?_); walk_at "y old Oth"))
local macro_rules | `(tactic| walk_at "y if") => `(tactic| first
  | ((with_reducible refine Y.x_ite ?_ ?_); all_goals (intro _; try (exfalso; omega)))
  | ((with_reducible refine Y.x_niteP ?_ ?_); all_goals (intro _; try (exfalso; omega)))
  | ((with_reducible refine Y.x_itec ?_ ?_); all_goals intro _)
  | ((with_reducible refine Y.x_nitec ?_ ?_); all_goals intro _))
local macro_rules | `(tactic| walk_at "y") => `(tactic| repeat' (first | walk_at "y 1" | walk_at "y if" | walk_at "y spec"))

section
/-! the purse of the draws -/
structure Pz where
  c : Addr
  ns : List Int
  i : Int
  d : Int
  k : Int
  s : Int
def purE (p : Addr) (z : Pz) : List Ent := [(p, Is (.lst [.ref z.c, .int z.i, .int z.d, .int z.k, .int z.s])), (z.c, Is (.lst (z.ns.map V.int)))]
def purP (z : Pz) : Prop := (∀ n ∈ z.ns, 0 ≤ n) ∧ 0 ≤ z.i ∧ 0 ≤ z.d ∧ 0 ≤ z.s ∧ z.s < 2147483647
def Purse : Pr := comp purE purP
theorem pur_fold {p c : Addr} {ns : List Int} {i d k s : Int} {R : List Ent} {H : Hp} (F : FH H ((p, Is (.lst [.ref c, .int i, .int d, .int k, .int s])) :: (c, Is (.lst (ns.map V.int))) :: R)) (hn : ∀ n ∈ ns, 0 ≤ n) (hi : 0 ≤ i) (hd : 0 ≤ d) (h0 : 0 ≤ s) (h1 : s < 2147483647) : FH H ((p, Purse) :: R) :=
  FH.fold (E := purE) (P := purP) ⟨c, ns, i, d, k, s⟩ ⟨hn, hi, hd, h0, h1⟩ F List.mem_cons_self
theorem draw_ok {a : Cl} {H : Hp} {L : List Ent} {p : Addr} {n : Int} {Q : VK} {E : XK} (F : FH H L) (m : (p, Purse) ∈ L) (hn : 0 < n) (hn2 : n ≤ 1000000000000) (k : ∀ r H', 0 ≤ r → r < n → FH H' L → Q (.int r) H') : sp_draw a [.ref p, .int n] H Q E := by
  obtain ⟨R, hR⟩ := pull m
  obtain ⟨⟨c, ns, i, d, kk, s⟩, ⟨nn, hi, hd, hs, hs2⟩, F1⟩ := (F.perm hR).unfold
  have fin : ∀ (r i' d' k' s' : Int) H', 0 ≤ r → r < n → 0 ≤ i' → 0 ≤ d' → 0 ≤ s' → s' < 2147483647 → FH H' ((p, Is (.lst [.ref c, .int i', .int d', .int k', .int s'])) :: (c, Is (.lst (ns.map V.int))) :: R) → Q (.int r) H' := fun r i' d' k' s' H' h1 h2 h3 h4 h5 h6 F' =>
    k r H' h1 h2 ((pur_fold F' nn h3 h4 h5 h6).perm hR.symm)
  have F2 : FH H ((p, Is (.lst [.ref c, .int i, .int d, .int kk, .int s])) :: (c, Is (.lst (ns.map V.int))) :: R) := F1
  dsimp only at nn hi hd hs hs2
  clear k F1 F m hR
  refine in_draw ?_
  walk_at "y"
  all_goals
    refine fin _ _ _ _ _ _ ?_ ?_ ?_ ?_ ?_ ?_ (by assumption)
    all_goals first
      | exact Int.emod_nonneg _ (by omega)
      | exact Int.emod_lt_of_pos _ hn
      | omega
      | exact Y.getD_nn nn _
      | exact Int.ediv_nonneg (Y.getD_nn nn _) (by omega)
      | exact Int.ediv_nonneg (by omega) (by omega)
theorem cut63 {ns : List Int} (hl : ns.length ≤ 63) : cutV (ns.map V.int) none (some 63) = ns.map V.int := by
  rw [show (63 : Int) = ((63 : Nat) : Int) from rfl, cutV_take (by rw [List.length_map]; exact hl)]
theorem purse_ok {a : Cl} {H : Hp} {L : List Ent} {q : Addr} {ns : List Int} {Q : VK} {E : XK} (F : FH H L) (m : Src a.S L q (ns.map V.int)) (hl : ns.length ≤ 63) (k : ∀ p H', FH H' ((p, Purse) :: L) → Q (.ref p) H') : sp_purse a [.ref q] H Q E := by
  refine in_purse ?_
  rcases m with m | m | m
  all_goals
    walk_at "y"
    rename_i q2 H2 hq2 F2
    rw [cut63 hl] at F2
    refine lcII (σw := [some (.ref q), none, none, none, none]) (fun i => if 0 ≤ i then i else -1 - i) F2 (.is (List.Mem.head _)) (by omega) rfl (fun y H QX hy F' hk => ?_) fun D H' F' => ?_
    · clear F2 F
      walk_at "y"
      · rw [if_pos (by assumption)] at hk; exact hk
      · rw [if_neg (by assumption)] at hk; exact hk
    · clear F2 F
      have hn : ∀ n ∈ ns.map (fun i => if 0 ≤ i then i else -1 - i), 0 ≤ n := fun n hn => by
        obtain ⟨i, _, e⟩ := List.mem_map.mp hn
        subst e
        show 0 ≤ if 0 ≤ i then i else -1 - i
        split <;> omega
      generalize ns.map (fun i => if 0 ≤ i then i else -1 - i) = ms at F' hn
      walk_at "y"
      refine forL (fun i σ => ∃ (s : Int) (x : Option V), σ = [some (.ref q), some (.ref D), none, some (.int s), x] ∧ 0 ≤ s ∧ s < 2147483647) F' (.is (List.Mem.head _)) ⟨0, _, rfl, by decide, by decide⟩ (fun i y σ H e z F3 => ?_) fun σ H z F3 => ?_
      · clear F'
        obtain ⟨s, x, rfl, h1, h2⟩ := z
        obtain ⟨z, _, rfl⟩ : ∃ z, z ∈ ms ∧ V.int z = y := List.mem_map.mp (List.mem_of_getElem? e)
        walk_at "y"
        exact ⟨⟨_, _, rfl, Int.emod_nonneg _ (by decide), Int.emod_lt_of_pos _ (by decide)⟩, F3⟩
      · clear F'
        obtain ⟨s, x, rfl, h1, h2⟩ := z
        walk_at "y"
        rename_i p2 H4 _ F4
        exact k p2 H4 (pur_fold (FH.sel F4 (by walk_at "y sel")) hn (by decide) (by decide) h1 h2)

theorem whole_ok {a : Cl} {H : Hp} {i : Int} {Q : VK} {E : XK} (k : Q (.bl true) H) : sp_is_whole a [.int i] H Q E := by
  refine in_is_whole ?_
  walk_at "y"
  exact k
local macro_rules | `(tactic| walk_at "y spec") => `(tactic| (with_reducible refine whole_ok ?_))
theorem range_ok {a : Cl} {H : Hp} {i l h : Int} {Q : VK} {E : XK} (k : Q (.bl (decide (l ≤ i ∧ i ≤ h))) H) : sp_in_range a [.int i, .int l, .int h] H Q E := by
  refine in_in_range ?_
  walk_at "y"
  · have e : decide (l ≤ i ∧ i ≤ h) = decide (i ≤ h) := by rw [Bool.eq_iff_iff]; simp; omega
    rw [e] at k; exact k
  · have e : decide (l ≤ i ∧ i ≤ h) = false := by rw [decide_eq_false_iff_not]; omega
    rw [e] at k; exact k

end
section
/-! the plain law: sums of words by their places, modulo a prime -/
def wsK : Int → List Int → Int
  | _, [] => 0
  | k, x :: xs => (k + 1) * x + wsK (k + 1) xs
theorem wsK_snoc : ∀ {l : List Int} {k x : Int}, wsK k (l ++ [x]) = wsK k l + (k + l.length + 1) * x
  | [], k, x => by
    show (k + 1) * x + 0 = 0 + (k + ((0 : Nat) : Int) + 1) * x
    simp
  | y :: l, k, x => by
    rw [List.cons_append, wsK, wsK, wsK_snoc, List.length_cons, show k + 1 + (l.length : Int) + 1 = k + ((l.length + 1 : Nat) : Int) + 1 by omega]
    omega
theorem wsK_set : ∀ {l : List Int} {k y z : Int} {i : Nat}, l[i]? = some z → wsK k (l.set i y) = wsK k l + (k + i + 1) * (y - z)
  | [], k, y, z, i, h => by simp at h
  | x :: l, k, y, z, 0, h => by
    have e : x = z := by simpa using h
    subst e
    show (k + 1) * y + wsK (k + 1) l = (k + 1) * x + wsK (k + 1) l + (k + ((0 : Nat) : Int) + 1) * (y - x)
    rw [show k + ((0 : Nat) : Int) + 1 = k + 1 by omega, Int.mul_sub]
    omega
  | x :: l, k, y, z, i + 1, h => by
    have e : l[i]? = some z := by simpa using h
    show (k + 1) * x + wsK (k + 1) (l.set i y) = (k + 1) * x + wsK (k + 1) l + _
    rw [wsK_set e, show k + 1 + (i : Int) + 1 = k + ((i + 1 : Nat) : Int) + 1 by omega]
    omega
abbrev ws (l : List Int) : Int := wsK 0 l
theorem ws_take {l : List Int} {i : Nat} {x : Int} (h : l[i]? = some x) : ws (l.take (i + 1)) = ws (l.take i) + ((i : Int) + 1) * x := by
  have hi : i < l.length := (List.getElem?_eq_some_iff.mp h).1
  rw [List.take_add_one, h]
  show wsK 0 (l.take i ++ [x]) = _
  rw [wsK_snoc, List.length_take, Nat.min_eq_left (by omega), Int.zero_add]
theorem p_small : ∀ d, d < 257 → 65537 % d = 0 → d = 1 := by decide +kernel
theorem p_div {d : Nat} (h : d ∣ 65537) : d = 1 ∨ d = 65537 := by
  obtain ⟨e, he⟩ := h
  by_cases hd : d < 257
  · exact .inl (p_small d hd (Nat.mod_eq_zero_of_dvd ⟨e, he⟩))
  · by_cases h2 : e < 257
    · have e1 := p_small e h2 (Nat.mod_eq_zero_of_dvd ⟨d, by rw [Nat.mul_comm]; exact he⟩)
      subst e1
      omega
    · have : 257 * 257 ≤ d * e := Nat.mul_le_mul (by omega) (by omega)
      omega
theorem p_nz {a b : Nat} (ha : 0 < a) (ha2 : a < 65537) (hb : 0 < b) (hb2 : b < 65537) : ¬ 65537 ∣ a * b := fun h => by
  have hc : Nat.Coprime 65537 a := by
    rcases p_div (Nat.gcd_dvd_left 65537 a) with z | z
    · exact z
    · have := Nat.gcd_dvd_right 65537 a
      rw [z] at this
      have := Nat.le_of_dvd ha this
      omega
  have := Nat.le_of_dvd hb (hc.dvd_of_dvd_mul_left h)
  omega
theorem ne_mod {x y d e : Int} (h : y = x + d * e) (hd : d ≠ 0) (hd2 : -65537 < d ∧ d < 65537) (he : e ≠ 0) (he2 : -65537 < e ∧ e < 65537) : y % 65537 ≠ x % 65537 := fun z => by
  have h1 : (65537 : Int) ∣ d * e := by
    have : d * e = y - x := by omega
    rw [this]
    exact Int.dvd_of_emod_eq_zero (by omega)
  have h2 := Int.natAbs_dvd_natAbs.mpr h1
  rw [Int.natAbs_mul] at h2
  exact p_nz (a := d.natAbs) (b := e.natAbs) (by omega) (by omega) (by omega) (by omega) h2
/-- words alone -/
def Ws (l : List Int) : Prop := (∀ n ∈ l, 0 ≤ n ∧ n ≤ 65535) ∧ l.length ≤ 65535
theorem Ws.set {l : List Int} {i : Nat} {y : Int} (h : Ws l) (hy : 0 ≤ y ∧ y ≤ 65535) : Ws (l.set i y) := ⟨fun n hn => by
  rcases List.mem_or_eq_of_mem_set hn with z | z
  · exact h.1 n z
  · rw [z]; exact hy, by rw [List.length_set]; exact h.2⟩

local macro_rules | `(tactic| walk_at "y spec") => `(tactic| first
  | ((with_reducible refine' draw_ok ?F ?m ?hn ?hn2 ?_); (case F => assumption); (case m => walk_at "y mem"); (case hn => first | omega | (dsimp only; omega) | exact Int.emod_nonneg _ (by omega) | exact Int.emod_lt_of_pos _ (by omega)); (case hn2 => first | omega | (dsimp only; omega) | exact Int.emod_nonneg _ (by omega) | exact Int.emod_lt_of_pos _ (by omega)); intro _ _ _ _ _)
  | ((with_reducible refine whole_ok ?_))
  | ((with_reducible refine range_ok ?_)))

theorem is_ok {a : Cl} {H : Hp} {i j : Int} {Q : VK} {E : XK} (k : Q (.bl (decide (i = j))) H) : sp_is a [.int i, .int j] H Q E := by
  refine in_is ?_
  walk_at "y"
  first
    | exact k
    | (rw [decide_eq_true rfl] at k; exact k)
theorem is_word_ok {a : Cl} {H : Hp} {i : Int} {Q : VK} {E : XK} (h : 0 ≤ i ∧ i ≤ 65535) (k : Q (.bl true) H) : sp_is_word a [.int i] H Q E := by
  refine in_is_word ?_
  walk_at "y"
  rw [decide_eq_true (by omega)]
  exact k
theorem number_ok {a : Cl} {H : Hp} {L : List Ent} {p : Addr} {n : Int} {Q : VK} {E : XK} (F : FH H L) (m : (p, Purse) ∈ L) (hn : 0 ≤ n ∧ n < 1000000000000) (k : ∀ r H', 0 ≤ r ∧ r ≤ n → FH H' L → Q (.int r) H') : sp_number a [.ref p, .int n] H Q E := by
  refine in_number ?_
  walk_at "y"
  · exact k _ _ (by omega) (by assumption)
  · exact k _ _ (by omega) (by assumption)
  · have h1 := fun x : Int => Int.emod_nonneg x (show n + 1 ≠ 0 by omega)
    have h2 := fun x : Int => Int.emod_lt_of_pos x (show 0 < n + 1 by omega)
    refine k _ _ ⟨h1 _, ?_⟩ (by assumption)
    exact Int.lt_add_one_iff.mp (h2 _)
theorem word_ok {a : Cl} {H : Hp} {L : List Ent} {p : Addr} {Q : VK} {E : XK} (F : FH H L) (m : (p, Purse) ∈ L) (k : ∀ r H', 0 ≤ r ∧ r ≤ 65535 → FH H' L → Q (.int r) H') : sp_word a [.ref p] H Q E := by
  refine in_word ?_
  walk_at "y"
  all_goals exact k _ _ (by omega) (by assumption)
theorem row_ok {a : Cl} {H : Hp} {L : List Ent} {p : Addr} {xs : List V} {Q : VK} {E : XK} (F : FH H L) (m : (p, Is (.lst xs)) ∈ L ∨ (p, Is (.tup xs)) ∈ L) (k : ∀ H', FH H' L → Q (.bl true) H') : sp_is_row a [.ref p] H Q E := by
  refine in_is_row ?_
  rcases m with m | m
  all_goals
    have mm : Mm _ L := ⟨m⟩
    walk_at "y"
    exact k _ (FH.sub (by assumption) (by walk_at "y sub"))
def Row (L : List Ent) (p : Addr) (xs : List V) : Prop := (p, Is (.lst xs)) ∈ L ∨ (p, Is (.tup xs)) ∈ L
theorem demand_ok {a : Cl} {H : Hp} {L : List Ent} {p : Addr} {ns : List Int} {Q : VK} {E : XK} (F : FH H L) (m : Row L p (ns.map V.int)) (hw : Ws ns) (k : ∀ H', FH H' L → Q .non H') : sp_demand_words a [.ref p] H Q E := by
  refine in_demand_words ?_
  walk_at "y"
  refine row_ok F m fun H1 F1 => ?_
  clear F
  walk_at "y"
  refine enL (fun i σ => ∃ y1 y2, σ = [some (.ref p), y1, y2]) F1 m ⟨_, _, rfl⟩ (fun i y σ H e q F2 => ?_) fun σ H q F2 => ?_
  · clear F1
    obtain ⟨y1, y2, rfl⟩ := q
    obtain ⟨z, hz, rfl⟩ : ∃ z, z ∈ ns ∧ V.int z = y := List.mem_map.mp (List.mem_of_getElem? e)
    have h1 := hw.1 z hz
    walk_at "y"
    exact ⟨⟨_, _, rfl⟩, F2⟩
  · clear F1
    obtain ⟨y1, y2, rfl⟩ := q
    walk_at "y"
    exact k _ F2
theorem check_ok {a : Cl} {H : Hp} {L : List Ent} {p : Addr} {ns : List Int} {Q : VK} {E : XK} (F : FH H L) (m : Row L p (ns.map V.int)) (hw : Ws ns) (k : ∀ H', FH H' L → Q (.int (ws ns % 65537)) H') : sp_check_sum a [.ref p] H Q E := by
  refine in_check_sum ?_
  walk_at "y"
  refine demand_ok F m hw fun H1 F1 => ?_
  clear F
  walk_at "y"
  refine enL (fun i σ => ∃ y2 y3, σ = [some (.ref p), some (.int (ws (ns.take i))), y2, y3]) F1 m ⟨_, _, rfl⟩ (fun i y σ H e q F2 => ?_) fun σ H q F2 => ?_
  · clear F1
    obtain ⟨y2, y3, rfl⟩ := q
    rw [List.getElem?_map] at e
    obtain ⟨z, hz, rfl⟩ := Option.map_eq_some_iff.mp e
    have hi : i < ns.length := (List.getElem?_eq_some_iff.mp hz).1
    have hl := hw.2
    rw [ws_take hz]
    walk_at "y"
    exact ⟨⟨_, _, rfl⟩, F2⟩
  · clear F1
    obtain ⟨y2, y3, rfl⟩ := q
    rw [List.length_map, List.take_length]
    walk_at "y"
    exact k _ F2
theorem sum_ok {a : Cl} {H : Hp} {L : List Ent} {p : Addr} {ns : List Int} {Q : VK} {E : XK} (F : FH H L) (m : (p, Is (.lst (ns.map V.int))) ∈ L) (hw : Ws ns) (k : ∀ H', FH H' L → Q (.int (ws ns % 65537)) H') : sp_sum a [.ref p] H Q E := by
  refine in_sum ?_
  walk_at "y"
  have hl := hw.2
  rw [List.length_map]
  refine forG (fun i σ H => (∃ y2, σ = [some (.ref p), some (.int (ws (ns.take i))), y2]) ∧ FH H L) (by omega) (by omega) ⟨⟨_, rfl⟩, F⟩ ?_ ?_
  · clear F
    intro i σ H hi ⟨⟨y2, e⟩, F⟩
    subst e
    have hi2 : i < ns.length := by omega
    have hz : ns[i]? = some ns[i] := by simp [hi2]
    have ha : atI (ns.map V.int) (i : Int) = some (.int ns[i]) := atI_at (j := i) rfl (by rw [List.getElem?_map, hz]; rfl)
    rw [ws_take hz, Int.mul_comm ((i : Int) + 1)]
    walk_at "y"
    exact ⟨⟨_, rfl⟩, F⟩
  · intro σ H ⟨⟨y2, e⟩, F⟩
    subst e
    have e2 : ((ns.length : Int)).toNat = ns.length := by omega
    rw [e2, List.take_length]
    walk_at "y"
    exact k _ F
theorem form_ok {a : Cl} {H : Hp} {L : List Ent} {p : Addr} {i : Int} {xs : List V} {Q : VK} {E : XK} (F : FH H L) (m : (p, Is (.lst xs)) ∈ L) (k : ∀ r o H', o = .lst xs ∨ o = .tup xs → FH H' ((r, Is o) :: L) → Q (.ref r) H') : sp_form a [.int i, .ref p] H Q E := by
  refine in_form ?_
  have mm : Mm (p, Is (.lst xs)) L := ⟨m⟩
  walk_at "y"
  · exact k _ _ _ (.inl rfl) (by assumption)
  · exact k _ _ _ (.inr rfl) (by assumption)
theorem seq_ok {a : Cl} {H : Hp} {L : List Ent} {p : Addr} {Q : VK} {E : XK} (F : FH H L) (m : (p, Purse) ∈ L) (k : ∀ r ns H', Ws ns → FH H' ((r, Is (.lst (ns.map V.int))) :: L) → Q (.ref r) H') : sp_sequence a [.ref p] H Q E := by
  have mm : Mm (p, Purse) L := ⟨m⟩
  refine in_sequence ?_
  walk_at "y"
  refine word_ok (by assumption) m fun s H1 hs F1 => ?_
  walk_at "y"
  refine word_ok F1 m fun t H2 ht F2 => ?_
  walk_at "y"
  · rename_i c H3 hc0 hc1 F3
    refine lcRM (σw := [_, _, _, _, none, _, _]) (65533 + c).toNat (fun i => .int ((s + t * i) % 65536)) (by omega) (by omega) F3 rfl (fun i H QX hi F4 hk => ?_) fun D H' F4 => ?_
    · clear F3
      walk_at "y"
      exact hk
    · have e : (List.range (65533 + c).toNat).map (fun (i : Nat) => V.int ((s + t * i) % 65536)) = ((List.range (65533 + c).toNat).map (fun (i : Nat) => (s + t * (i : Int)) % 65536)).map V.int := by rw [List.map_map]; rfl
      rw [e] at F4
      refine k _ _ _ ⟨fun n hn => ?_, by rw [List.length_map, List.length_range]; omega⟩ F4
      obtain ⟨i, _, rfl⟩ := List.mem_map.mp hn
      omega
  all_goals
    refine forG (fun i σ H => (∃ y4, σ = [_, _, _, _, y4, _, _]) ∧ ∃ ns : List Int, (∀ n ∈ ns, 0 ≤ n ∧ n ≤ 65535) ∧ ns.length = i ∧ FH H ((_, Is (.lst (ns.map V.int))) :: L)) (by omega) (by omega) ⟨⟨_, rfl⟩, [], by simp, rfl, by assumption⟩ ?_ ?_
    · intro i σ H hi ⟨⟨y4, e⟩, ns, hn, hl, F9⟩
      subst e
      walk_at "y"
      refine word_ok F9 (.tail _ m) fun r H8 hr F8 => ?_
      clear F9
      walk_at "y"
      refine ⟨⟨_, rfl⟩, ns ++ [r], ?_, by rw [List.length_append, hl]; rfl, ?_⟩
      · intro n hn2
        rcases List.mem_append.mp hn2 with z | z
        · exact hn n z
        · have : n = r := by simpa using z
          omega
      · rw [List.map_append]
        assumption
    · intro σ H ⟨⟨y4, e⟩, ns, hn, hl, F9⟩
      subst e
      walk_at "y"
      exact k _ ns _ ⟨hn, by omega⟩ F9

end
section
local macro_rules | `(tactic| walk_at "y spec") => `(tactic| first
  | ((with_reducible refine' draw_ok ?F ?m ?hn ?hn2 ?_); (case F => assumption); (case m => walk_at "y mem"); (case hn => first | omega | (dsimp only; omega) | exact Int.emod_nonneg _ (by omega) | exact Int.emod_lt_of_pos _ (by omega)); (case hn2 => first | omega | (dsimp only; omega) | exact Int.emod_nonneg _ (by omega) | exact Int.emod_lt_of_pos _ (by omega)); intro _ _ _ _ _)
  | ((with_reducible refine whole_ok ?_))
  | ((with_reducible refine range_ok ?_))
  | ((with_reducible refine is_ok ?_))
  | ((with_reducible refine' is_word_ok ?h ?_); (case h => first | omega | (dsimp only; omega) | exact Int.emod_nonneg _ (by omega) | exact Int.emod_lt_of_pos _ (by omega)))
  | ((with_reducible refine' number_ok ?F ?m ?hn ?_); (case F => assumption); (case m => walk_at "y mem"); (case hn => first | omega | (dsimp only; omega) | exact Int.emod_nonneg _ (by omega) | exact Int.emod_lt_of_pos _ (by omega)); intro _ _ _ _))

theorem map_set {l : List Int} {i : Nat} {y : Int} : (l.map V.int).set i (.int y) = (l.set i y).map V.int := (List.map_set ..).symm
theorem getD_get {l : List Int} {i : Nat} (h : i < l.length) : l[i]? = some (l.getD i 0) := by
  rw [List.getD_eq_getElem?_getD, List.getElem?_eq_getElem h]
  rfl
theorem changes_ok {a : Cl} {H : Hp} {L : List Ent} {p w : Addr} {ns : List Int} {Q : VK} {E : XK} (F : FH H L) (mp : (p, Purse) ∈ L) (mw : (w, Is (.lst (ns.map V.int))) ∈ L) (hw : Ws ns) (k : ∀ H', FH H' L → Q (.bl true) H') : sp_changes a [.ref p, .ref w, .int (ws ns % 65537)] H Q E := by
  have mm : Mm (p, Purse) L := ⟨mp⟩
  have mm2 : Mm (w, Is (.lst (ns.map V.int))) L := ⟨mw⟩
  have hlm : (ns.map V.int).length = ns.length := List.length_map ..
  have hl := hw.2
  refine in_changes ?_
  walk_at "y"
  · exact k _ F
  rename_i hne one H1 ho0 ho1 F1 c4 H2 _ F2 nw H3 hn0 hn1 F3 H4 F4 wy H5 hy0 hy1 F5
  clear F F1 F2 F3
  have hi : one.toNat < ns.length := by omega
  have hz := getD_get hi
  generalize ns.getD one.toNat 0 = z at hz F4 F5
  have hzw := hw.1 z (List.mem_of_getElem? hz)
  rw [map_set] at F4 F5
  generalize hv : (z + 1 + nw) % 65536 = v at F4 F5
  have hv2 : 0 ≤ v ∧ v ≤ 65535 := by omega
  have hw2 : Ws (ns.set one.toNat v) := hw.set hv2
  have hd : ws (ns.set one.toNat v) % 65537 ≠ ws ns % 65537 := ne_mod (wsK_set hz) (by omega) (by omega) (by omega) (by omega)
  clear F4
  refine form_ok F5 (List.Mem.head _) fun r o H6 hr F6 => ?_
  clear F5
  walk_at "y"
  refine check_ok F6 (p := r) (by rcases hr with rfl | rfl; exact .inl (List.Mem.head _); exact .inr (List.Mem.head _)) hw2 fun H7 F7 => ?_
  clear F6
  walk_at "y"
  refine sum_ok F7 (.tail _ (List.Mem.head _)) hw2 fun H8 F8 => ?_
  clear F7
  walk_at "y"
  rename_i hnd two H9 ht0 ht1 F9 c7 H10 _ F10 H11 F11
  clear F8 F9 F10
  have hi2 : two.toNat < ns.length := by omega
  have hz2 := getD_get hi2
  have hzz : ns.getD one.toNat 0 = z := by rw [List.getD_eq_getElem?_getD, hz]; rfl
  generalize ns.getD two.toNat 0 = y at hz2 F11 ⊢
  rw [hzz]
  have hyw := hw.1 y (List.mem_of_getElem? hz2)
  rw [map_set] at F11
  have hlm3 : ((ns.set one.toNat y).map V.int).length = ns.length := by rw [List.length_map, List.length_set]
  walk_at "y"
  rename_i H12 F12 l8 H13 _ F13
  clear F11 F12
  rw [map_set] at F13
  have hw3 : Ws ((ns.set one.toNat y).set two.toNat z) := (hw.set hyw).set hzw
  refine check_ok F13 (p := l8) (.inl (List.Mem.head _)) hw3 fun H14 F14 => ?_
  clear F13
  walk_at "y"
  refine sum_ok F14 (.tail _ (List.Mem.head _)) hw3 fun H15 F15 => ?_
  clear F14
  have he : z ≠ y → ws ((ns.set one.toNat y).set two.toNat z) % 65537 ≠ ws ns % 65537 := fun hzy => by
    have h12 : one.toNat ≠ two.toNat := fun e => by
      rw [e] at hz
      rw [hz] at hz2
      exact hzy (Option.some.inj hz2)
    have hz3 : (ns.set one.toNat y)[two.toNat]? = some y := by rw [List.getElem?_set_ne h12]; exact hz2
    refine ne_mod (d := (one.toNat : Int) - two.toNat) (e := y - z) ?_ (by omega) (by omega) (by omega) (by omega)
    show wsK 0 _ = wsK 0 ns + _
    rw [wsK_set hz3, wsK_set hz, Int.sub_mul]
    have e1 : (0 + (one.toNat : Int) + 1) * (y - z) = one.toNat * (y - z) + (y - z) := by rw [Int.zero_add, Int.add_mul, Int.one_mul]
    have e2 : (0 + (two.toNat : Int) + 1) * (z - y) = -(two.toNat * (y - z)) - (y - z) := by
      rw [Int.zero_add, Int.add_mul, Int.one_mul, show z - y = -(y - z) by omega, Int.mul_neg]
      omega
    rw [e1, e2]
    omega
  have hyy : ns.getD two.toNat 0 = y := by rw [List.getD_eq_getElem?_getD, hz2]; rfl
  walk_at "y"
  · exact k _ (FH.sub F15 (by walk_at "y sub"))
  · rename_i hq
    rw [hzz, hyy] at hq
    rw [decide_eq_true (he hq)]
    exact k _ (FH.sub F15 (by walk_at "y sub"))

end
section
local macro_rules | `(tactic| walk_at "y spec") => `(tactic| first
  | ((with_reducible refine' draw_ok ?F ?m ?hn ?hn2 ?_); (case F => assumption); (case m => walk_at "y mem"); (case hn => first | omega | (dsimp only; omega) | exact Int.emod_nonneg _ (by omega) | exact Int.emod_lt_of_pos _ (by omega)); (case hn2 => first | omega | (dsimp only; omega) | exact Int.emod_nonneg _ (by omega) | exact Int.emod_lt_of_pos _ (by omega)); intro _ _ _ _ _)
  | ((with_reducible refine whole_ok ?_))
  | ((with_reducible refine range_ok ?_))
  | ((with_reducible refine is_ok ?_))
  | ((with_reducible refine' is_word_ok ?h ?_); (case h => first | omega | (dsimp only; omega) | exact Int.emod_nonneg _ (by omega) | exact Int.emod_lt_of_pos _ (by omega)))
  | ((with_reducible refine' number_ok ?F ?m ?hn ?_); (case F => assumption); (case m => walk_at "y mem"); (case hn => first | omega | (dsimp only; omega) | exact Int.emod_nonneg _ (by omega) | exact Int.emod_lt_of_pos _ (by omega)); intro _ _ _ _))

/-! values that are no words -/
inductive Odd (R : List Ent) : V → Prop
  | int (i : Int) (h : i < 0 ∨ 65535 < i) : Odd R (.int i)
  | non : Odd R .non
  | bl (b : Bool) : Odd R (.bl b)
  | str (s : Str) : Odd R (.str s)
  | tup (q : Addr) (xs : List V) (m : (q, Is (.tup xs)) ∈ R) : Odd R (.ref q)
  | lst (q : Addr) (xs : List V) (m : (q, Is (.lst xs)) ∈ R) : Odd R (.ref q)
  | dct (q : Addr) (kvs : List (Key × V)) (m : (q, Is (.dK kvs)) ∈ R) : Odd R (.ref q)
theorem Odd.sub {R R' : List Ent} {v : V} (o : Odd R v) (h : ∀ x ∈ R, x ∈ R') : Odd R' v := by
  cases o with
  | int i z => exact .int i z
  | non => exact .non
  | bl b => exact .bl b
  | str s => exact .str s
  | tup q xs m => exact .tup q xs (h _ m)
  | lst q xs m => exact .lst q xs (h _ m)
  | dct q kvs m => exact .dct q kvs (h _ m)
theorem whole_odd {a : Cl} {H : Hp} {L : List Ent} {v : V} {Q : VK} {E : XK} (F : FH H L) (o : Odd L v) (k0 : ∀ i, v = .int i → (i < 0 ∨ 65535 < i) → Q (.bl true) H) (k1 : Q (.bl false) H) : sp_is_whole a [v] H Q E := by
  cases o with
  | int i h => exact whole_ok (k0 i rfl h)
  | tup q xs m =>
    have mm : Mm _ L := ⟨m⟩
    refine in_is_whole ?_
    walk_at "y"
    exact k1
  | lst q xs m =>
    have mm : Mm _ L := ⟨m⟩
    refine in_is_whole ?_
    walk_at "y"
    exact k1
  | dct q xs m =>
    have mm : Mm _ L := ⟨m⟩
    refine in_is_whole ?_
    walk_at "y"
    exact k1
  | _ =>
    refine in_is_whole ?_
    walk_at "y"
    exact k1
theorem range_odd {a : Cl} {H : Hp} {L : List Ent} {v : V} {Q : VK} {E : XK} (F : FH H L) (o : Odd L v) (k : Q (.bl false) H) : sp_in_range a [v, .int 0, .int 65535] H Q E := by
  refine in_in_range ?_
  repeat' walk_at "y 1"
  refine whole_odd F o (fun i e h => ?_) ?_
  · subst e
    walk_at "y"
    · rw [decide_eq_false (by omega)]
      exact k
    · exact k
  · walk_at "y"
    exact k
theorem is_word_odd {a : Cl} {H : Hp} {L : List Ent} {v : V} {Q : VK} {E : XK} (F : FH H L) (o : Odd L v) (k : Q (.bl false) H) : sp_is_word a [v] H Q E := by
  cases o with
  | int i h =>
    refine in_is_word ?_
    walk_at "y"
    · rw [decide_eq_false (by omega)]
      exact k
    · exact k
  | tup q xs m =>
    have mm : Mm _ L := ⟨m⟩
    refine in_is_word ?_
    walk_at "y"
    exact k
  | lst q xs m =>
    have mm : Mm _ L := ⟨m⟩
    refine in_is_word ?_
    walk_at "y"
    exact k
  | dct q xs m =>
    have mm : Mm _ L := ⟨m⟩
    refine in_is_word ?_
    walk_at "y"
    exact k
  | _ =>
    refine in_is_word ?_
    walk_at "y"
    exact k
/-- the first that is no word -/
def FirstOdd (L : List Ent) (vs : List V) (j : Nat) : Prop := (∃ v, vs[j]? = some v ∧ Odd L v) ∧ ∀ i, i < j → ∃ n : Int, vs[i]? = some (.int n) ∧ 0 ≤ n ∧ n ≤ 65535
theorem FirstOdd.sub {L L' : List Ent} {vs : List V} {j : Nat} (h : FirstOdd L vs j) (s : ∀ x ∈ L, x ∈ L') : FirstOdd L' vs j := by
  obtain ⟨⟨v, h1, h2⟩, h3⟩ := h
  exact ⟨⟨v, h1, h2.sub s⟩, h3⟩
theorem first_ex {L : List Ent} : ∀ {vs : List V}, (∀ v ∈ vs, (∃ n : Int, v = .int n ∧ 0 ≤ n ∧ n ≤ 65535) ∨ Odd L v) → (∃ v ∈ vs, Odd L v) → ∃ j, FirstOdd L vs j
  | [], _, ⟨v, h, _⟩ => nomatch h
  | x :: vs, h, ho => by
    rcases h x List.mem_cons_self with ⟨n, rfl, hn⟩ | hx
    · by_cases z : Odd L (.int n)
      · exact ⟨0, ⟨_, rfl, z⟩, fun i hi => by omega⟩
      · have ho2 : ∃ v ∈ vs, Odd L v := by
          obtain ⟨v, hv, o⟩ := ho
          rcases List.mem_cons.mp hv with e | hv
          · subst e; exact absurd o z
          · exact ⟨v, hv, o⟩
        obtain ⟨j, h1, h2⟩ := first_ex (fun v hv => h v (List.mem_cons_of_mem _ hv)) ho2
        refine ⟨j + 1, h1, fun i hi => ?_⟩
        cases i with
        | zero => exact ⟨n, rfl, hn⟩
        | succ i => exact h2 i (by omega)
    · exact ⟨0, ⟨_, rfl, hx⟩, fun i hi => by omega⟩
theorem demand_bad {a : Cl} {H : Hp} {L : List Ent} {p : Addr} {vs : List V} {j : Nat} {Q : VK} {E : XK} (F : FH H L) (m : Row L p vs) (hj : FirstOdd L vs j) (hl : vs.length ≤ 100000) (k : ∀ d H', FH H' ((d, Is (.xd [("place", .int (j : Int))])) :: L) → E (.ref a.c_InvalidWords) (some d) H') : sp_demand_words a [.ref p] H Q E := by
  obtain ⟨⟨v, hv, ho⟩, hw⟩ := hj
  have hjl : j < vs.length := (List.getElem?_eq_some_iff.mp hv).1
  refine in_demand_words ?_
  walk_at "y"
  refine row_ok F m fun H1 F1 => ?_
  clear F
  walk_at "y"
  refine enL (fun i σ => i ≤ j ∧ ∃ y1 y2, σ = [some (.ref p), y1, y2]) F1 m ⟨Nat.zero_le _, _, _, rfl⟩ (fun i y σ H e q F2 => ?_) fun σ H q F2 => ?_
  · clear F1
    obtain ⟨hi, y1, y2, rfl⟩ := q
    by_cases hij : i = j
    · subst hij
      rw [hv] at e
      cases e
      walk_at "y"
      refine range_odd F2 ho ?_
      walk_at "y"
      exact k _ _ (by assumption)
    · obtain ⟨n, hn, h0, h1⟩ := hw i (by omega)
      rw [hn] at e
      cases e
      walk_at "y"
      exact ⟨⟨by omega, _, _, rfl⟩, F2⟩
  · obtain ⟨hi, y1, y2, rfl⟩ := q
    omega

end
section
local macro_rules | `(tactic| walk_at "y spec") => `(tactic| first
  | ((with_reducible refine' draw_ok ?F ?m ?hn ?hn2 ?_); (case F => assumption); (case m => walk_at "y mem"); (case hn => first | omega | (dsimp only; omega) | exact Int.emod_nonneg _ (by omega) | exact Int.emod_lt_of_pos _ (by omega)); (case hn2 => first | omega | (dsimp only; omega) | exact Int.emod_nonneg _ (by omega) | exact Int.emod_lt_of_pos _ (by omega)); intro _ _ _ _ _)
  | ((with_reducible refine whole_ok ?_))
  | ((with_reducible refine range_ok ?_))
  | ((with_reducible refine is_ok ?_))
  | ((with_reducible refine' is_word_ok ?h ?_); (case h => first | omega | (dsimp only; omega) | exact Int.emod_nonneg _ (by omega) | exact Int.emod_lt_of_pos _ (by omega)))
  | ((with_reducible refine' number_ok ?F ?m ?hn ?_); (case F => assumption); (case m => walk_at "y mem"); (case hn => first | omega | (dsimp only; omega) | exact Int.emod_nonneg _ (by omega) | exact Int.emod_lt_of_pos _ (by omega)); intro _ _ _ _))

inductive NoRow (R : List Ent) : V → Prop
  | int (i : Int) : NoRow R (.int i)
  | non : NoRow R .non
  | bl (b : Bool) : NoRow R (.bl b)
  | str (s : Str) : NoRow R (.str s)
  | dct (q : Addr) (kvs : List (Key × V)) (m : (q, Is (.dK kvs)) ∈ R) : NoRow R (.ref q)
theorem row_no {a : Cl} {H : Hp} {L : List Ent} {v : V} {Q : VK} {E : XK} (F : FH H L) (o : NoRow L v) (k : ∀ H', FH H' L → Q (.bl false) H') : sp_is_row a [v] H Q E := by
  refine in_is_row ?_
  cases o with
  | dct q kvs m =>
    have mm : Mm _ L := ⟨m⟩
    walk_at "y"
    exact k _ (FH.sub (by assumption) (by walk_at "y sub"))
  | _ =>
    walk_at "y"
    exact k _ (FH.sub (by assumption) (by walk_at "y sub"))
theorem check_bad {a : Cl} {H : Hp} {L : List Ent} {p : Addr} {vs : List V} {j : Nat} {Q : VK} {E : XK} (F : FH H L) (m : Row L p vs) (hj : FirstOdd L vs j) (hl : vs.length ≤ 100000) (k : ∀ d H', FH H' ((d, Is (.xd [("place", .int (j : Int))])) :: L) → E (.ref a.c_InvalidWords) (some d) H') : sp_check_sum a [.ref p] H Q E := by
  refine in_check_sum ?_
  walk_at "y"
  exact demand_bad F m hj hl k
theorem check_no {a : Cl} {H : Hp} {L : List Ent} {v : V} {Q : VK} {E : XK} (F : FH H L) (o : NoRow L v) (k : ∀ d H', FH H' ((d, Is (.xd [("place", .int 0)])) :: L) → E (.ref a.c_InvalidWords) (some d) H') : sp_check_sum a [v] H Q E := by
  refine in_check_sum ?_
  walk_at "y"
  refine in_demand_words ?_
  walk_at "y"
  refine row_no F o fun H1 F1 => ?_
  walk_at "y"
  exact k _ _ (by assumption)
theorem refusal_bad {a : Cl} {H : Hp} {L : List Ent} {p : Addr} {vs : List V} {j : Nat} {Q : VK} {E : XK} (F : FH H L) (m : Row L p vs) (hj : FirstOdd L vs j) (hl : vs.length ≤ 100000) (k : ∀ t H', FH H' ((t, Is (.tup [.str "words", .int (j : Int)])) :: L) → Q (.ref t) H') : sp_refusal a [.ref p] H Q E := by
  refine in_refusal ?_
  walk_at "y"
  refine check_bad F m hj hl fun d H1 F1 => ?_
  clear F
  walk_at "y"
  exact k _ _ (FH.sel (by assumption) (by walk_at "y sel"))
theorem refusal_no {a : Cl} {H : Hp} {L : List Ent} {v : V} {Q : VK} {E : XK} (F : FH H L) (o : NoRow L v) (k : ∀ t H', FH H' ((t, Is (.tup [.str "words", .int 0])) :: L) → Q (.ref t) H') : sp_refusal a [v] H Q E := by
  refine in_refusal ?_
  walk_at "y"
  refine check_no F o fun d H1 F1 => ?_
  clear F
  walk_at "y"
  exact k _ _ (FH.sel (by assumption) (by walk_at "y sel"))
theorem odd_ok {a : Cl} {H : Hp} {L : List Ent} {p : Addr} {Q : VK} {E : XK} (F : FH H L) (m : (p, Purse) ∈ L) (k : ∀ v X H', Odd X v → FH H' (X ++ L) → Q v H') : sp_odd a [.ref p] H Q E := by
  refine in_odd ?_
  repeat' walk_at "y 1"
  refine draw_ok F m (by decide) (by decide) fun r H1 h0 h1 F1 => ?_
  have mm : Mm (p, Purse) L := ⟨m⟩
  clear F
  rcases (by omega : r = 0 ∨ r = 1 ∨ r = 2 ∨ r = 3 ∨ r = 4 ∨ r = 5 ∨ r = 6 ∨ r = 7 ∨ r = 8 ∨ r = 9 ∨ r = 10 ∨ r = 11) with rfl | rfl | rfl | rfl | rfl | rfl | rfl | rfl | rfl | rfl | rfl | rfl
  all_goals walk_at "y"
  · exact k _ [] _ (.int _ (by decide)) (FH.sub (by assumption) (by walk_at "y sub"))
  · exact k _ [] _ (.int _ (by decide)) (FH.sub (by assumption) (by walk_at "y sub"))
  · exact k _ [] _ (.bl _) (FH.sub (by assumption) (by walk_at "y sub"))
  · exact k _ [] _ (.bl _) (FH.sub (by assumption) (by walk_at "y sub"))
  · exact k _ [] _ .non (FH.sub (by assumption) (by walk_at "y sub"))
  · exact k _ [] _ (.str _) (FH.sub (by assumption) (by walk_at "y sub"))
  · exact k _ [] _ (.str _) (FH.sub (by assumption) (by walk_at "y sub"))
  · exact k _ [(_, _)] _ (.tup _ _ (List.Mem.head _)) (FH.sel (by assumption) (by walk_at "y sel"))
  · exact k _ [(_, _)] _ (.lst _ _ (List.Mem.head _)) (FH.sel (by assumption) (by walk_at "y sel"))
  · exact k _ [(_, _)] _ (.dct _ _ (List.Mem.head _)) (FH.sel (by assumption) (by walk_at "y sel"))
  · exact k _ [] _ (.int _ (by omega)) (by assumption)
  · exact k _ [] _ (.int _ (by omega)) (by assumption)

end
section
local macro_rules | `(tactic| walk_at "y spec") => `(tactic| first
  | ((with_reducible refine' draw_ok ?F ?m ?hn ?hn2 ?_); (case F => assumption); (case m => walk_at "y mem"); (case hn => first | omega | (dsimp only; omega) | exact Int.emod_nonneg _ (by omega) | exact Int.emod_lt_of_pos _ (by omega)); (case hn2 => first | omega | (dsimp only; omega) | exact Int.emod_nonneg _ (by omega) | exact Int.emod_lt_of_pos _ (by omega)); intro _ _ _ _ _)
  | ((with_reducible refine whole_ok ?_))
  | ((with_reducible refine range_ok ?_))
  | ((with_reducible refine is_ok ?_))
  | ((with_reducible refine' is_word_ok ?h ?_); (case h => first | omega | (dsimp only; omega) | exact Int.emod_nonneg _ (by omega) | exact Int.emod_lt_of_pos _ (by omega)))
  | ((with_reducible refine' number_ok ?F ?m ?hn ?_); (case F => assumption); (case m => walk_at "y mem"); (case hn => first | omega | (dsimp only; omega) | exact Int.emod_nonneg _ (by omega) | exact Int.emod_lt_of_pos _ (by omega)); intro _ _ _ _))

def Mix (X : List Ent) (vs : List V) : Prop := ∀ v ∈ vs, (∃ n : Int, v = .int n ∧ 0 ≤ n ∧ n ≤ 65535) ∨ Odd X v
theorem refuses_ok {a : Cl} {H : Hp} {L : List Ent} {p w : Addr} {ns : List Int} {Q : VK} {E : XK} (F : FH H L) (mp : (p, Purse) ∈ L) (mw : (w, Is (.lst (ns.map V.int))) ∈ L) (hw : Ws ns) (k : ∀ H', FH H' L → Q (.bl true) H') : sp_refuses a [.ref p, .ref w] H Q E := by
  have mm : Mm (p, Purse) L := ⟨mp⟩
  have mm2 : Mm (w, Is (.lst (ns.map V.int))) L := ⟨mw⟩
  have hl := hw.2
  refine in_refuses ?_
  walk_at "y"
  rename_i sp H1 _ F1 n H2 h0 h1 F2
  clear F F1 mm mm2
  refine forG (fun i σ H => (∃ y3, σ = [some (.ref p), some (.ref w), some (.ref sp), y3, none, none]) ∧ ∃ (X : List Ent) (vs : List V), Mix X vs ∧ (i ≠ 0 → ∃ v ∈ vs, Odd X v) ∧ vs.length ≤ 65535 + i ∧ FH H ((sp, Is (.lst vs)) :: (X ++ L))) (by omega) (by omega) ⟨⟨_, rfl⟩, [], ns.map V.int, ?_, fun h => absurd rfl h, by rw [List.length_map]; omega, F2⟩ ?_ ?_
  · intro v hv
    obtain ⟨z, hz, rfl⟩ := List.mem_map.mp hv
    exact .inl ⟨z, rfl, hw.1 z hz⟩
  · clear F2
    intro i σ H hi ⟨⟨y3, e⟩, X, vs, hm, ho, hvl, F⟩
    subst e
    walk_at "y"
    refine draw_ok F (.tail _ (List.mem_append_right _ mp)) (by omega) (by omega) fun r H3 r0 r1 F3 => ?_
    clear F
    walk_at "y"
    refine odd_ok F3 (.tail _ (List.mem_append_right _ mp)) fun v X1 H4 hv F4 => ?_
    clear F3
    have F5 : FH H4 ((sp, Is (.lst vs)) :: ((X1 ++ X) ++ L)) := F4.perm (by rw [List.append_assoc]; exact List.perm_middle)
    clear F4
    walk_at "y"
    refine x_insL F5 .here (by omega) r0 (by omega) fun H6 F6 => ?_
    clear F5
    walk_at "y"
    have ov : Odd (X1 ++ X) v := hv.sub fun x hx => List.mem_append_left _ hx
    refine ⟨⟨_, rfl⟩, X1 ++ X, _, ?_, fun _ => ⟨v, ?_, ov⟩, ?_, F6⟩
    · intro u hu
      rcases List.mem_append.mp hu with hu | hu
      · rcases List.mem_append.mp hu with hu | hu
        · exact (hm u (List.mem_of_mem_take hu)).imp id fun o => o.sub fun x hx => List.mem_append_right _ hx
        · have e : u = v := by simpa using hu
          rw [e]
          exact .inr ov
      · exact (hm u (List.mem_of_mem_drop hu)).imp id fun o => o.sub fun x hx => List.mem_append_right _ hx
    · simp
    · rw [List.length_append, List.length_append, List.length_take, List.length_drop, List.length_singleton]
      omega
  · clear F2
    intro σ H ⟨⟨y3, e⟩, X, vs, hm, ho, hvl, F⟩
    subst e
    obtain ⟨j, hj⟩ := first_ex hm (ho (by omega))
    have hjL : FirstOdd ((sp, Is (.lst vs)) :: (X ++ L)) vs j := hj.sub fun x hx => .tail _ (List.mem_append_left _ hx)
    obtain ⟨⟨v, hv, hov⟩, hwd⟩ := id hjL
    have hjl : j < vs.length := (List.getElem?_eq_some_iff.mp hv).1
    walk_at "y"
    refine whileG (fun m σ H => ∃ s : Nat, s ≤ j ∧ m = j - s ∧ σ = [some (.ref p), some (.ref w), some (.ref sp), y3, some (.int (s : Int)), none] ∧ FH H ((sp, Is (.lst vs)) :: (X ++ L))) _ ⟨0, Nat.zero_le _, rfl, rfl, F⟩ ?_
    clear F
    intro m σ H ⟨s, hs, em, e, F⟩
    subst e
    by_cases hsj : s = j
    · subst hsj
      have ha : atI vs (s : Int) = some v := atI_at (j := s) rfl hv
      walk_at "y"
      · refine is_word_odd F hov ?_
        walk_at "y"
        refine draw_ok F (.tail _ (List.mem_append_right _ mp)) (by decide) (by decide) fun r H3 r0 r1 F3 => ?_
        clear F
        walk_at "y"
        refine form_ok F3 (List.Mem.head _) fun r o H6 hr F6 => ?_
        clear F3
        walk_at "y"
        refine refusal_bad F6 (p := r) (vs := vs) (j := s) (by rcases hr with rfl | rfl; exact .inl (List.Mem.head _); exact .inr (List.Mem.head _)) (hjL.sub fun x hx => .tail _ hx) (by omega) fun t H7 F7 => ?_
        clear F6
        have F8 : FH H7 ((t, Is (.tup [.str "words", .int (s : Int)])) :: L) := F7.sub (by
          refine .cons₂ _ ?_
          exact .cons _ (.cons _ (List.sublist_append_right _ _)))
        clear F7
        have mm : Mm (p, Purse) L := ⟨mp⟩
        walk_at "y"
        rename_i dk H8 F9 ls H9 _ F10 z H10 z0 z1 F11
        clear F8 F9 F10
        have fin : ∀ t' H', FH H' ((t', Is (.tup [.str "words", .int 0])) :: ((ls, Is (.lst [.non, .int 5, .bl true, .str "", .str "ab", .ref dk, .int 65537])) :: (dk, Is (.dK [])) :: (t, Is (.tup [.str "words", .int (s : Int)])) :: L)) → FH H' L := fun t' H' F => FH.sub F (by walk_at "y sub")
        rcases (by omega : z = 0 ∨ z = 1 ∨ z = 2 ∨ z = 3 ∨ z = 4 ∨ z = 5 ∨ z = 6) with rfl | rfl | rfl | rfl | rfl | rfl | rfl
        all_goals
          walk_at "y"
          refine refusal_no F11 (by first | exact .non | exact .int _ | exact .bl _ | exact .str _ | exact .dct _ _ (.tail _ (List.Mem.head _))) fun t' H' F' => ?_
          have F'' := fin _ _ F'
          walk_at "y"
          exact k _ F''
    · obtain ⟨z, hz, hz0, hz1⟩ := hwd s (by omega)
      have ha : atI vs (s : Int) = some (.int z) := atI_at (j := s) rfl hz
      walk_at "y"
      exact ⟨_, by omega, s + 1, by omega, rfl, rfl, F⟩

end
section
local macro_rules | `(tactic| walk_at "y spec") => `(tactic| first
  | ((with_reducible refine' draw_ok ?F ?m ?hn ?hn2 ?_); (case F => assumption); (case m => walk_at "y mem"); (case hn => first | omega | (dsimp only; omega) | exact Int.emod_nonneg _ (by omega) | exact Int.emod_lt_of_pos _ (by omega)); (case hn2 => first | omega | (dsimp only; omega) | exact Int.emod_nonneg _ (by omega) | exact Int.emod_lt_of_pos _ (by omega)); intro _ _ _ _ _)
  | ((with_reducible refine whole_ok ?_))
  | ((with_reducible refine range_ok ?_))
  | ((with_reducible refine is_ok ?_))
  | ((with_reducible refine' is_word_ok ?h ?_); (case h => first | omega | (dsimp only; omega) | exact Int.emod_nonneg _ (by omega) | exact Int.emod_lt_of_pos _ (by omega)))
  | ((with_reducible refine' number_ok ?F ?m ?hn ?_); (case F => assumption); (case m => walk_at "y mem"); (case hn => first | omega | (dsimp only; omega) | exact Int.emod_nonneg _ (by omega) | exact Int.emod_lt_of_pos _ (by omega)); intro _ _ _ _))

theorem law_ok {a : Cl} {H : Hp} {q : Addr} {ns : List Int} {L : List Ent} {Q : VK} {E : XK} (F : FH H L) (m : Src a.S L q (ns.map V.int)) (hl : ns.length ≤ 63) (k : ∀ H', Q (.bl true) H') : sp_law a [.ref q] H Q E := by
  refine in_law ?_
  walk_at "y"
  refine purse_ok F m hl fun p H1 F1 => ?_
  clear F
  walk_at "y"
  refine seq_ok F1 (List.Mem.head _) fun w ms H2 hw F2 => ?_
  clear F1
  walk_at "y"
  refine sum_ok F2 (List.Mem.head _) hw fun H3 F3 => ?_
  clear F2
  walk_at "y"
  rename_i hd H4 _ F4 _
  clear F3
  refine check_ok F4 (p := hd) (.inl (List.Mem.head _)) hw fun H5 F5 => ?_
  clear F4
  walk_at "y"
  refine changes_ok F5 (.tail _ (.tail _ (List.Mem.head _))) (.tail _ (List.Mem.head _)) hw fun H6 F6 => ?_
  clear F5
  walk_at "y"
  refine refuses_ok F6 (.tail _ (.tail _ (List.Mem.head _))) (.tail _ (List.Mem.head _)) hw fun H7 F7 => ?_
  clear F6
  walk_at "y"
  rename_i tp H8 _ F8
  clear F7
  refine check_ok F8 (p := tp) (.inr (List.Mem.head _)) hw fun H9 F9 => ?_
  clear F8
  walk_at "y"
  refine check_ok F9 (p := hd) (.inl (.tail _ (List.Mem.head _))) hw fun H10 F10 => ?_
  clear F9
  walk_at "y"
  exact k _
theorem law_holds (a : Cl) {K : PySem.W.Frag} (st : a.S = SK K) (vs : List V) (H : Hp) (Q : VK) (E : XK) (h : ∃ (p : Addr) (ns : List Int), vs = [.ref p] ∧ SqL K H p (ns.map V.int) ∧ ns.length ≤ 63 ∧ Only H ∧ ∀ H', Q (.bl true) H') : sp_law a vs H Q E := by
  obtain ⟨p, ns, rfl, hS, hl, hO, k⟩ := h
  obtain ⟨L, F, m⟩ := src_of st hS
  exact law_ok F m hl k

end
/-! ### the text, by places -/
abbrev top (i : Nat) : Stmt := PySem.Challenge.pw_lossway_k03_sum_tells_changes.main.body.getD i (.Pass ⟨0, 0, 0, 0⟩)
structure Ad extends Cl where
  f_purse : Addr
  d_purse : FuncData
  f_draw : Addr
  d_draw : FuncData
  f_word : Addr
  d_word : FuncData
  f_sequence : Addr
  d_sequence : FuncData
  f_sum : Addr
  d_sum : FuncData
  f_is : Addr
  d_is : FuncData
  f_is_row : Addr
  d_is_row : FuncData
  f_is_whole : Addr
  d_is_whole : FuncData
  f_in_range : Addr
  d_in_range : FuncData
  f_demand_words : Addr
  d_demand_words : FuncData
  f_check_sum : Addr
  d_check_sum : FuncData
  f_form : Addr
  d_form : FuncData
  f_changes : Addr
  d_changes : FuncData
  f_number : Addr
  d_number : FuncData
  f_odd : Addr
  d_odd : FuncData
  f_is_word : Addr
  d_is_word : FuncData
  f_refusal : Addr
  d_refusal : FuncData
  f_refuses : Addr
  d_refuses : FuncData
  f_law : Addr
  d_law : FuncData
  f_InvalidWords___init__ : Addr
  d_InvalidWords___init__ : FuncData
structure Txt (P : Program) (K : PySem.W.Frag) (mg : Str → Option Value) (a : Ad) : Prop where
  st : a.S = SK K
  no_int : mg "int" = none
  mg_purse : mg "_law_purse" = some (.ref a.f_purse)
  bd_purse : Binds K a.d_purse ["_law_script"] []
  fn_purse : Fun K "_law_purse" "_law_purse" (top 14) a.f_purse a.d_purse
  no_len : mg "len" = none
  mg_draw : mg "_law_draw" = some (.ref a.f_draw)
  bd_draw : Binds K a.d_draw ["_law_purse_here", "_law_many"] []
  fn_draw : Fun K "_law_draw" "_law_draw" (top 15) a.f_draw a.d_draw
  mg_word : mg "_law_word" = some (.ref a.f_word)
  bd_word : Binds K a.d_word ["_law_purse_here"] []
  fn_word : Fun K "_law_word" "_law_word" (top 18) a.f_word a.d_word
  no_range : mg "range" = none
  mg_sequence : mg "_law_sequence" = some (.ref a.f_sequence)
  bd_sequence : Binds K a.d_sequence ["_law_purse_here"] []
  fn_sequence : Fun K "_law_sequence" "_law_sequence" (top 22) a.f_sequence a.d_sequence
  mg_sum : mg "_law_sum" = some (.ref a.f_sum)
  bd_sum : Binds K a.d_sum ["_law_words"] []
  fn_sum : Fun K "_law_sum" "_law_sum" (top 20) a.f_sum a.d_sum
  no_list : mg "list" = none
  no_isinstance : mg "isinstance" = none
  no_bool : mg "bool" = none
  mg_is : mg "_law_is" = some (.ref a.f_is)
  bd_is : Binds K a.d_is ["_law_actual", "_law_wanted"] []
  mg_PRIME : ∃ t, mg "PRIME" = some (.int 65537 t)
  fn_is : Fun K "_law_is" "_law_is" (top 17) a.f_is a.d_is
  no_tuple : mg "tuple" = none
  mg_is_row : mg "is_row" = some (.ref a.f_is_row)
  bd_is_row : Binds K a.d_is_row ["value"] []
  fn_is_row : Fun K "is_row" "is_row" (top 7) a.f_is_row a.d_is_row
  oe_InvalidWords : OexC K a.c_InvalidWords
  ii_InvalidWords_InvalidWords : PySem.W.findIn K (.ref a.c_InvalidWords) "__init__" = some (some (.ref a.f_InvalidWords___init__))
  it_InvalidWords : PySem.W.typeIn K (.ref a.f_InvalidWords___init__) = some (.type "function")
  mg_InvalidWords : mg "InvalidWords" = some (.ref a.c_InvalidWords)
  be_InvalidWords : Binds K a.d_InvalidWords___init__ ["self", "place"] []
  no_enumerate : mg "enumerate" = none
  mg_is_whole : mg "is_whole" = some (.ref a.f_is_whole)
  bd_is_whole : Binds K a.d_is_whole ["value"] []
  fn_is_whole : Fun K "is_whole" "is_whole" (top 6) a.f_is_whole a.d_is_whole
  mg_in_range : mg "in_range" = some (.ref a.f_in_range)
  bd_in_range : Binds K a.d_in_range ["value", "low", "high"] []
  mg_GREATEST_WORD : ∃ t, mg "GREATEST_WORD" = some (.int 65535 t)
  fn_in_range : Fun K "in_range" "in_range" (top 8) a.f_in_range a.d_in_range
  mg_demand_words : mg "demand_words" = some (.ref a.f_demand_words)
  bd_demand_words : Binds K a.d_demand_words ["words"] []
  fn_demand_words : Fun K "demand_words" "demand_words" (top 11) a.f_demand_words a.d_demand_words
  mg_check_sum : mg "check_sum" = some (.ref a.f_check_sum)
  bd_check_sum : Binds K a.d_check_sum ["words"] []
  fn_check_sum : Fun K "check_sum" "check_sum" (top 12) a.f_check_sum a.d_check_sum
  mg_form : mg "_law_form" = some (.ref a.f_form)
  bd_form : Binds K a.d_form ["_law_way", "_law_values"] []
  fn_form : Fun K "_law_form" "_law_form" (top 21) a.f_form a.d_form
  mg_changes : mg "_law_changes" = some (.ref a.f_changes)
  bd_changes : Binds K a.d_changes ["_law_purse_here", "_law_words", "_law_amount"] []
  fn_changes : Fun K "_law_changes" "_law_changes" (top 26) a.f_changes a.d_changes
  no_min : mg "min" = none
  no_max : mg "max" = none
  mg_number : mg "_law_number" = some (.ref a.f_number)
  bd_number : Binds K a.d_number ["_law_purse_here", "_law_most"] []
  fn_number : Fun K "_law_number" "_law_number" (top 16) a.f_number a.d_number
  mg_odd : mg "_law_odd" = some (.ref a.f_odd)
  bd_odd : Binds K a.d_odd ["_law_purse_here"] []
  fn_odd : Fun K "_law_odd" "_law_odd" (top 23) a.f_odd a.d_odd
  mg_is_word : mg "_law_is_word" = some (.ref a.f_is_word)
  bd_is_word : Binds K a.d_is_word ["_law_value"] []
  fn_is_word : Fun K "_law_is_word" "_law_is_word" (top 19) a.f_is_word a.d_is_word
  ex_InvalidWords_InvalidWords : PySem.W.exmOne K (.ref a.c_InvalidWords) (.ref a.c_InvalidWords) = some true
  is_InvalidWords_WrongSum : IsOk K (.ref a.c_InvalidWords) (.ref a.c_WrongSum) false
  mg_WrongSum : mg "WrongSum" = some (.ref a.c_WrongSum)
  xf_InvalidWords_place : XfOk K a.c_InvalidWords "place"
  mg_LossError : mg "LossError" = some (.ref a.c_LossError)
  mg_refusal : mg "_law_refusal" = some (.ref a.f_refusal)
  bd_refusal : Binds K a.d_refusal ["_law_words"] []
  fn_refusal : Fun K "_law_refusal" "_law_refusal" (top 24) a.f_refusal a.d_refusal
  mg_refuses : mg "_law_refuses" = some (.ref a.f_refuses)
  bd_refuses : Binds K a.d_refuses ["_law_purse_here", "_law_words"] []
  fn_refuses : Fun K "_law_refuses" "_law_refuses" (top 25) a.f_refuses a.d_refuses
  fn_law : Fun K "law" "law" (top 27) a.f_law a.d_law
  bd_law : Binds K a.d_law ["_law_script"] []
  mg_law : mg "law" = some (.ref a.f_law)
  fs_InvalidWords : FunS P K "__init__" "InvalidWords.__init__" (inClass (top 2) 0) a.f_InvalidWords___init__ a.d_InvalidWords___init__ a.c_InvalidWords
  sv_InvalidWords_InvalidWords : SupV K a.c_InvalidWords a.c_InvalidWords
  nf_InvalidWords_place : PySem.W.findIn K (.ref a.c_InvalidWords) "place" = some none
  no_super : mg "super" = none
  sup_top : (P.main.scope.names.lookup ("super" : Str)).isSome = false
section
variable {P : Program} {w : World} {K : PySem.W.Frag} {mg : Str → Option Value} {base : Heap} {a : Ad}
theorem se_InvalidWords : FnScS ["self", "place"] ["self", "place"] (defScope (inClass (top 2) 0)) := ⟨rfl, rfl, rfl, by decide +kernel, rfl, by decide +kernel, by decide +kernel, by decide +kernel⟩
theorem ok_InvalidWords___init__ (T : Txt P K mg a) : FnOk P w K mg base (L2.CX P w) 1 a.f_InvalidWords___init__ a.d_InvalidWords___init__ ["self", "place"] (spExF [a.c_InvalidWords] ["place"]) :=
  T.fs_InvalidWords.ok se_InvalidWords rfl rfl rfl rfl rfl T.sup_top T.no_super (fun vs H Q E q => show vs.length = 2 from spExF_len (fs := ["place"]) vs H Q E q) fun cdv cc A outer s H vs Q E hr T1 q =>
    ⟨_, pssa_cons (psa_supV T1 (pa_cons (pe_joined (.cons pe_str (.cons (pe_fmt (pv 1)) .nil))) pa_nil)) (pssa_one (psa_of (ps_ost (pv 0) (pv 1)))), exF (ts := [(tC (.str "the words are wrong at index ")), (tFmt (tVar 1))]) (by decide) (fun a x H hx => (all_cons (short_c (by decide)) (all_cons (short_f rfl hx) all_nil))) (all_cons (p := fun C => SupV K C a.c_InvalidWords ∧ PySem.W.findIn K (.ref C) "place" = some none) ⟨T.sv_InvalidWords_InvalidWords, T.nf_InvalidWords_place⟩ (all_nil)) q⟩
abbrev nm_purse : List Str := ["_law_script", "_law_cells", "_law_one", "_law_seed", "_law_cell"]
theorem sc_purse : FnScope nm_purse ["_law_script"] (defScope (top 14)) := ⟨rfl, rfl, rfl, by decide +kernel, rfl, by decide +kernel, by decide +kernel⟩
theorem ok_purse (T : Txt P K mg a) : FnOk P w K mg base (L2.CX P w) 1 a.f_purse a.d_purse ["_law_script"] (sp_purse a.toCl) := by
  refine ok_body T.fn_purse sc_purse rfl rfl fun cdv A outer s H E hr => ?_
  exact (pss_cons (ps_lcSeq (i := 1) (own := [("_law_one", 2)]) T.st rfl sc_purse.nd rfl rfl (sw_true rfl rfl rfl (by decide +kernel)) (pe_slice (o_sl T.st) (pv 0) po_none (po_some pe_int)) (blkOk_by (own := [("_law_one", 2)]) (N := nm_purse) (sc := defScope (top 14)) (by decide +kernel)) ⟨fun _ _ _ _ _ => (pg_name (i := 2) sc_purse.nd rfl (by first | exact Or.inl rfl | exact Or.inr rfl)), fun _ _ _ _ _ => pts_nil, fun _ _ _ _ _ => (pe_ifExp (pt_cmpR o_ge (pv 2) pe_int (nomark _)) (pv 2) (pe_op o_sub (pe_un o_neg pe_int) (pv 2)))⟩)
    (pss_cons (ps_set (i := 3) sc_purse.nd rfl (by first | exact Or.inl rfl | exact Or.inr rfl) pe_int)
    (pss_cons (ps_forSeq T.st (passes_of rfl) rfl (pv 1) (pg_name (i := 4) sc_purse.nd rfl (by first | exact Or.inl rfl | exact Or.inr rfl)) (pss_one (ps_set (i := 3) sc_purse.nd rfl (by first | exact Or.inl rfl | exact Or.inr rfl) (pe_op o_mod (pe_callTy c_int (by rfl) T.no_int (by decide +kernel) (pa_cons (pe_op o_add (pe_op o_add (pe_op o_mul (pv 3) pe_int) (pv 4)) pe_int) pa_nil)) pe_int))))
    (pss_one (ps_ret (pe_lst (pa_cons (pv 1) (pa_cons pe_int (pa_cons pe_int (pa_cons pe_int (pa_cons (pv 3) pa_nil)))))))))))
abbrev nm_draw : List Str := ["_law_purse_here", "_law_many", "_law_digit", "_law_amount", "_law_blend"]
theorem sc_draw : FnScope nm_draw ["_law_purse_here", "_law_many"] (defScope (top 15)) := ⟨rfl, rfl, rfl, by decide +kernel, rfl, by decide +kernel, by decide +kernel⟩
theorem ok_draw (T : Txt P K mg a) : FnOk P w K mg base (L2.CX P w) 1 a.f_draw a.d_draw ["_law_purse_here", "_law_many"] (sp_draw a.toCl) := by
  refine ok_body T.fn_draw sc_draw rfl rfl fun cdv A outer s H E hr => ?_
  exact (pss_cons (ps_if (PW.pt (pw_and (pt_cmpR (o_eqP T.st hr.units) (pe_ix (o_ix T.st) (pv 0) pe_int (fun _ _ => rfl)) pe_int (nomark _)) (pw_and (pt_cmpR o_lt (pe_ix (o_ix T.st) (pv 0) pe_int (fun _ _ => rfl)) (pe_callB (c_len T.st) (by rfl) T.no_len (by decide +kernel) (pa_cons (pe_ix (o_ix T.st) (pv 0) pe_int (fun _ _ => rfl)) pa_nil)) (nomark _)) (pw_and1 (pt_cmpR o_ge (pe_ix (o_ix T.st) (pe_ix (o_ix T.st) (pv 0) pe_int (fun _ _ => rfl)) (pe_ix (o_ix T.st) (pv 0) pe_int (fun _ _ => rfl)) (fun _ _ => rfl)) (pe_op o_pow pe_int pe_int) (nomark _)))))) (pss_cons (ps_asg (pe_ix (o_ix T.st) (pe_ix (o_ix T.st) (pv 0) pe_int (fun _ _ => rfl)) (pe_ix (o_ix T.st) (pv 0) pe_int (fun _ _ => rfl)) (fun _ _ => rfl)) (pg_sub (pv 0) pe_int set_list))
    (pss_one (ps_asg (pe_op o_add (pe_ix (o_ix T.st) (pv 0) pe_int (fun _ _ => rfl)) pe_int) (pg_sub (pv 0) pe_int set_list)))) pss_nil)
    (pss_cons (ps_if (pt_cmpR o_gt (pe_ix (o_ix T.st) (pv 0) pe_int (fun _ _ => rfl)) pe_int (nomark _)) (pss_cons (ps_set (i := 2) sc_draw.nd rfl (by first | exact Or.inl rfl | exact Or.inr rfl) (pe_op o_mod (pe_callTy c_int (by rfl) T.no_int (by decide +kernel) (pa_cons (pe_ix (o_ix T.st) (pv 0) pe_int (fun _ _ => rfl)) pa_nil)) (pv 1)))
    (pss_cons (ps_asg (pe_op o_fdiv (pe_ix (o_ix T.st) (pv 0) pe_int (fun _ _ => rfl)) (pv 1)) (pg_sub (pv 0) pe_int set_list))
    (pss_one (ps_ret (pv 2))))) pss_nil)
    (pss_cons (ps_set (i := 3) sc_draw.nd rfl (by first | exact Or.inl rfl | exact Or.inr rfl) (pe_ix (o_ix T.st) (pv 0) pe_int (fun _ _ => rfl)))
    (pss_cons (ps_if (pt_cmpR o_lt (pe_ix (o_ix T.st) (pv 0) pe_int (fun _ _ => rfl)) (pe_callB (c_len T.st) (by rfl) T.no_len (by decide +kernel) (pa_cons (pe_ix (o_ix T.st) (pv 0) pe_int (fun _ _ => rfl)) pa_nil)) (nomark _)) (pss_cons (ps_set (i := 3) sc_draw.nd rfl (by first | exact Or.inl rfl | exact Or.inr rfl) (pe_ix (o_ix T.st) (pe_ix (o_ix T.st) (pv 0) pe_int (fun _ _ => rfl)) (pe_ix (o_ix T.st) (pv 0) pe_int (fun _ _ => rfl)) (fun _ _ => rfl)))
    (pss_one (ps_asg (pe_op o_add (pe_ix (o_ix T.st) (pv 0) pe_int (fun _ _ => rfl)) pe_int) (pg_sub (pv 0) pe_int set_list)))) pss_nil)
    (pss_cons (ps_asg (pe_op o_add (pe_ix (o_ix T.st) (pv 0) pe_int (fun _ _ => rfl)) pe_int) (pg_sub (pv 0) pe_int set_list))
    (pss_cons (ps_set (i := 4) sc_draw.nd rfl (by first | exact Or.inl rfl | exact Or.inr rfl) (pe_op o_mod (pe_callTy c_int (by rfl) T.no_int (by decide +kernel) (pa_cons (pe_op o_add (pe_op o_mul (pv 3) pe_int) (pe_op o_mul (pe_ix (o_ix T.st) (pv 0) pe_int (fun _ _ => rfl)) (pe_op o_add pe_int (pe_op o_mul pe_int (pe_ix (o_ix T.st) (pv 0) pe_int (fun _ _ => rfl)))))) pa_nil)) pe_int))
    (pss_cons (ps_set (i := 4) sc_draw.nd rfl (by first | exact Or.inl rfl | exact Or.inr rfl) (pe_op o_mod (pe_callTy c_int (by rfl) T.no_int (by decide +kernel) (pa_cons (pe_op o_add (pe_op o_mul (pv 4) (pe_op o_add pe_int (pe_op o_fdiv (pv 4) pe_int))) (pe_op o_mul (pe_ix (o_ix T.st) (pv 0) pe_int (fun _ _ => rfl)) (pe_ix (o_ix T.st) (pv 0) pe_int (fun _ _ => rfl)))) pa_nil)) pe_int))
    (pss_one (ps_ret (pe_op o_mod (pe_callTy c_int (by rfl) T.no_int (by decide +kernel) (pa_cons (pe_op o_fdiv (pv 4) pe_int) pa_nil)) (pv 1)))))))))))
abbrev nm_word : List Str := ["_law_purse_here", "_law_way"]
theorem sc_word : FnScope nm_word ["_law_purse_here"] (defScope (top 18)) := ⟨rfl, rfl, rfl, by decide +kernel, rfl, by decide +kernel, by decide +kernel⟩
theorem ok_word (T : Txt P K mg a) : FnOk P w K mg base (L2.CX P w) 2 a.f_word a.d_word ["_law_purse_here"] (sp_word a.toCl) := by
  refine ok_body T.fn_word sc_word rfl rfl fun cdv A outer s H E hr => ?_
  exact (pss_cons (ps_set (i := 1) sc_word.nd rfl (by first | exact Or.inl rfl | exact Or.inr rfl) (pe_call (ok_draw T) (hr.mono (by decide)) rfl T.mg_draw (T.fn_draw).kp T.bd_draw .nil passE (pa_cons (pv 0) (pa_cons pe_int pa_nil))))
    (pss_cons (ps_if (pt_cmpR (o_eqP T.st hr.units) (pv 1) pe_int (nomark _)) (pss_one (ps_ret (pe_op o_sub pe_int (pe_call (ok_draw T) (hr.mono (by decide)) rfl T.mg_draw (T.fn_draw).kp T.bd_draw .nil passE (pa_cons (pv 0) (pa_cons pe_int pa_nil)))))) pss_nil)
    (pss_cons (ps_if (pt_cmpR (o_eqP T.st hr.units) (pv 1) pe_int (nomark _)) (pss_one (ps_ret (pe_call (ok_draw T) (hr.mono (by decide)) rfl T.mg_draw (T.fn_draw).kp T.bd_draw .nil passE (pa_cons (pv 0) (pa_cons pe_int pa_nil))))) pss_nil)
    (pss_one (ps_ret (pe_call (ok_draw T) (hr.mono (by decide)) rfl T.mg_draw (T.fn_draw).kp T.bd_draw .nil passE (pa_cons (pv 0) (pa_cons pe_int pa_nil))))))))
abbrev nm_sequence : List Str := ["_law_purse_here", "_law_way", "_law_start", "_law_stride", "_law_k", "_law_many", "_law_words"]
theorem sc_sequence : FnScope nm_sequence ["_law_purse_here"] (defScope (top 22)) := ⟨rfl, rfl, rfl, by decide +kernel, rfl, by decide +kernel, by decide +kernel⟩
theorem ok_sequence (T : Txt P K mg a) : FnOk P w K mg base (L2.CX P w) 3 a.f_sequence a.d_sequence ["_law_purse_here"] (sp_sequence a.toCl) := by
  refine ok_body T.fn_sequence sc_sequence rfl rfl fun cdv A outer s H E hr => ?_
  exact (pss_cons (ps_set (i := 1) sc_sequence.nd rfl (by first | exact Or.inl rfl | exact Or.inr rfl) (pe_call (ok_draw T) (hr.mono (by decide)) rfl T.mg_draw (T.fn_draw).kp T.bd_draw .nil passE (pa_cons (pv 0) (pa_cons pe_int pa_nil))))
    (pss_cons (ps_if (pt_cmpR (o_eqP T.st hr.units) (pv 1) pe_int (nomark _)) (pss_cons (ps_set (i := 2) sc_sequence.nd rfl (by first | exact Or.inl rfl | exact Or.inr rfl) (pe_call (ok_word T) (hr.mono (by decide)) rfl T.mg_word (T.fn_word).kp T.bd_word .nil passE (pa_cons (pv 0) pa_nil)))
    (pss_cons (ps_set (i := 3) sc_sequence.nd rfl (by first | exact Or.inl rfl | exact Or.inr rfl) (pe_call (ok_word T) (hr.mono (by decide)) rfl T.mg_word (T.fn_word).kp T.bd_word .nil passE (pa_cons (pv 0) pa_nil)))
    (pss_one (ps_ret (pe_lcR1 (own := [("_law_k", 4)]) rfl sc_sequence.nd rfl T.no_range (pe_op o_add pe_int (pe_call (ok_draw T) (hr.mono (by decide)) rfl T.mg_draw (T.fn_draw).kp T.bd_draw .nil passE (pa_cons (pv 0) (pa_cons pe_int pa_nil)))) (blkOk_by (own := [("_law_k", 4)]) (N := nm_sequence) (sc := defScope (top 22)) (by decide +kernel)) ⟨fun _ _ _ _ _ => (pg_name (i := 4) sc_sequence.nd rfl (by first | exact Or.inl rfl | exact Or.inr rfl)), fun _ _ _ _ _ => pts_nil, fun _ _ _ _ _ => (pe_op o_mod (pe_callTy c_int (by rfl) T.no_int (by decide +kernel) (pa_cons (pe_op o_add (pv 2) (pe_op o_mul (pv 3) (pv 4))) pa_nil)) pe_int)⟩))))) pss_nil)
    (pss_cons (ps_set (i := 5) sc_sequence.nd rfl (by first | exact Or.inl rfl | exact Or.inr rfl) (pe_op o_mod (pe_callTy c_int (by rfl) T.no_int (by decide +kernel) (pa_cons (pe_op o_add pe_int (pe_call (ok_draw T) (hr.mono (by decide)) rfl T.mg_draw (T.fn_draw).kp T.bd_draw .nil passE (pa_cons (pv 0) (pa_cons pe_int pa_nil)))) pa_nil)) pe_int))
    (pss_cons (ps_if (pt_cmpR (o_eqP T.st hr.units) (pe_op o_mod (pe_callTy c_int (by rfl) T.no_int (by decide +kernel) (pa_cons (pv 1) pa_nil)) pe_int) pe_int (nomark _)) (pss_one (ps_set (i := 5) sc_sequence.nd rfl (by first | exact Or.inl rfl | exact Or.inr rfl) (pe_call (ok_draw T) (hr.mono (by decide)) rfl T.mg_draw (T.fn_draw).kp T.bd_draw .nil passE (pa_cons (pv 0) (pa_cons pe_int pa_nil))))) pss_nil)
    (pss_cons (ps_set (i := 6) sc_sequence.nd rfl (by first | exact Or.inl rfl | exact Or.inr rfl) (pe_lst pa_nil))
    (pss_cons (ps_forR1 (passes_of rfl) rfl rfl T.no_range (pv 5) (pg_name (i := 4) sc_sequence.nd rfl (by first | exact Or.inl rfl | exact Or.inr rfl)) (pss_one (ps_expr (pe_app (pv 6) (pa_cons (pe_call (ok_word T) (hr.mono (by decide)) rfl T.mg_word (T.fn_word).kp T.bd_word .nil passE (pa_cons (pv 0) pa_nil)) pa_nil)))))
    (pss_one (ps_ret (pv 6)))))))))
abbrev nm_sum : List Str := ["_law_words", "_law_amount", "_law_k"]
theorem sc_sum : FnScope nm_sum ["_law_words"] (defScope (top 20)) := ⟨rfl, rfl, rfl, by decide +kernel, rfl, by decide +kernel, by decide +kernel⟩
theorem ok_sum (T : Txt P K mg a) : FnOk P w K mg base (L2.CX P w) 1 a.f_sum a.d_sum ["_law_words"] (sp_sum a.toCl) := by
  refine ok_body T.fn_sum sc_sum rfl rfl fun cdv A outer s H E hr => ?_
  exact (pss_cons (ps_set (i := 1) sc_sum.nd rfl (by first | exact Or.inl rfl | exact Or.inr rfl) pe_int)
    (pss_cons (ps_forR1 (passes_of rfl) rfl rfl T.no_range (pe_callB (c_len T.st) (by rfl) T.no_len (by decide +kernel) (pa_cons (pv 0) pa_nil)) (pg_name (i := 2) sc_sum.nd rfl (by first | exact Or.inl rfl | exact Or.inr rfl)) (pss_one (ps_set (i := 1) sc_sum.nd rfl (by first | exact Or.inl rfl | exact Or.inr rfl) (pe_op o_add (pv 1) (pe_op o_mul (pe_ix (o_ix T.st) (pv 0) (pv 2) (fun _ _ => rfl)) (pe_op o_add (pv 2) pe_int))))))
    (pss_one (ps_ret (pe_op o_mod (pe_callTy c_int (by rfl) T.no_int (by decide +kernel) (pa_cons (pv 1) pa_nil)) pe_int)))))
abbrev nm_is : List Str := ["_law_actual", "_law_wanted"]
theorem sc_is : FnScope nm_is ["_law_actual", "_law_wanted"] (defScope (top 17)) := ⟨rfl, rfl, rfl, by decide +kernel, rfl, by decide +kernel, by decide +kernel⟩
theorem ok_is (T : Txt P K mg a) : FnOk P w K mg base (L2.CX P w) 1 a.f_is a.d_is ["_law_actual", "_law_wanted"] (sp_is a.toCl) := by
  refine ok_body T.fn_is sc_is rfl rfl fun cdv A outer s H E hr => ?_
  exact (pss_one (ps_ret (pe_and (pe_callB c_isi (by rfl) T.no_isinstance (by decide +kernel) (pa_cons (pv 0) (pa_cons (pe_bltn (v := .ty "int") (by rfl) T.no_int (by decide +kernel) rfl) pa_nil))) (pe_and (pe_not (pe_callB c_isi (by rfl) T.no_isinstance (by decide +kernel) (pa_cons (pv 0) (pa_cons (pe_bltn (v := .ty "bool") (by rfl) T.no_bool (by decide +kernel) rfl) pa_nil)))) (pe_one (pe_cmpR (o_eqP T.st hr.units) (pv 0) (pv 1) (nomark _)))))))
abbrev nm_is_row : List Str := ["value"]
theorem sc_is_row : FnScope nm_is_row ["value"] (defScope (top 7)) := ⟨rfl, rfl, rfl, by decide +kernel, rfl, by decide +kernel, by decide +kernel⟩
theorem ok_is_row (T : Txt P K mg a) : FnOk P w K mg base (L2.CX P w) 1 a.f_is_row a.d_is_row ["value"] (sp_is_row a.toCl) := by
  refine ok_body T.fn_is_row sc_is_row rfl rfl fun cdv A outer s H E hr => ?_
  exact (pss_one (ps_ret (pe_callB c_isT (by rfl) T.no_isinstance (by decide +kernel) (pa_cons (pv 0) (pa_cons (pe_tup (pa_cons (pe_bltn (v := .ty "list") (by rfl) T.no_list (by decide +kernel) rfl) (pa_cons (pe_bltn (v := .ty "tuple") (by rfl) T.no_tuple (by decide +kernel) rfl) pa_nil))) pa_nil)))))
abbrev nm_is_whole : List Str := ["value"]
theorem sc_is_whole : FnScope nm_is_whole ["value"] (defScope (top 6)) := ⟨rfl, rfl, rfl, by decide +kernel, rfl, by decide +kernel, by decide +kernel⟩
theorem ok_is_whole (T : Txt P K mg a) : FnOk P w K mg base (L2.CX P w) 1 a.f_is_whole a.d_is_whole ["value"] (sp_is_whole a.toCl) := by
  refine ok_body T.fn_is_whole sc_is_whole rfl rfl fun cdv A outer s H E hr => ?_
  exact (pss_one (ps_ret (pe_and (pe_callB c_isi (by rfl) T.no_isinstance (by decide +kernel) (pa_cons (pv 0) (pa_cons (pe_bltn (v := .ty "int") (by rfl) T.no_int (by decide +kernel) rfl) pa_nil))) (pe_one (pe_not (pe_callB c_isi (by rfl) T.no_isinstance (by decide +kernel) (pa_cons (pv 0) (pa_cons (pe_bltn (v := .ty "bool") (by rfl) T.no_bool (by decide +kernel) rfl) pa_nil))))))))
abbrev nm_in_range : List Str := ["value", "low", "high"]
theorem sc_in_range : FnScope nm_in_range ["value", "low", "high"] (defScope (top 8)) := ⟨rfl, rfl, rfl, by decide +kernel, rfl, by decide +kernel, by decide +kernel⟩
theorem ok_in_range (T : Txt P K mg a) : FnOk P w K mg base (L2.CX P w) 2 a.f_in_range a.d_in_range ["value", "low", "high"] (sp_in_range a.toCl) := by
  refine ok_body T.fn_in_range sc_in_range rfl rfl fun cdv A outer s H E hr => ?_
  exact (pss_one (ps_ret (pe_and (pe_call (ok_is_whole T) (hr.mono (by decide)) rfl T.mg_is_whole (T.fn_is_whole).kp T.bd_is_whole .nil passE (pa_cons (pv 0) pa_nil)) (pe_one (pe_chain o_le o_le (pv 1) (pv 0) (pv 2))))))
abbrev nm_demand_words : List Str := ["words", "place", "word"]
theorem sc_demand_words : FnScope nm_demand_words ["words"] (defScope (top 11)) := ⟨rfl, rfl, rfl, by decide +kernel, rfl, by decide +kernel, by decide +kernel⟩
theorem ok_demand_words (T : Txt P K mg a) : FnOk P w K mg base (L2.CX P w) 3 a.f_demand_words a.d_demand_words ["words"] (sp_demand_words a.toCl) := by
  obtain ⟨_, mg_GREATEST_WORD_⟩ := T.mg_GREATEST_WORD
  refine ok_body T.fn_demand_words sc_demand_words rfl rfl fun cdv A outer s H E hr => ?_
  exact (pss_cons (ps_if (pt_not (pt_val (pe_call (ok_is_row T) (hr.mono (by decide)) rfl T.mg_is_row (T.fn_is_row).kp T.bd_is_row .nil passE (pa_cons (pv 0) pa_nil)))) (pss_one (ps_raiseE rfl (takes_of rfl rfl rfl rfl) (pmk_exF T.oe_InvalidWords T.ii_InvalidWords_InvalidWords T.it_InvalidWords (ok_InvalidWords___init__ T) (by repeat first | exact List.Mem.head _ | apply List.Mem.tail) (by decide) (hr.mono (by decide)) T.be_InvalidWords passL rfl T.mg_InvalidWords (pa_cons pe_int pa_nil)))) pss_nil)
    (pss_one (ps_forEn T.st (passes_of rfl) rfl rfl T.no_enumerate (pv 0) (pg_name (i := 1) sc_demand_words.nd rfl (by first | exact Or.inl rfl | exact Or.inr rfl)) (pg_name (i := 2) sc_demand_words.nd rfl (by first | exact Or.inl rfl | exact Or.inr rfl)) (pss_one (ps_if (pt_not (pt_val (pe_call (ok_in_range T) (hr.mono (by decide)) rfl T.mg_in_range (T.fn_in_range).kp T.bd_in_range .nil passE (pa_cons (pv 2) (pa_cons pe_int (pa_cons (pe_constI mg_GREATEST_WORD_ rfl) pa_nil)))))) (pss_one (ps_raiseE rfl (takes_of rfl rfl rfl rfl) (pmk_exF T.oe_InvalidWords T.ii_InvalidWords_InvalidWords T.it_InvalidWords (ok_InvalidWords___init__ T) (by repeat first | exact List.Mem.head _ | apply List.Mem.tail) (by decide) (hr.mono (by decide)) T.be_InvalidWords passL rfl T.mg_InvalidWords (pa_cons (pv 1) pa_nil)))) pss_nil)))))
abbrev nm_check_sum : List Str := ["words", "total", "place", "word"]
theorem sc_check_sum : FnScope nm_check_sum ["words"] (defScope (top 12)) := ⟨rfl, rfl, rfl, by decide +kernel, rfl, by decide +kernel, by decide +kernel⟩
theorem ok_check_sum (T : Txt P K mg a) : FnOk P w K mg base (L2.CX P w) 4 a.f_check_sum a.d_check_sum ["words"] (sp_check_sum a.toCl) := by
  obtain ⟨_, mg_PRIME_⟩ := T.mg_PRIME
  refine ok_body T.fn_check_sum sc_check_sum rfl rfl fun cdv A outer s H E hr => ?_
  exact (pss_cons (ps_expr (pe_call (ok_demand_words T) (hr.mono (by decide)) rfl T.mg_demand_words (T.fn_demand_words).kp T.bd_demand_words .nil passE (pa_cons (pv 0) pa_nil)))
    (pss_cons (ps_set (i := 1) sc_check_sum.nd rfl (by first | exact Or.inl rfl | exact Or.inr rfl) pe_int)
    (pss_cons (ps_forEn T.st (passes_of rfl) rfl rfl T.no_enumerate (pv 0) (pg_name (i := 2) sc_check_sum.nd rfl (by first | exact Or.inl rfl | exact Or.inr rfl)) (pg_name (i := 3) sc_check_sum.nd rfl (by first | exact Or.inl rfl | exact Or.inr rfl)) (pss_one (ps_aug (i := 1) sc_check_sum.nd rfl (by first | exact Or.inl rfl | exact Or.inr rfl) (pe_op o_mul (pe_op o_add (pv 2) pe_int) (pv 3)) ip_addI)))
    (pss_one (ps_ret (pe_op o_mod (pv 1) (pe_constI mg_PRIME_ rfl)))))))
abbrev nm_form : List Str := ["_law_way", "_law_values"]
theorem sc_form : FnScope nm_form ["_law_way", "_law_values"] (defScope (top 21)) := ⟨rfl, rfl, rfl, by decide +kernel, rfl, by decide +kernel, by decide +kernel⟩
theorem ok_form (T : Txt P K mg a) : FnOk P w K mg base (L2.CX P w) 1 a.f_form a.d_form ["_law_way", "_law_values"] (sp_form a.toCl) := by
  refine ok_body T.fn_form sc_form rfl rfl fun cdv A outer s H E hr => ?_
  exact (pss_cons (ps_if (pt_cmpR (o_eqP T.st hr.units) (pv 0) pe_int (nomark _)) (pss_one (ps_ret (pe_callTy (c_list T.st) (by rfl) T.no_list (by decide +kernel) (pa_cons (pv 1) pa_nil)))) pss_nil)
    (pss_one (ps_ret (pe_callTy (c_tuple T.st) (by rfl) T.no_tuple (by decide +kernel) (pa_cons (pv 1) pa_nil)))))
abbrev nm_changes : List Str := ["_law_purse_here", "_law_words", "_law_amount", "_law_one", "_law_changed", "_law_told", "_law_two", "_law_turned"]
theorem sc_changes : FnScope nm_changes ["_law_purse_here", "_law_words", "_law_amount"] (defScope (top 26)) := ⟨rfl, rfl, rfl, by decide +kernel, rfl, by decide +kernel, by decide +kernel⟩
theorem ok_changes (T : Txt P K mg a) : FnOk P w K mg base (L2.CX P w) 5 a.f_changes a.d_changes ["_law_purse_here", "_law_words", "_law_amount"] (sp_changes a.toCl) := by
  refine ok_body T.fn_changes sc_changes rfl rfl fun cdv A outer s H E hr => ?_
  exact (pss_cons (ps_if (pt_cmpR (o_eqP T.st hr.units) (pe_callB (c_len T.st) (by rfl) T.no_len (by decide +kernel) (pa_cons (pv 1) pa_nil)) pe_int (nomark _)) (pss_one (ps_ret pe_bl)) pss_nil)
    (pss_cons (ps_set (i := 3) sc_changes.nd rfl (by first | exact Or.inl rfl | exact Or.inr rfl) (pe_call (ok_draw T) (hr.mono (by decide)) rfl T.mg_draw (T.fn_draw).kp T.bd_draw .nil passE (pa_cons (pv 0) (pa_cons (pe_callB (c_len T.st) (by rfl) T.no_len (by decide +kernel) (pa_cons (pv 1) pa_nil)) pa_nil))))
    (pss_cons (ps_set (i := 4) sc_changes.nd rfl (by first | exact Or.inl rfl | exact Or.inr rfl) (pe_callTy (c_list T.st) (by rfl) T.no_list (by decide +kernel) (pa_cons (pv 1) pa_nil)))
    (pss_cons (ps_asg (pe_op o_mod (pe_callTy c_int (by rfl) T.no_int (by decide +kernel) (pa_cons (pe_op o_add (pe_op o_add (pe_ix (o_ix T.st) (pv 1) (pv 3) (fun _ _ => rfl)) pe_int) (pe_call (ok_draw T) (hr.mono (by decide)) rfl T.mg_draw (T.fn_draw).kp T.bd_draw .nil passE (pa_cons (pv 0) (pa_cons pe_int pa_nil)))) pa_nil)) pe_int) (pg_sub (pv 4) (pv 3) set_list))
    (pss_cons (ps_set (i := 5) sc_changes.nd rfl (by first | exact Or.inl rfl | exact Or.inr rfl) (pe_call (ok_check_sum T) (hr.mono (by decide)) rfl T.mg_check_sum (T.fn_check_sum).kp T.bd_check_sum .nil passE (pa_cons (pe_call (ok_form T) (hr.mono (by decide)) rfl T.mg_form (T.fn_form).kp T.bd_form .nil passE (pa_cons (pe_call (ok_draw T) (hr.mono (by decide)) rfl T.mg_draw (T.fn_draw).kp T.bd_draw .nil passE (pa_cons (pv 0) (pa_cons pe_int pa_nil))) (pa_cons (pv 4) pa_nil))) pa_nil)))
    (pss_cons (ps_if (PW.pt (pw_or (pt_not (pt_val (pe_call (ok_is T) (hr.mono (by decide)) rfl T.mg_is (T.fn_is).kp T.bd_is .nil passE (pa_cons (pv 5) (pa_cons (pe_call (ok_sum T) (hr.mono (by decide)) rfl T.mg_sum (T.fn_sum).kp T.bd_sum .nil passE (pa_cons (pv 4) pa_nil)) pa_nil))))) (pw_or1 (pt_cmpR (o_eqP T.st hr.units) (pv 5) (pv 2) (nomark _))))) (pss_one (ps_ret pe_bl)) pss_nil)
    (pss_cons (ps_set (i := 6) sc_changes.nd rfl (by first | exact Or.inl rfl | exact Or.inr rfl) (pe_call (ok_draw T) (hr.mono (by decide)) rfl T.mg_draw (T.fn_draw).kp T.bd_draw .nil passE (pa_cons (pv 0) (pa_cons (pe_callB (c_len T.st) (by rfl) T.no_len (by decide +kernel) (pa_cons (pv 1) pa_nil)) pa_nil))))
    (pss_cons (ps_set (i := 7) sc_changes.nd rfl (by first | exact Or.inl rfl | exact Or.inr rfl) (pe_callTy (c_list T.st) (by rfl) T.no_list (by decide +kernel) (pa_cons (pv 1) pa_nil)))
    (pss_cons (ps_asg (pe_ix (o_ix T.st) (pv 1) (pv 6) (fun _ _ => rfl)) (pg_sub (pv 7) (pv 3) set_list))
    (pss_cons (ps_asg (pe_ix (o_ix T.st) (pv 1) (pv 3) (fun _ _ => rfl)) (pg_sub (pv 7) (pv 6) set_list))
    (pss_cons (ps_set (i := 5) sc_changes.nd rfl (by first | exact Or.inl rfl | exact Or.inr rfl) (pe_call (ok_check_sum T) (hr.mono (by decide)) rfl T.mg_check_sum (T.fn_check_sum).kp T.bd_check_sum .nil passE (pa_cons (pe_callTy (c_list T.st) (by rfl) T.no_list (by decide +kernel) (pa_cons (pv 7) pa_nil)) pa_nil)))
    (pss_cons (ps_if (pt_not (pt_val (pe_call (ok_is T) (hr.mono (by decide)) rfl T.mg_is (T.fn_is).kp T.bd_is .nil passE (pa_cons (pv 5) (pa_cons (pe_call (ok_sum T) (hr.mono (by decide)) rfl T.mg_sum (T.fn_sum).kp T.bd_sum .nil passE (pa_cons (pv 7) pa_nil)) pa_nil))))) (pss_one (ps_ret pe_bl)) pss_nil)
    (pss_one (ps_ret (pe_or (pe_cmpR (o_eqP T.st hr.units) (pe_ix (o_ix T.st) (pv 1) (pv 3) (fun _ _ => rfl)) (pe_ix (o_ix T.st) (pv 1) (pv 6) (fun _ _ => rfl)) (nomark _)) (pe_one (pe_cmpR (o_neP T.st hr.units) (pv 5) (pv 2) (nomark _))))))))))))))))))
abbrev nm_number : List Str := ["_law_purse_here", "_law_most", "_law_way", "_law_amount"]
theorem sc_number : FnScope nm_number ["_law_purse_here", "_law_most"] (defScope (top 16)) := ⟨rfl, rfl, rfl, by decide +kernel, rfl, by decide +kernel, by decide +kernel⟩
theorem ok_number (T : Txt P K mg a) : FnOk P w K mg base (L2.CX P w) 2 a.f_number a.d_number ["_law_purse_here", "_law_most"] (sp_number a.toCl) := by
  refine ok_body T.fn_number sc_number rfl rfl fun cdv A outer s H E hr => ?_
  exact (pss_cons (ps_set (i := 2) sc_number.nd rfl (by first | exact Or.inl rfl | exact Or.inr rfl) (pe_call (ok_draw T) (hr.mono (by decide)) rfl T.mg_draw (T.fn_draw).kp T.bd_draw .nil passE (pa_cons (pv 0) (pa_cons pe_int pa_nil))))
    (pss_cons (ps_if (pt_cmpR (o_eqP T.st hr.units) (pv 2) pe_int (nomark _)) (pss_one (ps_ret (pe_callB (c_min2 rfl) (by rfl) T.no_min (by decide +kernel) (pa_cons (pv 1) (pa_cons (pe_call (ok_draw T) (hr.mono (by decide)) rfl T.mg_draw (T.fn_draw).kp T.bd_draw .nil passE (pa_cons (pv 0) (pa_cons pe_int pa_nil))) pa_nil))))) pss_nil)
    (pss_cons (ps_if (pt_cmpR (o_eqP T.st hr.units) (pv 2) pe_int (nomark _)) (pss_one (ps_ret (pe_callB (c_max2 rfl) (by rfl) T.no_max (by decide +kernel) (pa_cons pe_int (pa_cons (pe_op o_sub (pv 1) (pe_call (ok_draw T) (hr.mono (by decide)) rfl T.mg_draw (T.fn_draw).kp T.bd_draw .nil passE (pa_cons (pv 0) (pa_cons pe_int pa_nil)))) pa_nil))))) pss_nil)
    (pss_cons (ps_set (i := 3) sc_number.nd rfl (by first | exact Or.inl rfl | exact Or.inr rfl) (pe_op o_add (pe_op o_mul (pe_call (ok_draw T) (hr.mono (by decide)) rfl T.mg_draw (T.fn_draw).kp T.bd_draw .nil passE (pa_cons (pv 0) (pa_cons pe_int pa_nil))) pe_int) (pe_call (ok_draw T) (hr.mono (by decide)) rfl T.mg_draw (T.fn_draw).kp T.bd_draw .nil passE (pa_cons (pv 0) (pa_cons pe_int pa_nil)))))
    (pss_one (ps_ret (pe_op o_mod (pe_callTy c_int (by rfl) T.no_int (by decide +kernel) (pa_cons (pv 3) pa_nil)) (pe_op o_add (pv 1) pe_int))))))))
abbrev nm_odd : List Str := ["_law_purse_here", "_law_way"]
theorem sc_odd : FnScope nm_odd ["_law_purse_here"] (defScope (top 23)) := ⟨rfl, rfl, rfl, by decide +kernel, rfl, by decide +kernel, by decide +kernel⟩
theorem ok_odd (T : Txt P K mg a) : FnOk P w K mg base (L2.CX P w) 3 a.f_odd a.d_odd ["_law_purse_here"] (sp_odd a.toCl) := by
  refine ok_body T.fn_odd sc_odd rfl rfl fun cdv A outer s H E hr => ?_
  exact (pss_cons (ps_set (i := 1) sc_odd.nd rfl (by first | exact Or.inl rfl | exact Or.inr rfl) (pe_call (ok_draw T) (hr.mono (by decide)) rfl T.mg_draw (T.fn_draw).kp T.bd_draw .nil passE (pa_cons (pv 0) (pa_cons pe_int pa_nil))))
    (pss_cons (ps_if (pt_cmpR (o_eqP T.st hr.units) (pv 1) pe_int (nomark _)) (pss_one (ps_ret (pe_op o_add pe_int (pe_call (ok_number T) (hr.mono (by decide)) rfl T.mg_number (T.fn_number).kp T.bd_number .nil passE (pa_cons (pv 0) (pa_cons pe_int pa_nil)))))) pss_nil)
    (pss_cons (ps_if (pt_cmpR (o_eqP T.st hr.units) (pv 1) pe_int (nomark _)) (pss_one (ps_ret (pe_op o_sub (pe_un o_neg pe_int) (pe_call (ok_number T) (hr.mono (by decide)) rfl T.mg_number (T.fn_number).kp T.bd_number .nil passE (pa_cons (pv 0) (pa_cons pe_int pa_nil)))))) pss_nil)
    (pss_one (ps_ret (pe_ix (o_ix T.st) (pe_lst (pa_cons pe_int (pa_cons (pe_un o_neg pe_int) (pa_cons pe_bl (pa_cons pe_bl (pa_cons pe_non (pa_cons pe_str (pa_cons pe_str (pa_cons (pe_tup (pa_cons pe_int pa_nil)) (pa_cons (pe_lst pa_nil) (pa_cons pe_dnewK pa_nil))))))))))) (pv 1) (fun _ _ => rfl)))))))
abbrev nm_is_word : List Str := ["_law_value"]
theorem sc_is_word : FnScope nm_is_word ["_law_value"] (defScope (top 19)) := ⟨rfl, rfl, rfl, by decide +kernel, rfl, by decide +kernel, by decide +kernel⟩
theorem ok_is_word (T : Txt P K mg a) : FnOk P w K mg base (L2.CX P w) 1 a.f_is_word a.d_is_word ["_law_value"] (sp_is_word a.toCl) := by
  refine ok_body T.fn_is_word sc_is_word rfl rfl fun cdv A outer s H E hr => ?_
  exact (pss_one (ps_ret (pe_and (pe_callB c_isi (by rfl) T.no_isinstance (by decide +kernel) (pa_cons (pv 0) (pa_cons (pe_bltn (v := .ty "int") (by rfl) T.no_int (by decide +kernel) rfl) pa_nil))) (pe_and (pe_not (pe_callB c_isi (by rfl) T.no_isinstance (by decide +kernel) (pa_cons (pv 0) (pa_cons (pe_bltn (v := .ty "bool") (by rfl) T.no_bool (by decide +kernel) rfl) pa_nil)))) (pe_one (pe_chain o_le o_le pe_int (pv 0) pe_int))))))
abbrev nm_refusal : List Str := ["_law_words", "e"]
theorem sc_refusal : FnScope nm_refusal ["_law_words"] (defScope (top 24)) := ⟨rfl, rfl, rfl, by decide +kernel, rfl, by decide +kernel, by decide +kernel⟩
theorem ok_refusal (T : Txt P K mg a) : FnOk P w K mg base (L2.CX P w) 5 a.f_refusal a.d_refusal ["_law_words"] (sp_refusal a.toCl) := by
  refine ok_body T.fn_refusal sc_refusal rfl rfl fun cdv A outer s H E hr => ?_
  exact (pss_cons (ps_tryT (tab := [(.ref a.c_InvalidWords, 0)]) (tb := fun W => (tDrop (tCS (sp_check_sum a.toCl) (WE W) (tCons (tVar 0) tNil)))) (l := [⟨.ref a.c_InvalidWords, some 1, fun b cls d => (tSeq (tIfS (tB (tCB (rIsX [(.ref a.c_InvalidWords, .ref a.c_WrongSum, false)] b cls d) (tCons (tVar 1) (tCons (eCon (.ref a.c_WrongSum)) tNil)))) (tRet (tTup (tCons (tC (.str "sum")) (tCons (eXf b cls d [a.c_InvalidWords] "place" (tVar 1)) tNil)))) tNext)
    (tRet (tTup (tCons (tC (.str "words")) (tCons (eXf b cls d [a.c_InvalidWords] "place" (tVar 1)) tNil)))))⟩, ⟨.ref a.c_LossError, none, fun b cls d => (tRet (tTup (tCons (tC (.str "other")) (tCons (tC (.int 0)) tNil))))⟩]) (all_cons (Hits.here T.ex_InvalidWords_InvalidWords) all_nil) rfl rfl sc_refusal.nd (fun W pn xe tk pa => (pss_one (ps_expr (pe_cS (ok_check_sum T) (hr.mono (by decide)) rfl T.mg_check_sum (T.fn_check_sum).kp T.bd_check_sum (fun σ => passAt tk σ) (pa_cons (pv 0) pa_nil))))) (HnOk.named ⟨rfl, by decide, .inl T.mg_InvalidWords⟩ (i := 1) rfl rfl (fun b oe cls d pn hz hf => (pss_cons (ps_if (pt_val (pe_callB (c_isX (tbl := [(.ref a.c_InvalidWords, .ref a.c_WrongSum, false)]) (all_cons T.is_InvalidWords_WrongSum (all_nil)) hz hf) (by rfl) T.no_isinstance (by decide +kernel) (pa_cons (pv 1) (pa_cons (pe_clsName rfl T.mg_WrongSum) pa_nil)))) (pss_one (ps_ret (pe_tup (pa_cons pe_str (pa_cons (pe_eXf (Cs := [a.c_InvalidWords]) (all_cons T.xf_InvalidWords_place (all_nil)) hz hf (pv 1)) pa_nil))))) pss_nil)
    (pss_one (ps_ret (pe_tup (pa_cons pe_str (pa_cons (pe_eXf (Cs := [a.c_InvalidWords]) (all_cons T.xf_InvalidWords_place (all_nil)) hz hf (pv 1)) pa_nil))))))) (HnOk.anon ⟨rfl, by decide, .inl T.mg_LossError⟩ (fun b oe cls d pn hz hf => (pss_one (ps_ret (pe_tup (pa_cons pe_str (pa_cons pe_int pa_nil)))))) HnOk.nil)))
    (pss_one (ps_ret (pe_tup (pa_cons pe_str (pa_cons pe_int pa_nil))))))
abbrev nm_refuses : List Str := ["_law_purse_here", "_law_words", "_law_spoilt", "_law_k", "_law_spot", "_law_told"]
theorem sc_refuses : FnScope nm_refuses ["_law_purse_here", "_law_words"] (defScope (top 25)) := ⟨rfl, rfl, rfl, by decide +kernel, rfl, by decide +kernel, by decide +kernel⟩
theorem ok_refuses (T : Txt P K mg a) : FnOk P w K mg base (L2.CX P w) 6 a.f_refuses a.d_refuses ["_law_purse_here", "_law_words"] (sp_refuses a.toCl) := by
  refine ok_body T.fn_refuses sc_refuses rfl rfl fun cdv A outer s H E hr => ?_
  exact (pss_cons (ps_set (i := 2) sc_refuses.nd rfl (by first | exact Or.inl rfl | exact Or.inr rfl) (pe_callTy (c_list T.st) (by rfl) T.no_list (by decide +kernel) (pa_cons (pv 1) pa_nil)))
    (pss_cons (ps_forR1 (passes_of rfl) rfl rfl T.no_range (pe_op o_add pe_int (pe_call (ok_draw T) (hr.mono (by decide)) rfl T.mg_draw (T.fn_draw).kp T.bd_draw .nil passE (pa_cons (pv 0) (pa_cons pe_int pa_nil)))) (pg_name (i := 3) sc_refuses.nd rfl (by first | exact Or.inl rfl | exact Or.inr rfl)) (pss_one (ps_expr (pe_ins (pv 2) (pa_cons (pe_call (ok_draw T) (hr.mono (by decide)) rfl T.mg_draw (T.fn_draw).kp T.bd_draw .nil passE (pa_cons (pv 0) (pa_cons (pe_op o_add (pe_callB (c_len T.st) (by rfl) T.no_len (by decide +kernel) (pa_cons (pv 2) pa_nil)) pe_int) pa_nil))) (pa_cons (pe_call (ok_odd T) (hr.mono (by decide)) rfl T.mg_odd (T.fn_odd).kp T.bd_odd .nil passE (pa_cons (pv 0) pa_nil)) pa_nil))))))
    (pss_cons (ps_set (i := 4) sc_refuses.nd rfl (by first | exact Or.inl rfl | exact Or.inr rfl) pe_int)
    (pss_cons (ps_while (passes_of rfl) (PW.pt (pw_and (pt_cmpR o_lt (pv 4) (pe_callB (c_len T.st) (by rfl) T.no_len (by decide +kernel) (pa_cons (pv 2) pa_nil)) (nomark _)) (pw_and1 (pt_val (pe_call (ok_is_word T) (hr.mono (by decide)) rfl T.mg_is_word (T.fn_is_word).kp T.bd_is_word .nil passE (pa_cons (pe_ix (o_ix T.st) (pv 2) (pv 4) (fun _ _ => rfl)) pa_nil)))))) (pss_one (ps_set (i := 4) sc_refuses.nd rfl (by first | exact Or.inl rfl | exact Or.inr rfl) (pe_op o_add (pv 4) pe_int))))
    (pss_cons (ps_set (i := 5) sc_refuses.nd rfl (by first | exact Or.inl rfl | exact Or.inr rfl) (pe_call (ok_refusal T) (hr.mono (by decide)) rfl T.mg_refusal (T.fn_refusal).kp T.bd_refusal .nil passE (pa_cons (pe_call (ok_form T) (hr.mono (by decide)) rfl T.mg_form (T.fn_form).kp T.bd_form .nil passE (pa_cons (pe_call (ok_draw T) (hr.mono (by decide)) rfl T.mg_draw (T.fn_draw).kp T.bd_draw .nil passE (pa_cons (pv 0) (pa_cons pe_int pa_nil))) (pa_cons (pv 2) pa_nil))) pa_nil)))
    (pss_cons (ps_if (PW.pt (pw_or (pt_cmpR (o_neP T.st hr.units) (pe_ix (o_ix T.st) (pv 5) pe_int (fun _ _ => rfl)) pe_str (nomark _)) (pw_or1 (pt_not (pt_val (pe_call (ok_is T) (hr.mono (by decide)) rfl T.mg_is (T.fn_is).kp T.bd_is .nil passE (pa_cons (pe_ix (o_ix T.st) (pv 5) pe_int (fun _ _ => rfl)) (pa_cons (pv 4) pa_nil)))))))) (pss_one (ps_ret pe_bl)) pss_nil)
    (pss_cons (ps_set (i := 5) sc_refuses.nd rfl (by first | exact Or.inl rfl | exact Or.inr rfl) (pe_call (ok_refusal T) (hr.mono (by decide)) rfl T.mg_refusal (T.fn_refusal).kp T.bd_refusal .nil passE (pa_cons (pe_ix (o_ix T.st) (pe_lst (pa_cons pe_non (pa_cons pe_int (pa_cons pe_bl (pa_cons pe_str (pa_cons pe_str (pa_cons pe_dnewK (pa_cons pe_int pa_nil)))))))) (pe_call (ok_draw T) (hr.mono (by decide)) rfl T.mg_draw (T.fn_draw).kp T.bd_draw .nil passE (pa_cons (pv 0) (pa_cons pe_int pa_nil))) (fun _ _ => rfl)) pa_nil)))
    (pss_one (ps_ret (pe_and (pe_cmpR (o_eqP T.st hr.units) (pe_ix (o_ix T.st) (pv 5) pe_int (fun _ _ => rfl)) pe_str (nomark _)) (pe_one (pe_call (ok_is T) (hr.mono (by decide)) rfl T.mg_is (T.fn_is).kp T.bd_is .nil passE (pa_cons (pe_ix (o_ix T.st) (pv 5) pe_int (fun _ _ => rfl)) (pa_cons pe_int pa_nil))))))))))))))
abbrev nm_law : List Str := ["_law_script", "_law_purse_here", "_law_words", "_law_amount", "_law_handed"]
theorem sc_law : FnScope nm_law ["_law_script"] (defScope (top 27)) := ⟨rfl, rfl, rfl, by decide +kernel, rfl, by decide +kernel, by decide +kernel⟩
theorem ok_law (T : Txt P K mg a) : FnOk P w K mg base (L2.CX P w) 7 a.f_law a.d_law ["_law_script"] (sp_law a.toCl) := by
  obtain ⟨_, mg_PRIME_⟩ := T.mg_PRIME
  refine ok_body T.fn_law sc_law rfl rfl fun cdv A outer s H E hr => ?_
  exact (pss_cons (ps_set (i := 1) sc_law.nd rfl (by first | exact Or.inl rfl | exact Or.inr rfl) (pe_call (ok_purse T) (hr.mono (by decide)) rfl T.mg_purse (T.fn_purse).kp T.bd_purse .nil passE (pa_cons (pv 0) pa_nil)))
    (pss_cons (ps_set (i := 2) sc_law.nd rfl (by first | exact Or.inl rfl | exact Or.inr rfl) (pe_call (ok_sequence T) (hr.mono (by decide)) rfl T.mg_sequence (T.fn_sequence).kp T.bd_sequence .nil passE (pa_cons (pv 1) pa_nil)))
    (pss_cons (ps_set (i := 3) sc_law.nd rfl (by first | exact Or.inl rfl | exact Or.inr rfl) (pe_call (ok_sum T) (hr.mono (by decide)) rfl T.mg_sum (T.fn_sum).kp T.bd_sum .nil passE (pa_cons (pv 2) pa_nil)))
    (pss_cons (ps_set (i := 4) sc_law.nd rfl (by first | exact Or.inl rfl | exact Or.inr rfl) (pe_callTy (c_list T.st) (by rfl) T.no_list (by decide +kernel) (pa_cons (pv 2) pa_nil)))
    (pss_cons (ps_if (PW.pt (pw_or (pt_not (pt_val (pe_call (ok_is T) (hr.mono (by decide)) rfl T.mg_is (T.fn_is).kp T.bd_is .nil passE (pa_cons (pe_constI mg_PRIME_ rfl) (pa_cons pe_int pa_nil))))) (pw_or (pt_not (pt_val (pe_call (ok_is T) (hr.mono (by decide)) rfl T.mg_is (T.fn_is).kp T.bd_is .nil passE (pa_cons (pe_call (ok_check_sum T) (hr.mono (by decide)) rfl T.mg_check_sum (T.fn_check_sum).kp T.bd_check_sum .nil passE (pa_cons (pv 4) pa_nil)) (pa_cons (pv 3) pa_nil))))) (pw_or1 (pt_cmpR (o_neP T.st hr.units) (pv 4) (pv 2) (nomark _)))))) (pss_one (ps_ret pe_bl)) pss_nil)
    (pss_cons (ps_if (PW.pt (pw_or (pt_not (pt_val (pe_call (ok_changes T) (hr.mono (by decide)) rfl T.mg_changes (T.fn_changes).kp T.bd_changes .nil passE (pa_cons (pv 1) (pa_cons (pv 2) (pa_cons (pv 3) pa_nil)))))) (pw_or1 (pt_not (pt_val (pe_call (ok_refuses T) (hr.mono (by decide)) rfl T.mg_refuses (T.fn_refuses).kp T.bd_refuses .nil passE (pa_cons (pv 1) (pa_cons (pv 2) pa_nil)))))))) (pss_one (ps_ret pe_bl)) pss_nil)
    (pss_one (ps_ret (pe_and (pe_call (ok_is T) (hr.mono (by decide)) rfl T.mg_is (T.fn_is).kp T.bd_is .nil passE (pa_cons (pe_call (ok_check_sum T) (hr.mono (by decide)) rfl T.mg_check_sum (T.fn_check_sum).kp T.bd_check_sum .nil passE (pa_cons (pe_callTy (c_tuple T.st) (by rfl) T.no_tuple (by decide +kernel) (pa_cons (pv 2) pa_nil)) pa_nil)) (pa_cons (pv 3) pa_nil))) (pe_and (pe_call (ok_is T) (hr.mono (by decide)) rfl T.mg_is (T.fn_is).kp T.bd_is .nil passE (pa_cons (pe_call (ok_check_sum T) (hr.mono (by decide)) rfl T.mg_check_sum (T.fn_check_sum).kp T.bd_check_sum .nil passE (pa_cons (pv 4) pa_nil)) (pa_cons (pv 3) pa_nil))) (pe_one (pe_cmpR (o_eqP T.st hr.units) (pv 4) (pv 2) (nomark _)))))))))))))
end
/-! ### what the top has written -/
theorem useFn {R : Prop} {K : PySem.W.Frag} {h : Heap} {mg : Str → Option Value} (X : K.In h) (G : h.Ns mainGlobals mg) {x : Str} {st : Stmt} {f : Addr} {ps : List Str} {oc kV doc pm cd ct : Value} {od an : Option Addr} {sl : Array (Option Value)}
    (n : PySem.W.nsIn K mainGlobals x = some (some (.ref f))) (l : K.lookup f = some ⟨oc, od, .func (PySem.W.fnOf x x (defArgs st) (defBody st) (defScope st) .none kV doc pm an cd ct), sl⟩) (c : PySem.W.codeIn K cd x = true) (k : PySem.W.keepIn K (.ref f) = true)
    (hb : ∀ (kV doc pm : Value) (an : Option Addr) (cdv ct : Value) (us : List Value), us.length = ps.length → bindArgs (PySem.W.fnOf x x (defArgs st) (defBody st) (defScope st) .none kV doc pm an cdv ct) ⟨us, []⟩ = pure (ps.zip us))
    (r : ∀ (f : Addr) (fd : FuncData), mg x = some (.ref f) → Fun K x x st f fd → (∀ us : List Value, us.length = ps.length → bindArgs fd ⟨us, []⟩ = pure (ps.zip us)) → R) : R :=
  r f _ (PySem.W.mg_of X G n) (fun_mk l c k) fun us hl => hb kV doc pm an cd ct us hl
theorem useConst {R : Prop} {K : PySem.W.Frag} {h : Heap} {mg : Str → Option Value} (X : K.In h) (G : h.Ns mainGlobals mg) {x : Str} {i : Int} {t : Tok} (n : PySem.W.nsIn K mainGlobals x = some (some (.int i t))) (r : (∃ t, mg x = some (.int i t)) → R) : R := r ⟨t, PySem.W.mg_of X G n⟩
theorem useExc {K : PySem.W.Frag} {h : Heap} {mg : Str → Option Value} {P : Program} {R : Prop} {c_InvalidWords : Addr} {nm_InvalidWords q_InvalidWords : Str} {N_InvalidWords : Addr} {bs_InvalidWords bm_InvalidWords : List Value} {sn_InvalidWords : List Str} {sub_InvalidWords : List Value} {ab_InvalidWords : Bool} {col_InvalidWords : Option Bool} {dd_InvalidWords : Option Addr} {m0_InvalidWords m1_InvalidWords m2_InvalidWords m3_InvalidWords m5_InvalidWords : Option Value} {c_WrongSum : Addr} {c_LossError : Addr} {f_InvalidWords_i : Addr} {oc_InvalidWords_i kV_InvalidWords_i doc_InvalidWords_i pm_InvalidWords_i ct_InvalidWords_i cl_InvalidWords_i ccl_InvalidWords_i : Value} {od_InvalidWords_i an_InvalidWords_i cld_InvalidWords_i cdd_InvalidWords_i : Option Addr} {sl_InvalidWords_i csl_InvalidWords_i ccs_InvalidWords_i : Array (Option Value)} {cda_InvalidWords_i cc_InvalidWords_i : Addr} {vs_InvalidWords_i : Array Value} {file_InvalidWords_i : Str} {tf_InvalidWords_i : Tok} (X : K.In h) (G : h.Ns mainGlobals mg)
    (opq : PySem.W.nsIn K PySem.cStatics "thirdparty.any" = some none)
    (hn : PySem.W.specialIn K (.builtin "object.__class__") "__get__" = some (some (.builtin "getset_descriptor.__get__")))
    (ht : PySem.W.takesIn K (.builtin "object.__class__") = some true)
    (n_InvalidWords : PySem.W.nsIn K mainGlobals "InvalidWords" = some (some (.ref c_InvalidWords)))
    (eC_InvalidWords : PySem.W.subIn K (.ref c_InvalidWords) (.type "BaseException") = some true)
    (tC_InvalidWords : PySem.W.typeIn K (.ref c_InvalidWords) = some (.type "type"))
    (hC_InvalidWords : PySem.W.hasDictIn K c_InvalidWords = true)
    (l_InvalidWords : K.lookup c_InvalidWords = some (excClassObj nm_InvalidWords q_InvalidWords c_InvalidWords N_InvalidWords bs_InvalidWords bm_InvalidWords true sn_InvalidWords sub_InvalidWords ab_InvalidWords col_InvalidWords dd_InvalidWords m0_InvalidWords m1_InvalidWords m2_InvalidWords m3_InvalidWords m5_InvalidWords "ValueError.__new__"))
    (hb_InvalidWords : PySem.HandSPX.refsVE bm_InvalidWords = true)
    (sa_InvalidWords : PySem.W.findIn K (.ref c_InvalidWords) "__setattr__" = some (some (.builtin "object.__setattr__")))
    (kC_InvalidWords : PySem.W.keepIn K (.ref c_InvalidWords) = true)
    (ga_InvalidWords : PySem.W.findIn K (.ref c_InvalidWords) "__getattribute__" = some (some (.builtin "BaseException.__getattribute__")))
    (gg_InvalidWords : PySem.W.findIn K (.ref c_InvalidWords) "__getattr__" = some none)
    (ha_InvalidWords : PySem.W.findIn K (.ref c_InvalidWords) "__class__" = some (some (.builtin "object.__class__")))
    (hm_InvalidWords : PySem.W.mroIn K c_InvalidWords (.type "object") = some true)
    (vs_InvalidWords : PySem.W.subIn K (.ref c_InvalidWords) (.type "ValueError") = some true)
    (i_InvalidWords : PySem.W.findIn K (.ref c_InvalidWords) "__init__" = some (some (.ref f_InvalidWords_i)))
    (n_WrongSum : PySem.W.nsIn K mainGlobals "WrongSum" = some (some (.ref c_WrongSum)))
    (eC_WrongSum : PySem.W.subIn K (.ref c_WrongSum) (.type "BaseException") = some true)
    (tC_WrongSum : PySem.W.typeIn K (.ref c_WrongSum) = some (.type "type"))
    (hC_WrongSum : PySem.W.hasDictIn K c_WrongSum = true)
    (n_LossError : PySem.W.nsIn K mainGlobals "LossError" = some (some (.ref c_LossError)))
    (eC_LossError : PySem.W.subIn K (.ref c_LossError) (.type "BaseException") = some true)
    (tC_LossError : PySem.W.typeIn K (.ref c_LossError) = some (.type "type"))
    (hC_LossError : PySem.W.hasDictIn K c_LossError = true)
    (l_InvalidWords_i : K.lookup f_InvalidWords_i = some ⟨oc_InvalidWords_i, od_InvalidWords_i, .func (PySem.W.ksFn "__init__" "InvalidWords.__init__" (defArgs (inClass (top 2) 0)) (defBody (inClass (top 2) 0)) (defScope (inClass (top 2) 0)) .none kV_InvalidWords_i doc_InvalidWords_i pm_InvalidWords_i an_InvalidWords_i (.ref cda_InvalidWords_i) ct_InvalidWords_i cc_InvalidWords_i), sl_InvalidWords_i⟩)
    (c_InvalidWords_i : PySem.W.codeIn K (.ref cda_InvalidWords_i) "InvalidWords.__init__" = true)
    (k_InvalidWords_i : PySem.W.keepIn K (.ref f_InvalidWords_i) = true)
    (t_InvalidWords_i : PySem.W.typeIn K (.ref f_InvalidWords_i) = some (.type "function"))
    (cc_InvalidWords_i : K.lookup cc_InvalidWords_i = some ⟨cl_InvalidWords_i, cld_InvalidWords_i, .cell (some (.ref c_InvalidWords)), csl_InvalidWords_i⟩)
    (cd_InvalidWords_i : K.lookup cda_InvalidWords_i = some ⟨ccl_InvalidWords_i, cdd_InvalidWords_i, .fields vs_InvalidWords_i, ccs_InvalidWords_i⟩)
    (v_InvalidWords_i : vs_InvalidWords_i[2]? = some (.str file_InvalidWords_i tf_InvalidWords_i))
    (fl_InvalidWords_i : ((P.main.file : Str) == file_InvalidWords_i) = true)
    (su_InvalidWords_InvalidWords : PySem.W.subIn K (.ref c_InvalidWords) (.ref c_InvalidWords) = some true)
    (ki_InvalidWords_WrongSum : PySem.W.kitOne K (.ref c_InvalidWords) (.ref c_WrongSum) = some false)
    (nf_InvalidWords_place : PySem.W.findIn K (.ref c_InvalidWords) "place" = some none)
    (sf_InvalidWords_InvalidWords : PySem.W.ks_superIn K c_InvalidWords c_InvalidWords "__init__" = some (some (.builtin "ValueError.__init__")))
    (sm_InvalidWords_InvalidWords : PySem.W.mroIn K c_InvalidWords (.ref c_InvalidWords) = some true)
    (nf_InvalidWords_place : PySem.W.findIn K (.ref c_InvalidWords) "place" = some none)
    (r : ∀ (c_InvalidWords : Addr) (c_WrongSum : Addr) (c_LossError : Addr) (f_InvalidWords_i : Addr) (d_InvalidWords_i : FuncData), (OexC K c_InvalidWords) → (PySem.W.findIn K (.ref c_InvalidWords) "__init__" = some (some (.ref f_InvalidWords_i))) → (PySem.W.typeIn K (.ref f_InvalidWords_i) = some (.type "function")) → (mg "InvalidWords" = some (.ref c_InvalidWords)) → (Binds K d_InvalidWords_i ["self", "place"] []) → (PySem.W.exmOne K (.ref c_InvalidWords) (.ref c_InvalidWords) = some true) → (IsOk K (.ref c_InvalidWords) (.ref c_WrongSum) false) → (mg "WrongSum" = some (.ref c_WrongSum)) → (XfOk K c_InvalidWords "place") → (mg "LossError" = some (.ref c_LossError)) → (FunS P K "__init__" "InvalidWords.__init__" (inClass (top 2) 0) f_InvalidWords_i d_InvalidWords_i c_InvalidWords) → (SupV K c_InvalidWords c_InvalidWords) → (PySem.W.findIn K (.ref c_InvalidWords) "place" = some none) → R) : R :=
  r c_InvalidWords c_WrongSum c_LossError f_InvalidWords_i _ (⟨⟨_, _, _, _, _, _, _, _, _, _, _, _, _, _, _, l_InvalidWords, hb_InvalidWords⟩, sa_InvalidWords, eC_InvalidWords, tC_InvalidWords, kC_InvalidWords⟩) (i_InvalidWords) (t_InvalidWords_i) (PySem.W.mg_of X G n_InvalidWords) (.all (fun us hl => match us, hl with | [_, _], _ => rfl)) (PySem.W.exm_ref eC_InvalidWords hC_InvalidWords tC_InvalidWords su_InvalidWords_InvalidWords) (⟨⟨_, _, rfl, ⟨ga_InvalidWords, gg_InvalidWords, eC_InvalidWords, hC_InvalidWords, ha_InvalidWords, hn, ht, hm_InvalidWords⟩, fun _ r => r, ki_InvalidWords_WrongSum⟩⟩) (PySem.W.mg_of X G n_WrongSum) (⟨⟨ga_InvalidWords, gg_InvalidWords, eC_InvalidWords, hC_InvalidWords⟩, nf_InvalidWords_place⟩) (PySem.W.mg_of X G n_LossError) (⟨⟨_, _, _, _, _, _, _, _, _, _, _, _, _, _, _, _, _, _, _, _, _, rfl, l_InvalidWords_i, c_InvalidWords_i, cc_InvalidWords_i, cd_InvalidWords_i, v_InvalidWords_i, fl_InvalidWords_i, (by unfold PySem.W.clsIn; rw [l_InvalidWords] <;> rfl)⟩, k_InvalidWords_i⟩) (⟨⟨⟨_, _, _, _, _, _, _, _, _, _, _, _, _, _, _, l_InvalidWords, hb_InvalidWords⟩, sa_InvalidWords, eC_InvalidWords, tC_InvalidWords, kC_InvalidWords⟩, opq, sf_InvalidWords_InvalidWords, vs_InvalidWords, sm_InvalidWords_InvalidWords⟩) (nf_InvalidWords_place)
def spLaw (K : PySem.W.Frag) : Sp := fun vs H Q _ => ∃ (a : Addr) (ns : List Int), vs = [.ref a] ∧ SqL K H a (ns.map V.int) ∧ ns.length ≤ 63 ∧ Only H ∧ ∀ H', Q (.bl true) H'
theorem walk {l : PySem.W.OpenLaw} {q : Program} {loose : List Str} {XP : (Str → Option Value) → Heap → Prop} {YP : World → Heap → Prop} {d : DefRec} {K : Params → PySem.W.Frag} (hn : l.most = some 63) (hdf : d.params.defaults = [])
    (hY : ∀ (w : World) (h : Heap), YP w h → (K w.params).In h)
    (F : ∀ (w : World) (mg : Str → Option Value) (fa : Addr) (h : Heap), (K w.params).In h → h.Ns mainGlobals mg → mg d.name = some (.ref fa) →
      ∃ fd : FuncData, (∀ (s : Shared) (u : Value), BindsTo s fd ⟨[u], []⟩ [("_law_script", u)]) ∧ ∀ base : Heap, (K w.params).In base → base.Ns mainGlobals mg → FnOk l.prog w (K w.params) mg base (L2.CX l.prog w) 7 fa fd ["_law_script"] (spLaw (K w.params))) :
    PySem.W.WalkO q loose XP YP l.row.toRowW d [] (fun f vs => PySem.call f vs) :=
  L2.walk_of (n := 63) (k := 7) (x := "_law_script") (CX := fun w => L2.CX l.prog w) (sp := fun w => spLaw (K w.params)) hn (by decide) hdf ⟨rfl, by decide, by decide⟩ hY F (fun _ _ a ns hl hO hS => ⟨a, ns, rfl, hS, hl, hO, fun _ => rfl⟩) fun w H s e s' z => by
    obtain ⟨_, _, _, _, _, _, _, _, _, _, _, _, z⟩ := z
    exact z.elim
end Y.k03
open PySem PySem.W PyProof.Rows
set_option maxRecDepth 100000 in
set_option maxHeartbeats 0 in
theorem PySem.Challenge.cw_lossway_k03_sum_tells_changes_holds : PySem.Challenge.rw_lossway_k03_sum_tells_changes.Holds := by
  w_on; o_law; k_head; (case hw => w_witness2)
  k_fill
  refine Y.k03.walk (l := PySem.Challenge.rw_lossway_k03_sum_tells_changes) rfl rfl (fun w h Y => PySem.W.kIn_of Y) ?F
  case F =>
    intro w mg fa h KX G hmg
    refine' Y.k03.useFn KX G (x := "_law_purse") (st := Y.k03.top 14) (ps := ["_law_script"]) ?npurse ?lpurse ?cpurse ?kpurse (fun _ _ _ _ _ _ us hl => match us, hl with | [_], _ => rfl) ?rpurse
    (case npurse => k_is); (case lpurse => k_is); (case cpurse => k_is); (case kpurse => k_is)
    intro f_purse d_purse m_purse F_purse b_purse
    refine' Y.k03.useFn KX G (x := "_law_draw") (st := Y.k03.top 15) (ps := ["_law_purse_here", "_law_many"]) ?ndraw ?ldraw ?cdraw ?kdraw (fun _ _ _ _ _ _ us hl => match us, hl with | [_, _], _ => rfl) ?rdraw
    (case ndraw => k_is); (case ldraw => k_is); (case cdraw => k_is); (case kdraw => k_is)
    intro f_draw d_draw m_draw F_draw b_draw
    refine' Y.k03.useFn KX G (x := "_law_word") (st := Y.k03.top 18) (ps := ["_law_purse_here"]) ?nword ?lword ?cword ?kword (fun _ _ _ _ _ _ us hl => match us, hl with | [_], _ => rfl) ?rword
    (case nword => k_is); (case lword => k_is); (case cword => k_is); (case kword => k_is)
    intro f_word d_word m_word F_word b_word
    refine' Y.k03.useFn KX G (x := "_law_sequence") (st := Y.k03.top 22) (ps := ["_law_purse_here"]) ?nsequence ?lsequence ?csequence ?ksequence (fun _ _ _ _ _ _ us hl => match us, hl with | [_], _ => rfl) ?rsequence
    (case nsequence => k_is); (case lsequence => k_is); (case csequence => k_is); (case ksequence => k_is)
    intro f_sequence d_sequence m_sequence F_sequence b_sequence
    refine' Y.k03.useFn KX G (x := "_law_sum") (st := Y.k03.top 20) (ps := ["_law_words"]) ?nsum ?lsum ?csum ?ksum (fun _ _ _ _ _ _ us hl => match us, hl with | [_], _ => rfl) ?rsum
    (case nsum => k_is); (case lsum => k_is); (case csum => k_is); (case ksum => k_is)
    intro f_sum d_sum m_sum F_sum b_sum
    refine' Y.k03.useFn KX G (x := "_law_is") (st := Y.k03.top 17) (ps := ["_law_actual", "_law_wanted"]) ?nis ?lis ?cis ?kis (fun _ _ _ _ _ _ us hl => match us, hl with | [_, _], _ => rfl) ?ris
    (case nis => k_is); (case lis => k_is); (case cis => k_is); (case kis => k_is)
    intro f_is d_is m_is F_is b_is
    refine' Y.k03.useFn KX G (x := "is_row") (st := Y.k03.top 7) (ps := ["value"]) ?nis_row ?lis_row ?cis_row ?kis_row (fun _ _ _ _ _ _ us hl => match us, hl with | [_], _ => rfl) ?ris_row
    (case nis_row => k_is); (case lis_row => k_is); (case cis_row => k_is); (case kis_row => k_is)
    intro f_is_row d_is_row m_is_row F_is_row b_is_row
    refine' Y.k03.useFn KX G (x := "is_whole") (st := Y.k03.top 6) (ps := ["value"]) ?nis_whole ?lis_whole ?cis_whole ?kis_whole (fun _ _ _ _ _ _ us hl => match us, hl with | [_], _ => rfl) ?ris_whole
    (case nis_whole => k_is); (case lis_whole => k_is); (case cis_whole => k_is); (case kis_whole => k_is)
    intro f_is_whole d_is_whole m_is_whole F_is_whole b_is_whole
    refine' Y.k03.useFn KX G (x := "in_range") (st := Y.k03.top 8) (ps := ["value", "low", "high"]) ?nin_range ?lin_range ?cin_range ?kin_range (fun _ _ _ _ _ _ us hl => match us, hl with | [_, _, _], _ => rfl) ?rin_range
    (case nin_range => k_is); (case lin_range => k_is); (case cin_range => k_is); (case kin_range => k_is)
    intro f_in_range d_in_range m_in_range F_in_range b_in_range
    refine' Y.k03.useFn KX G (x := "demand_words") (st := Y.k03.top 11) (ps := ["words"]) ?ndemand_words ?ldemand_words ?cdemand_words ?kdemand_words (fun _ _ _ _ _ _ us hl => match us, hl with | [_], _ => rfl) ?rdemand_words
    (case ndemand_words => k_is); (case ldemand_words => k_is); (case cdemand_words => k_is); (case kdemand_words => k_is)
    intro f_demand_words d_demand_words m_demand_words F_demand_words b_demand_words
    refine' Y.k03.useFn KX G (x := "check_sum") (st := Y.k03.top 12) (ps := ["words"]) ?ncheck_sum ?lcheck_sum ?ccheck_sum ?kcheck_sum (fun _ _ _ _ _ _ us hl => match us, hl with | [_], _ => rfl) ?rcheck_sum
    (case ncheck_sum => k_is); (case lcheck_sum => k_is); (case ccheck_sum => k_is); (case kcheck_sum => k_is)
    intro f_check_sum d_check_sum m_check_sum F_check_sum b_check_sum
    refine' Y.k03.useFn KX G (x := "_law_form") (st := Y.k03.top 21) (ps := ["_law_way", "_law_values"]) ?nform ?lform ?cform ?kform (fun _ _ _ _ _ _ us hl => match us, hl with | [_, _], _ => rfl) ?rform
    (case nform => k_is); (case lform => k_is); (case cform => k_is); (case kform => k_is)
    intro f_form d_form m_form F_form b_form
    refine' Y.k03.useFn KX G (x := "_law_changes") (st := Y.k03.top 26) (ps := ["_law_purse_here", "_law_words", "_law_amount"]) ?nchanges ?lchanges ?cchanges ?kchanges (fun _ _ _ _ _ _ us hl => match us, hl with | [_, _, _], _ => rfl) ?rchanges
    (case nchanges => k_is); (case lchanges => k_is); (case cchanges => k_is); (case kchanges => k_is)
    intro f_changes d_changes m_changes F_changes b_changes
    refine' Y.k03.useFn KX G (x := "_law_number") (st := Y.k03.top 16) (ps := ["_law_purse_here", "_law_most"]) ?nnumber ?lnumber ?cnumber ?knumber (fun _ _ _ _ _ _ us hl => match us, hl with | [_, _], _ => rfl) ?rnumber
    (case nnumber => k_is); (case lnumber => k_is); (case cnumber => k_is); (case knumber => k_is)
    intro f_number d_number m_number F_number b_number
    refine' Y.k03.useFn KX G (x := "_law_odd") (st := Y.k03.top 23) (ps := ["_law_purse_here"]) ?nodd ?lodd ?codd ?kodd (fun _ _ _ _ _ _ us hl => match us, hl with | [_], _ => rfl) ?rodd
    (case nodd => k_is); (case lodd => k_is); (case codd => k_is); (case kodd => k_is)
    intro f_odd d_odd m_odd F_odd b_odd
    refine' Y.k03.useFn KX G (x := "_law_is_word") (st := Y.k03.top 19) (ps := ["_law_value"]) ?nis_word ?lis_word ?cis_word ?kis_word (fun _ _ _ _ _ _ us hl => match us, hl with | [_], _ => rfl) ?ris_word
    (case nis_word => k_is); (case lis_word => k_is); (case cis_word => k_is); (case kis_word => k_is)
    intro f_is_word d_is_word m_is_word F_is_word b_is_word
    refine' Y.k03.useFn KX G (x := "_law_refusal") (st := Y.k03.top 24) (ps := ["_law_words"]) ?nrefusal ?lrefusal ?crefusal ?krefusal (fun _ _ _ _ _ _ us hl => match us, hl with | [_], _ => rfl) ?rrefusal
    (case nrefusal => k_is); (case lrefusal => k_is); (case crefusal => k_is); (case krefusal => k_is)
    intro f_refusal d_refusal m_refusal F_refusal b_refusal
    refine' Y.k03.useFn KX G (x := "_law_refuses") (st := Y.k03.top 25) (ps := ["_law_purse_here", "_law_words"]) ?nrefuses ?lrefuses ?crefuses ?krefuses (fun _ _ _ _ _ _ us hl => match us, hl with | [_, _], _ => rfl) ?rrefuses
    (case nrefuses => k_is); (case lrefuses => k_is); (case crefuses => k_is); (case krefuses => k_is)
    intro f_refuses d_refuses m_refuses F_refuses b_refuses
    refine' Y.k03.useFn KX G (x := "law") (st := Y.k03.top 27) (ps := ["_law_script"]) ?nlaw ?llaw ?claw ?klaw (fun _ _ _ _ _ _ us hl => match us, hl with | [_], _ => rfl) ?rlaw
    (case nlaw => k_is); (case llaw => k_is); (case claw => k_is); (case klaw => k_is)
    intro f_law d_law m_law F_law b_law
    refine' Y.k03.useExc (P := (PySem.Challenge.rw_lossway_k03_sum_tells_changes).prog) KX G ?qx0 ?qx1 ?qx2 ?qx3 ?qx4 ?qx5 ?qx6 ?qx7 ?qx8 ?qx9 ?qx10 ?qx11 ?qx12 ?qx13 ?qx14 ?qx15 ?qx16 ?qx17 ?qx18 ?qx19 ?qx20 ?qx21 ?qx22 ?qx23 ?qx24 ?qx25 ?qx26 ?qx27 ?qx28 ?qx29 ?qx30 ?qx31 ?qx32 ?qx33 ?qx34 ?qx35 ?qx36 ?qx37 ?qx38 ?rExc
    (case qx0 => k_is); (case qx1 => k_is); (case qx2 => k_is); (case qx3 => k_is); (case qx4 => k_is); (case qx5 => k_is); (case qx6 => k_is); (case qx7 => k_is); (case qx8 => first | rfl | decide +kernel); (case qx9 => k_is); (case qx10 => k_is); (case qx11 => k_is); (case qx12 => k_is); (case qx13 => k_is); (case qx14 => k_is); (case qx15 => k_is); (case qx16 => k_is); (case qx17 => k_is); (case qx18 => k_is); (case qx19 => k_is); (case qx20 => k_is); (case qx21 => k_is); (case qx22 => k_is); (case qx23 => k_is); (case qx24 => k_is); (case qx25 => k_is); (case qx26 => k_is); (case qx27 => k_is); (case qx28 => k_is); (case qx29 => k_is); (case qx30 => k_is); (case qx31 => first | rfl | k_is); (case qx32 => first | rfl | decide +kernel); (case qx33 => first | k_is | rfl); (case qx34 => first | kit_is | k_is | rfl); (case qx35 => k_is); (case qx36 => ks_is); (case qx37 => k_is); (case qx38 => k_is)
    intro c_InvalidWords c_WrongSum c_LossError f_InvalidWords___init__ d_InvalidWords___init__ x_oe_InvalidWords x_ii_InvalidWords_InvalidWords x_it_InvalidWords x_mg_InvalidWords x_be_InvalidWords x_ex_InvalidWords_InvalidWords x_is_InvalidWords_WrongSum x_mg_WrongSum x_xf_InvalidWords_place x_mg_LossError x_fs_InvalidWords x_sv_InvalidWords_InvalidWords x_nf_InvalidWords_place
    have x_no_int : mg "int" = none := by
      refine' PySem.W.mg_none_of KX G ?nno_int
      (case nno_int => k_is)
    have x_no_len : mg "len" = none := by
      refine' PySem.W.mg_none_of KX G ?nno_len
      (case nno_len => k_is)
    have x_no_range : mg "range" = none := by
      refine' PySem.W.mg_none_of KX G ?nno_range
      (case nno_range => k_is)
    have x_no_list : mg "list" = none := by
      refine' PySem.W.mg_none_of KX G ?nno_list
      (case nno_list => k_is)
    have x_no_isinstance : mg "isinstance" = none := by
      refine' PySem.W.mg_none_of KX G ?nno_isinstance
      (case nno_isinstance => k_is)
    have x_no_bool : mg "bool" = none := by
      refine' PySem.W.mg_none_of KX G ?nno_bool
      (case nno_bool => k_is)
    refine' Y.k03.useConst KX G (x := "PRIME") (i := 65537) ?nmg_PRIME ?rmg_PRIME
    (case nmg_PRIME => k_is)
    intro x_mg_PRIME
    have x_no_tuple : mg "tuple" = none := by
      refine' PySem.W.mg_none_of KX G ?nno_tuple
      (case nno_tuple => k_is)
    have x_no_enumerate : mg "enumerate" = none := by
      refine' PySem.W.mg_none_of KX G ?nno_enumerate
      (case nno_enumerate => k_is)
    refine' Y.k03.useConst KX G (x := "GREATEST_WORD") (i := 65535) ?nmg_GREATEST_WORD ?rmg_GREATEST_WORD
    (case nmg_GREATEST_WORD => k_is)
    intro x_mg_GREATEST_WORD
    have x_no_min : mg "min" = none := by
      refine' PySem.W.mg_none_of KX G ?nno_min
      (case nno_min => k_is)
    have x_no_max : mg "max" = none := by
      refine' PySem.W.mg_none_of KX G ?nno_max
      (case nno_max => k_is)
    have x_no_super : mg "super" = none := by
      refine' PySem.W.mg_none_of KX G ?nno_super
      (case nno_super => k_is)
    have x_sup_top : ((PySem.Challenge.rw_lossway_k03_sum_tells_changes).prog.main.scope.names.lookup ("super" : Str)).isSome = false := by first | rfl | decide +kernel
    have e := hmg.symm.trans m_law
    cases e
    refine ⟨d_law, fun s u => .of_eq (b_law [u] rfl), fun base hb hg => ?_⟩
    exact (Y.k03.ok_law (a := { S := Y.SK _, f_purse := f_purse, d_purse := d_purse, f_draw := f_draw, d_draw := d_draw, f_word := f_word, d_word := d_word, f_sequence := f_sequence, d_sequence := d_sequence, f_sum := f_sum, d_sum := d_sum, f_is := f_is, d_is := d_is, f_is_row := f_is_row, d_is_row := d_is_row, f_is_whole := f_is_whole, d_is_whole := d_is_whole, f_in_range := f_in_range, d_in_range := d_in_range, f_demand_words := f_demand_words, d_demand_words := d_demand_words, f_check_sum := f_check_sum, d_check_sum := d_check_sum, f_form := f_form, d_form := d_form, f_changes := f_changes, d_changes := d_changes, f_number := f_number, d_number := d_number, f_odd := f_odd, d_odd := d_odd, f_is_word := f_is_word, d_is_word := d_is_word, f_refusal := f_refusal, d_refusal := d_refusal, f_refuses := f_refuses, d_refuses := d_refuses, f_law := _, d_law := d_law, f_InvalidWords___init__ := f_InvalidWords___init__, d_InvalidWords___init__ := d_InvalidWords___init__, c_InvalidWords := c_InvalidWords, c_WrongSum := c_WrongSum, c_LossError := c_LossError }) { st := rfl, no_int := x_no_int, mg_purse := m_purse, bd_purse := .all b_purse, fn_purse := F_purse, no_len := x_no_len, mg_draw := m_draw, bd_draw := .all b_draw, fn_draw := F_draw, mg_word := m_word, bd_word := .all b_word, fn_word := F_word, no_range := x_no_range, mg_sequence := m_sequence, bd_sequence := .all b_sequence, fn_sequence := F_sequence, mg_sum := m_sum, bd_sum := .all b_sum, fn_sum := F_sum, no_list := x_no_list, no_isinstance := x_no_isinstance, no_bool := x_no_bool, mg_is := m_is, bd_is := .all b_is, mg_PRIME := x_mg_PRIME, fn_is := F_is, no_tuple := x_no_tuple, mg_is_row := m_is_row, bd_is_row := .all b_is_row, fn_is_row := F_is_row, oe_InvalidWords := x_oe_InvalidWords, ii_InvalidWords_InvalidWords := x_ii_InvalidWords_InvalidWords, it_InvalidWords := x_it_InvalidWords, mg_InvalidWords := x_mg_InvalidWords, be_InvalidWords := x_be_InvalidWords, no_enumerate := x_no_enumerate, mg_is_whole := m_is_whole, bd_is_whole := .all b_is_whole, fn_is_whole := F_is_whole, mg_in_range := m_in_range, bd_in_range := .all b_in_range, mg_GREATEST_WORD := x_mg_GREATEST_WORD, fn_in_range := F_in_range, mg_demand_words := m_demand_words, bd_demand_words := .all b_demand_words, fn_demand_words := F_demand_words, mg_check_sum := m_check_sum, bd_check_sum := .all b_check_sum, fn_check_sum := F_check_sum, mg_form := m_form, bd_form := .all b_form, fn_form := F_form, mg_changes := m_changes, bd_changes := .all b_changes, fn_changes := F_changes, no_min := x_no_min, no_max := x_no_max, mg_number := m_number, bd_number := .all b_number, fn_number := F_number, mg_odd := m_odd, bd_odd := .all b_odd, fn_odd := F_odd, mg_is_word := m_is_word, bd_is_word := .all b_is_word, fn_is_word := F_is_word, ex_InvalidWords_InvalidWords := x_ex_InvalidWords_InvalidWords, is_InvalidWords_WrongSum := x_is_InvalidWords_WrongSum, mg_WrongSum := x_mg_WrongSum, xf_InvalidWords_place := x_xf_InvalidWords_place, mg_LossError := x_mg_LossError, mg_refusal := m_refusal, bd_refusal := .all b_refusal, fn_refusal := F_refusal, mg_refuses := m_refuses, bd_refuses := .all b_refuses, fn_refuses := F_refuses, fn_law := F_law, bd_law := .all b_law, mg_law := m_law, fs_InvalidWords := x_fs_InvalidWords, sv_InvalidWords_InvalidWords := x_sv_InvalidWords_InvalidWords, nf_InvalidWords_place := x_nf_InvalidWords_place, no_super := x_no_super, sup_top := x_sup_top }).imp fun vs H Q E h => Y.k03.law_holds _ rfl vs H Q E h

