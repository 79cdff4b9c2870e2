import PyProof.Rows.All
import Wide.All
import OpenK.AllK
import Wide.FinOn
import HandS.ForMost
import HandS.ForExc
import HandS.IsInst
import HandS.ClsMeth
import HandS.Wide
import HandS.Flow
import HandS.Property
import HandS.WideBits
import HandS.Flt
import HandS.ExcInit
import HandS.ExcSuper
import HandS.ExcField
import HandS.ExcIs
import HandS.ExcOwn
import HandS.WordsExc
import KE.KExcSuper
import KE.KSuper
import KE.KExcIs
import HandS.Defaults
import KE.GoesEnum
import HandS.FStr
import HandS.More
import HandS.Walk
import PyProof.Rows.RegStrFacts
import HandS.MakeKw
import HandS.MakeKwOnly
import HandS.Text
import PyProof.ReprRoads
import HandS.Ends
import HandS.TupAny
import PySem.Challenge.RW_lossway_k55_ledgers_judged
set_option Elab.async false
set_option linter.all false
set_option maxRecDepth 100000
set_option maxHeartbeats 4000000
set_option synthInstance.maxHeartbeats 0
set_option synthInstance.maxSize 1000000
set_option synthInstance.checkSynthOrder false
/-! The layer of this work: readings without the written part, a def's promise by its own body. -/
namespace Y
open PySem PySem.Spec PyProof.Rows L2

/-! ### weaker readings -/
section
variable {X : Cx}
theorem pe_imp {e : Expr} {t t' : TE} (h : PE X e t) (hi : ∀ σ H Q, t' σ H Q → t σ H Q) : PE X e t' := ⟨fun pins s σ H Q I q => h.run pins s σ H Q I (hi σ H Q q)⟩
theorem ps_imp {e : Stmt} {t t' : TS} (h : PS X e t) (hi : ∀ D σ H, t' D σ H → t D σ H) : PS X e t' := ⟨fun pins s σ H D I q => h.run pins s σ H D I (hi D σ H q)⟩
theorem op_imp {f : Value → Value → Sem Value} {r r' : R2} (h : OpR X f r) (hi : ∀ x y H Q, r' x y H Q → r x y H Q) : OpR X f r' := fun pins s σ H x y v u Q I rx ry q => h pins s σ H x y v u Q I rx ry (hi x y H Q q)
theorem op_or {f : Value → Value → Sem Value} {r r' : R2} (h : OpR X f r) (h' : OpR X f r') : OpR X f (fun x y H Q => r x y H Q ∨ r' x y H Q) := fun pins s σ H x y v u Q I rx ry q =>
  q.elim (h pins s σ H x y v u Q I rx ry) (h' pins s σ H x y v u Q I rx ry)
theorem ix_imp {r r' : R2} (h : IxR X r) (hi : ∀ x y H Q, r' x y H Q → r x y H Q) : IxR X r' := fun value slice pins s σ H x y v u Q I rx ry q hs => h value slice pins s σ H x y v u Q I rx ry (hi x y H Q q) hs
theorem call_imp {f : Value} {r r' : List V → Hp → VK → Prop} (h : CallR X f r) (hi : ∀ xs H Q, r' xs H Q → r xs H Q) : CallR X f r' := fun pins s σ H xs us Q I rx q => h pins s σ H xs us Q I rx (hi xs H Q q)
end

/-! ### what stands at an address; S: static things, of the written part -/
abbrev Sta := Addr → HO → Prop
def SK (K : PySem.W.Frag) : Sta := fun a u => match u with
  | .lst xs => ∃ (o : Obj) (its : Array Value) (n : Nat), K.lookup a = some o ∧ o.cls = .type "list" ∧ o.dict = none ∧ o.data = .seq its n ∧ its.size ≤ sizeLine ∧ Vals xs its.toList
  | .tup xs => ∃ (o : Obj) (its : Array Value) (n : Nat), K.lookup a = some o ∧ o.cls = .type "tuple" ∧ o.data = .seq its n ∧ its.size ≤ sizeLine ∧ Vals xs its.toList
  | _ => False
def RdS (S : Sta) (H : Hp) (p : Addr) (u : HO) : Prop := Rd H p u ∨ S p u
theorem sqL {K : PySem.W.Frag} {S : Sta} {H : Hp} {p : Addr} {xs : List V} (e : S = SK K) (h : RdS S H p (.lst xs)) : SqL K H p xs := by subst e; exact h
theorem sqT {K : PySem.W.Frag} {S : Sta} {H : Hp} {p : Addr} {xs : List V} (e : S = SK K) (h : RdS S H p (.tup xs)) : SqT K H p xs := by subst e; exact h
/-- a list or a tuple -/
def Seq (S : Sta) (H : Hp) (p : Addr) (xs : List V) : Prop := RdS S H p (.lst xs) ∨ RdS S H p (.tup xs)

/-! ### operators -/
def rAdd : R2 := fun x y H Q => (∃ i j, x = .int i ∧ y = .int j ∧ Q (.int (i + j)) H) ∨ (∃ i j, x = .str i ∧ y = .str j ∧ i.length + j.length ≤ sizeLine ∧ Q (.str (i ++ j)) H)
  ∨ (∃ p q a b, x = .ref p ∧ y = .ref q ∧ H p = some (.lst a) ∧ H q = some (.lst b) ∧ a.length + b.length ≤ sizeLine ∧ ∀ r, H r = none → Q (.ref r) (upd H r (.lst (a ++ b))))
def rSub : R2 := rI0 fun i j => .int (i - j)
def rMul : R2 := rI CMul fun i j => .int (i * j)
def rFdiv : R2 := rI CDivW fun i j => .int (i / j)
def rMod : R2 := rI (fun _ j => 0 < j) fun i j => .int (i % j)
def rPow : R2 := rI CPow fun i j => .int (i ^ j.toNat)
def rShl : R2 := rI CPow fun i j => .int (i * 2 ^ j.toNat)
def rAnd : R2 := rI0 fun i j => .int (Builtin.bitAnd i j)
def rLt : R2 := rI0 fun i j => .bl (decide (i < j))
def rLe : R2 := rI0 fun i j => .bl (decide (i ≤ j))
def rGt : R2 := rI0 fun i j => .bl (decide (j < i))
def rGe : R2 := rI0 fun i j => .bl (decide (j ≤ i))
def rNeg : V → Hp → VK → Prop := rU fun i => .int (-i)
def rIs : R2 := fun x y H Q => y = .non ∧ Q (.bl (decide (x = .non))) H
def rIsNot : R2 := fun x y H Q => y = .non ∧ Q (.bl (!decide (x = .non))) H
section
variable {X : Cx}
theorem o_add : OpR X (binaryOp .Add) rAdd := op_imp (op_or op_add (op_or op_add_str op_cat)) fun x y H Q q => by
  rcases q with q | q | ⟨p, q, a, b, e1, e2, h1, h2, h3, h4⟩
  · exact .inl q
  · exact .inr (.inl q)
  · exact .inr (.inr ⟨p, q, a, b, e1, e2, h1, h2, h3, h4⟩)
theorem o_sub : OpR X (binaryOp .Sub) rSub := op_sub
theorem o_mul : OpR X (binaryOp .Mult) rMul := op_mul
theorem o_fdiv : OpR X (binaryOp .FloorDiv) rFdiv := op_fdivW
theorem o_mod : OpR X (binaryOp .Mod) rMod := op_mod
theorem o_pow : OpR X (binaryOp .Pow) rPow := op_pow
theorem o_shl : OpR X (binaryOp .LShift) rShl := op_shl
theorem o_and : OpR X (binaryOp .BitAnd) rAnd := op_and
theorem o_lt : OpR X (compareOp .Lt) rLt := op_lt
theorem o_le : OpR X (compareOp .LtE) rLe := op_le
theorem o_gt : OpR X (compareOp .Gt) rGt := op_gt
theorem o_ge : OpR X (compareOp .GtE) rGe := op_ge
theorem o_eq : OpR X (compareOp .Eq) rEq := op_eq
theorem o_ne : OpR X (compareOp .NotEq) rNe := op_ne
theorem o_is : OpR X (compareOp .Is) rIs := op_isN
theorem o_isnot : OpR X (compareOp .IsNot) rIsNot := op_notN
theorem o_neg : UnR X (unaryOp .USub) rNeg := un_neg
end

/-! ### subscripts, len, slices -/
def rIx (S : Sta) : R2 := fun x y H Q => (∃ p xs i v, x = .ref p ∧ y = .int i ∧ Seq S H p xs ∧ atI xs i = some v ∧ Q v H) ∨ (∃ z i c, x = .str z ∧ y = .int i ∧ z.length ≤ sizeLine ∧ atI z.cps.toList i = some c ∧ Q (.str ⟨#[c]⟩) H)
def rLen (S : Sta) : List V → Hp → VK → Prop := fun xs H Q => (∃ p ys, xs = [.ref p] ∧ Seq S H p ys ∧ Q (.int ys.length) H) ∨ (∃ z, xs = [.str z] ∧ z.length ≤ sizeLine ∧ Q (.int z.length) H)
def rInt : List V → Hp → VK → Prop := fun xs H Q => (∃ i, xs = [.int i] ∧ Q (.int i) H) ∨ ∃ k, xs = [.bl k] ∧ Q (.int (if k then 1 else 0)) H
def rStrI : List V → Hp → VK → Prop := fun xs H Q => ∃ i, xs = [.int i] ∧ i.natAbs.log2 < 1920 ∧ Q (.str (toString i)) H
def rSl (S : Sta) : V → Option Int → Option Int → Hp → VK → Prop := fun x lo hi H Q => ∃ a xs, x = .ref a ∧ RdS S H a (.lst xs) ∧ ∀ p, H p = none → Q (.ref p) (upd H p (.lst (cutV xs lo hi)))
section
variable {X : Cx}
variable {S : Sta}
theorem o_ix (st : S = SK X.K) : IxR X (rIx S) := ix_imp (ix_list.or (ix_tup.or ix_str)) fun x y H Q q => by
  rcases q with ⟨p, xs, i, v, e1, e2, h | h, h2, h3⟩ | q
  · exact .inl ⟨p, xs, i, v, e1, e2, sqL st h, h2, h3⟩
  · exact .inr (.inl ⟨p, xs, i, v, e1, e2, sqT st h, h2, h3⟩)
  · exact .inr (.inr q)
theorem c_len (st : S = SK X.K) : CallR X (.builtin "len") (rLen S) := call_imp call_len fun xs H Q q => by
  rcases q with ⟨p, ys, e, h | h, q⟩ | ⟨z, e, h, q⟩
  · exact ⟨_, _, e, .inl ⟨_, sqL st h, rfl⟩, q⟩
  · exact ⟨_, _, e, .inr ⟨_, sqT st h, rfl⟩, q⟩
  · exact ⟨_, _, e, ⟨h, rfl⟩, q⟩
theorem c_int : CallR X (.type "int") rInt := call_int1
theorem c_strI : CallR X (.type "str") rStrI := call_str_int
theorem o_sl (st : S = SK X.K) : SlR X (rSl S) := fun pins s σ H x v vl vu lo hi sl Q I rx hs pl pu h => by
  obtain ⟨a, xs, e, hx, q⟩ := h
  exact sl_list pins s σ H x v vl vu lo hi sl Q I rx hs pl pu ⟨a, xs, e, sqL st hx, q⟩
end

/-! ### small built-ins -/
def rAbs : List V → Hp → VK → Prop := fun xs H Q => ∃ i, xs = [.int i] ∧ Q (.int (if i < 0 then -i else i)) H
def rMin2 : List V → Hp → VK → Prop := fun xs H Q => ∃ i j, xs = [.int i, .int j] ∧ Q (.int (if j < i then j else i)) H
def rMax2 : List V → Hp → VK → Prop := fun xs H Q => ∃ i j, xs = [.int i, .int j] ∧ Q (.int (if j > i then j else i)) H
def rMin3 : List V → Hp → VK → Prop := fun xs H Q => ∃ i j k, xs = [.int i, .int j, .int k] ∧ Q (.int (min (min i j) k)) H
def rSum (S : Sta) : List V → Hp → VK → Prop := fun vs H Q => ∃ (a : Addr) (ns : List Int), vs = [V.ref a] ∧ RdS S H a (.lst (ns.map V.int)) ∧ Q (.int ns.sum) H
def rAll (S : Sta) : List V → Hp → VK → Prop := fun vs H Q => ∃ (a : Addr) (bs : List Bool), vs = [V.ref a] ∧ RdS S H a (.lst (bs.map V.bl)) ∧ Q (.bl (bs.all id)) H
def rMaxL (S : Sta) : List V → Hp → VK → Prop := fun vs H Q => ∃ (a : Addr) (ns : List Int), vs = [V.ref a] ∧ RdS S H a (.lst (ns.map V.int)) ∧ 0 < ns.length ∧ ∀ m, m ∈ ns → (∀ y, y ∈ ns → y ≤ m) → Q (.int m) H
def rMinL (S : Sta) : List V → Hp → VK → Prop := fun vs H Q => ∃ (a : Addr) (ns : List Int), vs = [V.ref a] ∧ RdS S H a (.lst (ns.map V.int)) ∧ 0 < ns.length ∧ ∀ m, m ∈ ns → (∀ y, y ∈ ns → m ≤ y) → Q (.int m) H
def rListOf (S : Sta) : List V → Hp → VK → Prop := fun xs H Q => ∃ p ys, xs = [.ref p] ∧ Seq S H p ys ∧ ∀ l, H l = none → Q (.ref l) (upd H l (.lst ys))
def rTupleOf (S : Sta) : List V → Hp → VK → Prop := fun xs H Q => ∃ p ys, xs = [.ref p] ∧ ((RdS S H p (.lst ys) ∧ ∀ l, H l = none → Q (.ref l) (upd H l (.tup ys))) ∨ (RdS S H p (.tup ys) ∧ Q (.ref p) H))
section
variable {X : Cx} {S : Sta}
theorem c_abs : CallR X (.builtin "abs") rAbs := call_abs
theorem c_min2 (hc : X.calm = true) : CallR X (.builtin "min") rMin2 := call_min2 hc
theorem c_max2 (hc : X.calm = true) : CallR X (.builtin "max") rMax2 := call_max2 hc
theorem c_min3 (hc : X.calm = true) : CallR X (.builtin "min") rMin3 := call_imp (call_min3Nu hc) fun xs H Q ⟨i, j, k, e, q⟩ => by
  refine ⟨.int i, .int j, .int k, .int (min (min i j) k), e, ?_, q⟩
  have h2 : ∀ a b : Int, nuMin2 (.int a) (.int b) = some (.int (min a b)) := fun a b => by
    show some (if decide (b < a) = true then V.int b else V.int a) = _
    by_cases h : b < a
    · rw [decide_eq_true h, if_pos rfl, show min a b = b by omega]
    · rw [decide_eq_false h, if_neg Bool.false_ne_true, show min a b = a by omega]
  show (nuMin2 (.int i) (.int j)).bind _ = _
  rw [h2]
  exact h2 _ _
theorem c_sum (st : S = SK X.K) (hc : X.calm = true) : CallR X (.builtin "sum") (rSum S) := call_imp (cr_sum hc) fun xs H Q ⟨a, ns, e, h, q⟩ => ⟨a, ns, e, sqL st h, q⟩
theorem c_all (st : S = SK X.K) (hc : X.calm = true) : CallR X (.builtin "all") (rAll S) := call_imp (cr_all hc) fun xs H Q ⟨a, ns, e, h, q⟩ => ⟨a, ns, e, sqL st h, q⟩
theorem c_maxL (st : S = SK X.K) (hc : X.calm = true) : CallR X (.builtin "max") (rMaxL S) := call_imp (cr_max hc) fun xs H Q ⟨a, ns, e, h, q⟩ => ⟨a, ns, e, sqL st h, q⟩
theorem c_minL (st : S = SK X.K) (hc : X.calm = true) : CallR X (.builtin "min") (rMinL S) := call_imp (cr_min hc) fun xs H Q ⟨a, ns, e, h, q⟩ => ⟨a, ns, e, sqL st h, q⟩
theorem c_list (st : S = SK X.K) : CallR X (.type "list") (rListOf S) := call_imp call_list_of fun xs H Q ⟨p, ys, e, h, q⟩ => ⟨p, ys, e, h.elim (fun h => .inl (sqL st h)) (fun h => .inr (sqT st h)), q⟩
theorem c_tuple (st : S = SK X.K) : CallR X (.type "tuple") (rTupleOf S) := call_imp call_tuple_of fun xs H Q ⟨p, ys, e, h⟩ => ⟨p, ys, e, h.elim (fun h => .inl ⟨sqL st h.1, h.2⟩) (fun h => .inr ⟨sqT st h.1, h.2⟩)⟩
end

/-! ### == of data at any depth -/
mutual
inductive DpS (S : Sta) (H : Hp) : V → PyData → Prop
  | non : DpS S H .non .none
  | bl (b : Bool) : DpS S H (.bl b) (.bool b)
  | int (i : Int) : DpS S H (.int i) (.int i)
  | str (x : Str) : DpS S H (.str x) (.str x)
  | lst {a : Addr} {xs : List V} {ds : List PyData} : RdS S H a (.lst xs) → DpSs S H xs ds → DpS S H (.ref a) (.list ds)
  | tup {a : Addr} {xs : List V} {ds : List PyData} : RdS S H a (.tup xs) → DpSs S H xs ds → DpS S H (.ref a) (.tuple ds)
inductive DpSs (S : Sta) (H : Hp) : List V → List PyData → Prop
  | nil : DpSs S H [] []
  | cons {v : V} {vs : List V} {d : PyData} {ds : List PyData} : DpS S H v d → DpSs S H vs ds → DpSs S H (v :: vs) (d :: ds)
end
mutual
theorem DpS.dp {K : PySem.W.Frag} {S : Sta} (st : S = SK K) {H : Hp} : ∀ {v : V} {d : PyData}, DpS S H v d → Dp K H v d
  | _, _, .non => .non
  | _, _, .bl b => .bl b
  | _, _, .int i => .int i
  | _, _, .str x => .str x
  | _, _, .lst h r => .lst (sqL st h) (DpSs.dp st r)
  | _, _, .tup h r => .tup (sqT st h) (DpSs.dp st r)
theorem DpSs.dp {K : PySem.W.Frag} {S : Sta} (st : S = SK K) {H : Hp} : ∀ {v : List V} {d : List PyData}, DpSs S H v d → DpAll K H v d
  | _, _, .nil => .nil
  | _, _, .cons h r => .cons (DpS.dp st h) (DpSs.dp st r)
end
def rEqP (S : Sta) : R2 := fun x y H Q => rEq x y H Q ∨ ∃ d e, DpS S H x d ∧ DpS S H y e ∧ SeqAt.shaped d = true ∧ SeqAt.shaped e = true ∧ Q (.bl (PyData.eqv d e)) H
def rNeP (S : Sta) : R2 := fun x y H Q => rNe x y H Q ∨ ∃ d e, DpS S H x d ∧ DpS S H y e ∧ SeqAt.shaped d = true ∧ SeqAt.shaped e = true ∧ Q (.bl (!PyData.eqv d e)) H
section
variable {X : Cx} {S : Sta}
theorem o_eqP (st : S = SK X.K) (hu : X.A.units + 64 < cLine) : OpR X (compareOp .Eq) (rEqP S) := op_imp (op_or op_eq (op_eqD hu)) fun x y H Q q => q.elim .inl fun ⟨d, e, h1, h2, q⟩ => .inr ⟨d, e, h1.dp st, h2.dp st, q⟩
theorem o_neP (st : S = SK X.K) (hu : X.A.units + 64 < cLine) : OpR X (compareOp .NotEq) (rNeP S) := op_imp (op_or op_ne (op_neD hu)) fun x y H Q q => q.elim .inl fun ⟨d, e, h1, h2, q⟩ => .inr ⟨d, e, h1.dp st, h2.dp st, q⟩
end

/-! ### in: a sign in a text; a flat value in a list or a tuple -/
def rInA (S : Sta) (neg : Bool) : R2 := fun x y H Q => (∃ p xs, y = .ref p ∧ Seq S H p xs ∧ flatV x = true ∧ xs.all flatV = true ∧ Q (.bl (if neg then !inV x xs else inV x xs)) H)
  ∨ (∃ (c : Nat) (z : Str), x = .str ⟨#[c]⟩ ∧ y = .str z ∧ Q (.bl (if neg then !decide (c ∈ z.cps.toList) else decide (c ∈ z.cps.toList))) H)
section
variable {X : Cx} {S : Sta}
theorem o_inA (st : S = SK X.K) : OpR X (compareOp .In) (rInA S false) := op_imp (op_or op_in_seq op_in_sign) fun x y H Q q => by
  rcases q with ⟨p, xs, e, h, f, fs, q⟩ | q
  · exact .inl ⟨p, xs, e, h.elim (fun h => .inl (sqL st h)) (fun h => .inr (sqT st h)), f, fs, q⟩
  · exact .inr q
theorem o_notInA (st : S = SK X.K) : OpR X (compareOp .NotIn) (rInA S true) := op_imp (op_or op_notIn_seq op_notIn_sign) fun x y H Q q => by
  rcases q with ⟨p, xs, e, h, f, fs, q⟩ | q
  · exact .inl ⟨p, xs, e, h.elim (fun h => .inl (sqL st h)) (fun h => .inr (sqT st h)), f, fs, q⟩
  · exact .inr q
end

/-! ### types -/
inductive TyN (H : Hp) : V → String → Prop where
  | non : TyN H .non "NoneType"
  | bl (b : Bool) : TyN H (.bl b) "bool"
  | int (i : Int) : TyN H (.int i) "int"
  | str (s : Str) : TyN H (.str s) "str"
  | lst {a : Addr} {xs : List V} (e : Rd H a (.lst xs)) : TyN H (.ref a) "list"
  | tup {a : Addr} {xs : List V} (e : Rd H a (.tup xs)) : TyN H (.ref a) "tuple"
  | dK {a : Addr} {kvs : List (Key × V)} (e : H a = some (.dK kvs)) : TyN H (.ref a) "dict"
theorem TyN.x {K : PySem.W.Frag} {H : Hp} {x : V} {n : String} (t : TyN H x n) : TyX K H x (.type n) := by
  cases t with
  | non => exact .base .non
  | bl b => exact .base (.bl b)
  | int i => exact .base (.int i)
  | str s => exact .base (.str s)
  | lst e =>
    rcases e with e | ⟨o, e⟩
    · exact .base (.lst e)
    · exact .base (.frz e)
  | tup e =>
    rcases e with e | ⟨o, e⟩
    · exact .base (.tup e)
    · exact .fTuple e
  | dK e => exact .base (.dK e)
/-- isinstance(x, n) of a built-in class n, for the types above -/
def isA (t n : String) : Bool := t == n || (t == "bool" && n == "int")
def rIsI : List V → Hp → VK → Prop := fun xs H Q => ∃ x n t, xs = [x, .ty n] ∧ TyN H x t ∧ kitB t n = some (isA t n) ∧ Q (.bl (isA t n)) H
theorem c_isi {X : Cx} : CallR X (.builtin "isinstance") rIsI := call_imp call_isi fun xs H Q q => by
  obtain ⟨x, n, t, e, ty, k, q⟩ := q
  exact ⟨x, .ty n, .type t, .type n, isA t n, e, .ty n, ty.x, kit_ty k, q⟩

/-! ### fields, methods -/
/-- a reading closed under weaker ends -/
def mo (te : TE) : TE := fun σ H Q => ∃ Q0 : VK, te σ H Q0 ∧ ∀ v H', Q0 v H' → Q v H'
def moA (ta : TA) : TA := fun σ H Q => ∃ Q0 : List V → Hp → Prop, ta σ H Q0 ∧ ∀ v H', Q0 v H' → Q v H'
def eFld (C : Addr) (f : Str) (te : TE) : TE := fun σ H Q => te σ H fun x H1 => ∃ a dx fs v, x = .ref a ∧ H1 a = some (.ins C dx fs) ∧ fs.lookup f = some v ∧ Q v H1
def sSetF (C : Addr) (f : Str) (te tv : TE) : TS := fun D σ H => tv σ H fun y H1 => te σ H1 fun x H2 => ∃ a dx fs, x = .ref a ∧ H2 a = some (.ins C dx fs) ∧ fs.length < 1000 ∧ D.nx σ (upd H2 a (.ins C dx (putF f y fs)))
/-- o.f, a property -/
def eProp (C : Addr) (sp : Sp) (te : TE) : TE := fun σ H Q => te σ H fun x H1 => ∃ a dx fs, x = .ref a ∧ H1 a = some (.ins C dx fs) ∧ sp [.ref a] H1 Q E0
/-- o.f += e -/
def sAugF (C : Addr) (f : Str) (te tv : TE) (rd : V → V → Hp → VK → Prop) : TS := fun D σ H => te σ H fun x H1 => ∃ a dx fs v, x = .ref a ∧ H1 a = some (.ins C dx fs) ∧ fs.lookup f = some v ∧
  tv σ H1 fun y H2 => rd v y H2 fun z H3 => ∃ dx' fs', H3 a = some (.ins C dx' fs') ∧ fs'.length < 1000 ∧ D.nx σ (upd H3 a (.ins C dx' (putF f z fs')))
/-- x.append(e) -/
def eApp (te : TE) (ta : TA) : TE := fun σ H Q => te σ H fun x H1 => ∃ l, x = .ref l ∧ (∃ xs, H1 l = some (.lst xs)) ∧ ta σ H1 fun vs H2 => rAppend x vs H2 Q
section
variable {X : Cx} {C : Addr} {f : Str} {e ev o : Expr} {es : List Expr} {te tv : TE} {ta : TA} {pos pos' pos2 apos cpos : Pos}
theorem pe_mo (he : PE X e te) : PE X e (mo te) := ⟨fun pins s σ H Q I ⟨Q0, h, hq⟩ => thn (he.run pins s σ H Q0 I h) fun _ _ ⟨v, H', I', r, q⟩ => ⟨v, H', I', r, hq v H' q⟩⟩
theorem pa_mo (he : PA X es ta) : PA X es (moA ta) := ⟨fun pos pins s σ H Q I ⟨Q0, h, hq⟩ => thn (he.run pos pins s σ H Q0 I h) fun _ _ ⟨v, H', I', r, q⟩ => ⟨v, H', I', r, hq v H' q⟩⟩
theorem pe_fldC (c : Cls X.K C) (n : NoAttr X.K C f) (he : PE X e te) (hb : attributeBase e f X.env (eval e X.env) = eval e X.env := by rfl) : PE X (.Attribute e f pos) (eFld C f te) :=
  pe_imp (pe_fld (pe_mo he) hb) fun σ H Q q => ⟨_, q, fun v H' ⟨a, dx, fs, w, e1, e2, l, q⟩ => ⟨a, C, dx, fs, w, e1, e2, c, n, l, q⟩⟩
theorem ps_setF (c : Cls X.K C) (n : NoAttr X.K C f) (ha : PE X o te) (hv : PE X ev tv) (hs : swapsWith ev (some (.Attribute o f pos')) pos.line X.env = pure false := by rfl) :
    PS X (.Assign [.Attribute o f pos'] ev pos) (sSetF C f te tv) :=
  ps_imp (ps_fld (pe_mo ha) (pe_mo hv) hs) fun D σ H q => ⟨_, q, fun y H1 q1 => ⟨_, q1, fun x H2 ⟨a, dx, fs, e1, e2, l, q2⟩ => ⟨a, C, dx, fs, e1, e2, c, n, l, q2⟩⟩⟩
theorem pe_propC {CX : CXT} {k : Nat} {p g : Addr} {fd : FuncData} {ps : List Str} {sp : Sp} (he : PE X e te) (c : Cls X.K C) (hp : PropOf X.K C f p g) (F : FnOk X.prog X.w X.K X.mg X.base CX k g fd ps sp) (hr : Room (k + 1) X.A) (hb : Binds X.K fd ps []) (hx : Passes CX X.nox E0)
    (hab : attributeBase e f X.env (eval e X.env) = eval e X.env := by rfl) : PE X (.Attribute e f pos) (eProp C sp te) := pe_imp (pe_prop he c hp F hr hb .nil hx hab) fun _ _ _ q => q
theorem ps_augF {op : Operator} {rd : V → V → Hp → VK → Prop} (c : Cls X.K C) (n : NoAttr X.K C f) (ha : PE X o te) (hv : PE X ev tv) (hop : InOp X op rd) : PS X (.AugAssign (.Attribute o f pos') op ev pos) (sAugF C f te tv rd) :=
  ps_imp (ps_fldaug (pe_mo ha) (pe_mo hv) hop) fun D σ H q => ⟨_, q, fun x H1 ⟨a, dx, fs, v, e1, e2, l, q2⟩ => ⟨a, C, dx, fs, v, e1, e2, c, n, l, ⟨_, q2, fun y H2 q3 => q3⟩⟩⟩
theorem pe_app (ho : PE X o te) (ha : PA X (e :: es) ta)
    (hbase : attributeBase o "append" X.env (eval o X.env) = eval o X.env := by rfl)
    (hfew : ((backTo cpos (starEach (e :: es) X.env)).all (fun x => !x.1) && (backToKw cpos (keywordEach [] X.env)).all (fun x => x.1.isSome)
      && decide ((e :: es).length + ([] : List Keyword).length + (if ([] : List Keyword).isEmpty then 0 else 1) < 30)) = true := by rfl)
    (hline : (apos.endLine == cpos.line) = true := by rfl) (hs : starEach (e :: es) X.env = (false, eval e X.env) :: starEach es X.env := by rfl) (hplain : (backTo cpos (starEach es X.env)).any (·.1) = false := by rfl) :
    PE X (.Call (.Attribute o "append" apos) (e :: es) [] cpos) (eApp te ta) :=
  pe_imp (pe_bm PySem.F.plainAttrs_list PySem.F.slot_list_append PySem.F.type_list_append mt_append (pe_mo ho) ha hbase hfew hline hs hplain) fun σ H Q q =>
    ⟨_, q, fun x H1 ⟨l, e1, ⟨xs, hl⟩, q1⟩ => by subst e1; exact ⟨.inl ⟨rfl, _, .inl (.inl hl)⟩, q1⟩⟩
end

/-! ### for, over a list or a tuple; over a range -/
/-- what is walked stays as it is -/
def Stays (S : Sta) (a : Addr) (xs : List V) (R : Nat → Hp → Prop) : Prop := (∀ i H, i ≤ xs.length → R i H → RdS S H a (.lst xs)) ∨ (∀ i H, i ≤ xs.length → R i H → RdS S H a (.tup xs))
def iSeq (K : PySem.W.Frag) (te : TE) : TI := fun σ H R => te σ H fun x H1 => ∃ a, x = .ref a ∧ (((∃ xs, SqL K H1 a xs) ∧ R (Itl K a) H1) ∨ ((∃ xs, SqT K H1 a xs) ∧ R (Itt K a) H1))
def sFor (S : Sta) (te : TE) (g : TG) (tb : TS) : TS := fun D σ H => te σ H fun x H1 => ∃ a xs, x = .ref a ∧ ∃ Pv : Nat → L2.St → Hp → Prop, Pv 0 σ H1 ∧ Stays S a xs (fun i H => ∃ σ, Pv i σ H) ∧
  (∀ i y σ H, xs[i]? = some y → Pv i σ H → g y σ H fun σ' H' => tb ⟨Pv (i + 1), D.rt, D.nx, Pv (i + 1)⟩ σ' H') ∧ ∀ σ H, Pv xs.length σ H → D.nx σ H
def sForR (lo : Option TE) (hi : TE) (g : TG) (tb : TS) : TS := fun D σ H =>
  let body : Int → Int → L2.St → Hp → Prop := fun lo hi σ1 H1 => (-(2 ^ 62) ≤ lo ∧ lo < 2 ^ 62 ∧ -(2 ^ 62) ≤ hi ∧ hi < 2 ^ 62) ∧ ∃ Pv : Nat → L2.St → Hp → Prop, Pv 0 σ1 H1 ∧
    (∀ (i : Nat) σ H, lo + i < hi → Pv i σ H → g (.int (lo + i)) σ H fun σ' H' => tb ⟨Pv (i + 1), D.rt, D.nx, Pv (i + 1)⟩ σ' H') ∧ ∀ σ H, Pv (hi - lo).toNat σ H → D.nx σ H
  match lo with
  | none => hi σ H fun y H1 => ∃ j, y = .int j ∧ body 0 j σ H1
  | some lo => lo σ H fun x H1 => hi σ H1 fun y H2 => ∃ i j, x = .int i ∧ y = .int j ∧ body i j σ H2
section
variable {X : Cx} {tg l a b : Expr} {te ta tb' : TE} {g : TG} {tb : TS} {body : List Stmt} {pos p : Pos}
theorem pi_seq (hl : PE X l te) : PI X tg l (iSeq X.K te) := by
  refine ⟨fun pins s σ H R I h => ?_⟩
  refine thn (hl.run pins s σ H _ I h) fun v s1 ⟨x, H1, I1, r1, q1⟩ => ?_
  obtain ⟨a, e, q⟩ := q1
  subst e
  cases r1
  have fp : ∀ b ∈ [s1.heap.objs.size], ∀ {s2 : Shared} , Inv X pins σ H1 s2 → s2.heap.objs.size = s1.heap.objs.size → FpOk X pins H1 b := fun b hb s2 I2 hs => by
    have e : b = s1.heap.objs.size := by simpa using hb
    subst e
    exact I1.fpOk (Nat.le_refl _) (I1.hok.fresh (Nat.le_refl _))
  rcases q with ⟨⟨xs, hq⟩, q⟩ | ⟨⟨xs, hq⟩, q⟩
  · obtain ⟨its, rv, p, hz⟩ := I1.list hq
    refine wpAny_pyIter_list p.isList ?_
    refine ⟨s1.heap.objs.size, [s1.heap.objs.size], _, _, H1, rfl, I1.kept (t' := s1.toks) fun b o e => Heap.get?_push_of_some _ e, turn_list a _, ⟨_, Heap.get?_push_size _ rfl, rfl, rfl⟩, fun b hb => fp b hb I1 rfl, q⟩
  · obtain ⟨its, rv, p, hz⟩ := I1.tuple hq
    refine wpAny_pyIter_tuple (show s1.heap.IsTuple a its.toArray from p) ?_
    refine ⟨s1.heap.objs.size, [s1.heap.objs.size], _, _, H1, rfl, I1.kept (t' := s1.toks) fun b o e => Heap.get?_push_of_some _ e, turn_tuple a _, ⟨_, Heap.get?_push_size _ rfl, rfl, rfl⟩, fun b hb => fp b hb I1 rfl, q⟩
theorem ps_forSeq {S : Sta} (st : S = SK X.K) (hp : PassesOwn (model X.prog X.w) X.A X.env X.xe) (hc : X.calm = true) (hl : PE X l te) (hg : PG X tg g) (hb : PSs X body tb) (hs : ∀ x, foldedSetIterable l X.env x = pure x := by intro _; rfl) :
    PS X (.For tg l body [] pos) (sFor S te g tb) :=
  ps_imp (ps_for hp hc (pi_seq (pe_mo hl)) hg hb hs) fun D σ H q => ⟨_, q, fun x H1 ⟨a, xs, e, Pv, h0, hst, ht, hd⟩ => by
    refine ⟨a, e, ?_⟩
    rcases hst with z | z
    · exact .inl ⟨⟨xs, sqL st (z 0 H1 (Nat.zero_le _) ⟨σ, h0⟩)⟩, for_list (K := X.K) (a := a) (xs := xs) Pv h0 (fun i σ H hi p => sqL st (z i H hi ⟨σ, p⟩)) ht hd⟩
    · exact .inr ⟨⟨xs, sqT st (z 0 H1 (Nat.zero_le _) ⟨σ, h0⟩)⟩, for_tup (K := X.K) (a := a) (xs := xs) Pv h0 (fun i σ H hi p => sqT st (z i H hi ⟨σ, p⟩)) ht hd⟩⟩
theorem ps_forR1 (hp : PassesOwn (model X.prog X.w) X.A X.env X.xe) (hc : X.calm = true) (hgl : Gl X "range") (hm : X.mg "range" = none) (ha : PE X a ta) (hg : PG X tg g) (hb : PSs X body tb) (hs : starEach [a] X.env = (false, eval a X.env) :: starEach [] X.env := by rfl)
    (hs' : ∀ x, foldedSetIterable (.Call (.Name "range" p) [a] [] pos2) X.env x = pure x := by intro _; rfl) :
    PS X (.For tg (.Call (.Name "range" p) [a] [] pos2) body [] pos) (sForR none ta g tb) :=
  ps_imp (ps_for hp hc (pi_range1 hgl hm (pa_cons (pe_mo ha) pa_nil hs) hs) hg hb hs') fun D σ H q => ⟨_, q, fun y H1 ⟨j, e, ⟨_, _, h1, h2⟩, Pv, h0, ht, hd⟩ => by
    subst e
    refine ⟨j, rfl, h1, h2, for_range (lo := 0) (n := j.toNat) Pv h0 (fun i σ H hi p => ht i σ H (by omega) p) fun σ H p => hd σ H (by rw [Int.sub_zero]; exact p)⟩⟩
theorem ps_forR2 (hp : PassesOwn (model X.prog X.w) X.A X.env X.xe) (hc : X.calm = true) (hgl : Gl X "range") (hm : X.mg "range" = none) (ha : PE X a ta) (hb' : PE X b tb') (hg : PG X tg g) (hb : PSs X body tb) (hs : starEach [a, b] X.env = (false, eval a X.env) :: starEach [b] X.env := by rfl) (hs2 : starEach [b] X.env = (false, eval b X.env) :: starEach [] X.env := by rfl)
    (hs' : ∀ x, foldedSetIterable (.Call (.Name "range" p) [a, b] [] pos2) X.env x = pure x := by intro _; rfl) :
    PS X (.For tg (.Call (.Name "range" p) [a, b] [] pos2) body [] pos) (sForR (some ta) tb' g tb) :=
  ps_imp (ps_for hp hc (pi_range2 hgl hm (pa_cons (pe_mo ha) (pa_cons (pe_mo hb') pa_nil hs2) hs) (hs.trans (by rw [hs2]; rfl)) hs2) hg hb hs') fun D σ H q => ⟨_, q, fun x H1 q1 => ⟨_, q1, fun y H2 ⟨i, j, e, e', ⟨h1, h2, h3, h4⟩, Pv, h0, ht, hd⟩ => by
    subst e e'
    exact ⟨i, j, rfl, ⟨h1, h2, h3, h4⟩, for_range (lo := i) (n := (j - i).toNat) Pv h0 (fun k σ H hi p => ht k σ H (by omega) p) hd⟩⟩⟩
end

/-! ### list comprehensions -/
def eLc (S : Sta) (te : TE) (g : TG) (tt : TT) (tel : TE) (vs : List Nat) : TE := fun σ H Q => te σ H fun x H1 => ∃ a xs, x = .ref a ∧ ∃ k : Bool, RdS S H1 a (if k then .lst xs else .tup xs) ∧ ∀ D, H1 D = none → ∃ Pv : Nat → Hp → Prop, Pv 0 (upd H1 D (.lst [])) ∧ (∀ i H, i ≤ xs.length → Pv i H → RdS S H a (if k then .lst xs else .tup xs)) ∧
  (∀ i y H, xs[i]? = some y → Pv i H → g y (wipe σ vs) H fun σ2 H2 => wipe σ2 vs = wipe σ vs ∧ tt σ2 H2 fun b H3 => if b = true then tel σ2 H3 fun z H4 => ∃ acc, H4 D = some (.lst acc) ∧ acc.length < sizeLine ∧ Pv (i + 1) (upd H4 D (.lst (acc ++ [z]))) else Pv (i + 1) H3) ∧
  ∀ H, Pv xs.length H → Q (.ref D) H
def eLcR (lo : Option TE) (hi : TE) (g : TG) (tt : TT) (tel : TE) (vs : List Nat) : TE := fun σ H Q =>
  let body : Int → Int → Hp → Prop := fun lo hi H1 => (-(2 ^ 62) ≤ lo ∧ lo < 2 ^ 62 ∧ -(2 ^ 62) ≤ hi ∧ hi < 2 ^ 62) ∧ ∀ D, H1 D = none → ∃ Pv : Nat → Hp → Prop, Pv 0 (upd H1 D (.lst [])) ∧
    (∀ (i : Nat) H, lo + i < hi → Pv i H → g (.int (lo + i)) (wipe σ vs) H fun σ2 H2 => wipe σ2 vs = wipe σ vs ∧ tt σ2 H2 fun b H3 => if b = true then tel σ2 H3 fun z H4 => ∃ acc, H4 D = some (.lst acc) ∧ acc.length < sizeLine ∧ Pv (i + 1) (upd H4 D (.lst (acc ++ [z]))) else Pv (i + 1) H3) ∧
    ∀ H, Pv (hi - lo).toNat H → Q (.ref D) H
  match lo with
  | none => hi σ H fun y H1 => ∃ j, y = .int j ∧ body 0 j H1
  | some lo => lo σ H fun x H1 => hi σ H1 fun y H2 => ∃ i j, x = .int i ∧ y = .int j ∧ body i j H2
section
variable {X : Cx} {tg l a b elt : Expr} {ifs : List Expr} {te ta tb' tel : TE} {tt : TT} {g : TG} {scope : Scope} {own : List (Str × Nat)} {pos p pos2 spos py : Pos}
/-- what a block of a comprehension asks -/
structure Blk (X : Cx) (scope : Scope) (tg elt : Expr) (ifs : List Expr) (g : TG) (tt : TT) (tel : TE) : Prop where
  hg : ∀ (s : Shared) (H : Hp) (C : Addr) (cl : List (Str × Addr)) (fp : List Addr), PG (X.blk s H scope (compEnvC scope cl C X.env) fp) tg g
  ht : ∀ (s : Shared) (H : Hp) (C : Addr) (cl : List (Str × Addr)) (fp : List Addr), PTs (X.blk s H scope (compEnvC scope cl C X.env) fp) ifs tt
  he : ∀ (s : Shared) (H : Hp) (C : Addr) (cl : List (Str × Addr)) (fp : List Addr), PE (X.blk s H scope (compEnvC scope cl C X.env) fp) elt tel
theorem lc_of {K : PySem.W.Frag} {S : Sta} (st : S = SK K) {vs : List Nat} {σ : L2.St} {H : Hp} {Q : VK} (q : eLc S te g tt tel vs σ H Q) : tLc (iSeq K (mo te)) g tt tel vs σ H Q := ⟨_, q, fun x H1 ⟨a, xs, e, k, rd, q⟩ => by
    refine ⟨a, e, ?_⟩
    cases k with
    | true =>
      refine .inl ⟨⟨xs, sqL st rd⟩, fun D hD => ?_⟩
      obtain ⟨Pv, h0, z, ht, hd⟩ := q D hD
      exact lc_list (K := K) (a := a) (xs := xs) Pv h0 (fun i H hi p => sqL st (z i H hi p)) ht hd
    | false =>
      refine .inr ⟨⟨xs, sqT st rd⟩, fun D hD => ?_⟩
      obtain ⟨Pv, h0, z, ht, hd⟩ := q D hD
      exact lc_tup (K := K) (a := a) (xs := xs) Pv h0 (fun i H hi p => sqT st (z i H hi p)) ht hd⟩
theorem pe_lcSeq {S : Sta} (st : S = SK X.K) (hc : X.calm = true) (hN : X.N.Nodup) (hl : PE X l te) (ok : BlkOk X.N X.env.scope scope own) (B : Blk X scope tg elt ifs g tt tel) (hs : ∀ x, foldedSetIterable l X.env x = pure x := by intro _; rfl) :
    PE X (.ListComp elt [⟨tg, l, ifs, 0⟩] scope pos) (eLc S te g tt tel (own.map (·.2))) := pe_imp (pe_lc hc hN (pi_seq (pe_mo hl)) ok B.hg B.ht B.he hs) fun _ _ _ q => lc_of st q
theorem ps_lcSeq {S : Sta} {i : Nat} {y : Str} (st : S = SK X.K) (hc : X.calm = true) (hN : X.N.Nodup) (hy : X.N[i]? = some y) (hyl : X.env.scope.names.lookup y = some .local)
    (hsw : swapsWith (.ListComp elt [⟨tg, l, ifs, 0⟩] scope pos) (some (.Name y py)) spos.line X.env = pure true) (hl : PE X l te) (ok : BlkOk X.N X.env.scope scope own) (B : Blk X scope tg elt ifs g tt tel) (hs : ∀ x, foldedSetIterable l X.env x = pure x := by intro _; rfl) :
    PS X (.Assign [.Name y py] (.ListComp elt [⟨tg, l, ifs, 0⟩] scope pos) spos) (tAsg (eLc S te g tt tel (own.map (·.2))) (gName i)) :=
  ps_imp (ps_setLc hc hN hy hyl hsw (pi_seq (pe_mo hl)) ok B.hg B.ht B.he hs) fun _ _ _ q => lc_of st q
theorem lcR1_of {vs : List Nat} {σ : L2.St} {H : Hp} {Q : VK} (q : eLcR none ta g tt tel vs σ H Q) : tLc (iRng1 (tCons (mo ta) tNil)) g tt tel vs σ H Q := ⟨_, q, fun y H1 ⟨j, e, ⟨_, _, h1, h2⟩, q⟩ => by
    subst e
    refine ⟨j, rfl, h1, h2, fun D hD => ?_⟩
    obtain ⟨Pv, h0, ht, hd⟩ := q D hD
    exact lc_range (lo := 0) (n := j.toNat) Pv h0 (fun i H hi p => ht i H (by omega) p) fun H p => hd H (by rw [Int.sub_zero]; exact p)⟩
theorem pe_lcR1 (hc : X.calm = true) (hN : X.N.Nodup) (hgl : Gl X "range") (hm : X.mg "range" = none) (ha : PE X a ta) (ok : BlkOk X.N X.env.scope scope own) (B : Blk X scope tg elt ifs g tt tel) (hs : starEach [a] X.env = (false, eval a X.env) :: starEach [] X.env := by rfl)
    (hs' : ∀ x, foldedSetIterable (.Call (.Name "range" p) [a] [] pos2) X.env x = pure x := by intro _; rfl) :
    PE X (.ListComp elt [⟨tg, .Call (.Name "range" p) [a] [] pos2, ifs, 0⟩] scope pos) (eLcR none ta g tt tel (own.map (·.2))) := pe_imp (pe_lc hc hN (pi_range1 hgl hm (pa_cons (pe_mo ha) pa_nil hs) hs) ok B.hg B.ht B.he hs') fun _ _ _ q => lcR1_of q
theorem ps_lcR1 {i : Nat} {y : Str} (hc : X.calm = true) (hN : X.N.Nodup) (hy : X.N[i]? = some y) (hyl : X.env.scope.names.lookup y = some .local) (hgl : Gl X "range") (hm : X.mg "range" = none)
    (hsw : swapsWith (.ListComp elt [⟨tg, .Call (.Name "range" p) [a] [] pos2, ifs, 0⟩] scope pos) (some (.Name y py)) spos.line X.env = pure true) (ha : PE X a ta) (ok : BlkOk X.N X.env.scope scope own) (B : Blk X scope tg elt ifs g tt tel)
    (hs : starEach [a] X.env = (false, eval a X.env) :: starEach [] X.env := by rfl) (hs' : ∀ x, foldedSetIterable (.Call (.Name "range" p) [a] [] pos2) X.env x = pure x := by intro _; rfl) :
    PS X (.Assign [.Name y py] (.ListComp elt [⟨tg, .Call (.Name "range" p) [a] [] pos2, ifs, 0⟩] scope pos) spos) (tAsg (eLcR none ta g tt tel (own.map (·.2))) (gName i)) :=
  ps_imp (ps_setLc hc hN hy hyl hsw (pi_range1 hgl hm (pa_cons (pe_mo ha) pa_nil hs) hs) ok B.hg B.ht B.he hs') fun _ _ _ q => lcR1_of q
end

/-! ### in, by an own __contains__ -/
section
open PySem.W
variable {prog : Program} {w : World} {A : Around} {E : Value → Shared → Prop} {s : Shared} {K : Frag} {x C f : Addr} {ox : Obj} {od : Option Obj}
theorem unlessNone_K {M : Model} {name : Str} {args : List Value} {refuse : Sem Value} {Q : Option Value → Shared → Prop} (X : K.In s.heap) (I : InstAt s.heap x ox C od) (hs : findIn K (.ref C) name = some (some (.ref f))) (hf : isFn K (.ref f) = true)
    (h : wpAny M A (call (.ref f) (.ref x :: args)) (fun v => Q (some v)) E s) : wpAny M A (callSpecialUnlessNone? (.ref x) name args refuse) Q E s := by
  simp only [callSpecialUnlessNone?]
  refine wpAny_bind (wpAny_bind (I.type.here ((looks_findIn X hs).here ?_)))
  refine wpAny_holding (wpAny_bind ((bind_fn X _ (beq_iff_eq.mp hf)).here ?_))
  show wpAny _ _ (if (Value.ref f == Value.none) = true then _ else _) _ _ _
  rw [if_neg (by simp)]
  exact wpAny_bind (wpAny_mono h (fun v s' h' => wpAny_pure h') fun _ _ h' => h')
theorem contains_K {v : Value} {Q : Bool → Shared → Prop} (X : K.In s.heap) (I : InstAt s.heap x ox C od) (hs : findIn K (.ref C) "__contains__" = some (some (.ref f))) (hf : isFn K (.ref f) = true)
    (h : wpAny (model prog w) A (call (.ref f) [.ref x, v]) (PySem.W.BoolBack Q) E s) : wpAny (model prog w) A (contains (.ref x) v) Q E s := by
  unfold contains
  refine wpAny_holding ?_
  show wpAny _ _ (specialOf (.ref x) (Str.ofString "__contains__") >>= _) _ _ _
  refine wpAny_bind (wpAny_bind (I.type.here ((looks_findIn X hs).here ?_)))
  show wpAny _ _ (if (some (Value.ref f) == some Value.none) = true then _ else _) _ _ _
  rw [if_neg (by simp)]
  refine wpAny_bind (unlessNone_K X I hs hf (wpAny_mono h (fun r s' hr => ?_) fun _ _ y => y))
  cases r <;> first | exact hr.elim | skip
  exact wpAny_truthy_bool hr
end
section
variable {X : Cx} {CX : CXT} {C f : Addr} {fd : FuncData} {ps : List Str} {sp : Sp} {E : XK} {k : Nat}
/-- y in x, x an instance of the class at C, by its __contains__ -/
def rInOwn (C : Addr) (neg : Bool) (sp : Sp) (E : XK) : R2 := fun y x H Q => ∃ a dx fs, x = .ref a ∧ H a = some (.ins C dx fs) ∧ sp [x, y] H (fun v H' => ∃ b, v = .bl b ∧ Q (.bl (if neg then !b else b)) H') E
theorem in_own {pins : List (Addr × Obj)} {σ : L2.St} {H : Hp} {s : Shared} {a dx : Addr} {fs : List (Str × V)} {y : V} {u : Value} {Q : Bool → Hp → Prop} (F : FnOk X.prog X.w X.K X.mg X.base CX k f fd ps sp) (hm : Meth X.K C "__contains__" f) (hr : Room k X.A) (hb : Binds X.K fd ps []) (hx : Passes CX X E)
    (I : Inv X pins σ H s) (ry : RelV y u) (ha : H a = some (.ins C dx fs)) (h : sp [.ref a, y] H (fun v H' => ∃ b, v = .bl b ∧ Q b H') E) :
    wpAny (model X.prog X.w) X.A (contains (.ref a) u) (TP X pins σ Q) X.xe s := by
  obtain ⟨mA, J, _⟩ := ins_get I.hok ha
  obtain ⟨od, J, _⟩ := J.look
  refine contains_K I.kIn J hm.at_ hm.fn (thn (run_fn (us := [.ref a, u]) (vs := [.ref a, y]) (dvs := []) (ds := []) F hr hb .nil hx I (.cons rfl (.cons ry .nil)) h) fun v s' q => ?_)
  obtain ⟨z, H', I', rz, b, ez, q⟩ := q
  subst ez
  cases rz
  exact ⟨H', I', q⟩
theorem o_inOwn (F : FnOk X.prog X.w X.K X.mg X.base CX k f fd ps sp) (hm : Meth X.K C "__contains__" f) (hr : Room k X.A) (hb : Binds X.K fd ps []) (hx : Passes CX X E) : OpR X (compareOp .In) (rInOwn C false sp E) := fun pins s σ H y x u v Q I ry rx h => by
  obtain ⟨a, dx, fs, e, ha, q⟩ := h
  subst e
  cases rx
  show wpAny _ _ (contains (.ref a) u >>= fun b => pure (Value.bool b)) _ _ _
  refine wpAny_bind (thn (in_own F hm hr hb hx I ry ha (Q := fun b H' => Q (.bl b) H') q) fun b s' hq => ?_)
  obtain ⟨H', I', q⟩ := hq
  exact wpAny_pure ⟨.bl b, H', I', rfl, q⟩
theorem o_notInOwn (F : FnOk X.prog X.w X.K X.mg X.base CX k f fd ps sp) (hm : Meth X.K C "__contains__" f) (hr : Room k X.A) (hb : Binds X.K fd ps []) (hx : Passes CX X E) : OpR X (compareOp .NotIn) (rInOwn C true sp E) := fun pins s σ H y x u v Q I ry rx h => by
  obtain ⟨a, dx, fs, e, ha, q⟩ := h
  subst e
  cases rx
  show wpAny _ _ (contains (.ref a) u >>= fun b => pure (Value.bool (!b))) _ _ _
  refine wpAny_bind (thn (in_own F hm hr hb hx I ry ha (Q := fun b H' => Q (.bl (!b)) H') q) fun b s' hq => ?_)
  obtain ⟨H', I', q⟩ := hq
  exact wpAny_pure ⟨.bl (!b), H', I', rfl, q⟩
end

/-! ### classes: constants, classmethods, a class held in a name -/
def eCon (v : V) : TE := fun _ H Q => Q v H
/-- the argument's heap, then a new instance and __init__ (tMake), the class in slot i -/
def eMakeL (i : Nat) (C : Addr) (sp : Sp) (dvs : List V) (E : XK) (t : TA) : TE := fun σ H Q => σ[i]? = some (some (.ref C)) ∧ tMake C sp dvs E t σ H Q
section
variable {X : Cx} {CX : CXT} {C f p g : Addr} {mc u : Value} {fd : FuncData} {ps : List Str} {sp : Sp} {E : XK} {k i : Nat} {x y m : Str} {v : V} {pos pos2 p2 apos : Pos} {e : Expr} {es : List Expr} {t : TA} {dvs : List V} {ds : List Value}
theorem pe_clsName (hg : Gl X x) (hm : X.mg x = some (.ref C)) (hdb : (x == ("__debug__" : Str)) = false := by decide) : PE X (.Name x p2) (eCon (.ref C)) := pe_imp (pe_glob hg hm (v := .ref C) rfl hdb) fun _ _ _ q => q
theorem pe_clsCon (r : ClX.CRead X.K C mc) (c : ClX.CVal X.K C mc y v u) (hg : Gl X x) (hm : X.mg x = some (.ref C)) (hdb : (x == ("__debug__" : Str)) = false := by decide)
    (hb : attributeBase (.Name x p2) y X.env (eval (.Name x p2) X.env) = eval (.Name x p2) X.env := by rfl) : PE X (.Attribute (.Name x p2) y pos) (eCon v) :=
  pe_imp (ClX.pe_cval (pe_clsName hg hm hdb) hb) fun _ _ _ q => ⟨C, mc, v, u, rfl, r, c, q⟩
theorem pe_makeL (M : Mk X.K C f) (F : FnOk X.prog X.w X.K X.mg X.base CX k f fd ps sp) (hr : Room (k + 1) X.A) (hN : X.N[i]? = some x) (hv : Vis X.env.scope x) (hb : Binds X.K fd ps ds) (hd : Vals dvs ds) (hx : Passes CX X E)
    (ha : PA X (e :: es) t) (hdb : (x == ("__debug__" : Str)) = false := by decide) (hcd : (x == ("__classdict__" : Str)) = false := by decide) (he : starEach (e :: es) X.env = (false, eval e X.env) :: starEach es X.env := by rfl) (hpl : (backTo pos (starEach es X.env)).any (·.1) = false := by rfl) :
    PE X (.Call (.Name x p2) (e :: es) [] pos) (eMakeL i C sp dvs E t) := by
  refine ⟨fun pins s σ H Q I h => ?_⟩
  obtain ⟨hs, ht⟩ := h
  refine wpAny_Call_Name_kw (thn ((pe_var (pos := p2) hN hv hdb hcd).run pins s σ H (fun v H1 => v = .ref C ∧ H1 = H) I ⟨.ref C, hs, rfl, rfl⟩) fun u s1 ⟨v, H1, I1, r1, q1⟩ => ?_)
  obtain ⟨rfl, rfl⟩ := q1
  cases r1
  refine PySem.W.callWith_K (h₀ := X.base) I.ok.mod.kin M.kp (thn (ha.run pos pins s1 σ _ _ I1 ht) fun us s2 ⟨vs, H2, I2, r, q⟩ => ⟨I2.kIn, ?_⟩) he hpl
  exact run_make M F hr hb hd hx I2 r q
end

/-- a module's constant -/
theorem pe_constI {X : Cx} {x : Str} {i : Int} {t : Tok} {p2 : Pos} (hm : X.mg x = some (.int i t)) (hg : Gl X x) (hdb : (x == ("__debug__" : Str)) = false := by decide) : PE X (.Name x p2) (tC (.int i)) := pe_imp (pe_glob hg hm (v := .int i) ⟨t, rfl⟩ hdb) fun _ _ _ q => q
def rAug : TIp := ipI fun i j => i + j
def rAugS : TIp := ipI fun i j => i - j
theorem ip_addI {X : Cx} : PIp X .Add rAug := ip_add
def rInAdd : V → V → Hp → VK → Prop := fun x y H Q => ∃ i j, x = .int i ∧ y = .int j ∧ Q (.int (i + j)) H
def rInSub : V → V → Hp → VK → Prop := fun x y H Q => ∃ i j, x = .int i ∧ y = .int j ∧ Q (.int (i - j)) H
theorem in_addI {X : Cx} : InOp X .Add rInAdd := in_add
theorem in_subI {X : Cx} : InOp X .Sub rInSub := in_sub
theorem ip_subI {X : Cx} : PIp X .Sub rAugS := ip_sub
def spRaw (sp : Sp) : Sp := fun vs H Q E => sp (vs ++ []) H Q E
/-! ### a def's promise, by its own body -/
def start (n : Nat) (vs : List V) : L2.St := vs.map some ++ List.replicate (n - vs.length) none
/-- n slots, m parameters -/
def spB (n m : Nat) (t : XK → TS) : Sp := fun vs H Q E => vs.length = m ∧ t E { nx := fun _ H' => Q .non H', rt := Q } (start n vs) H
theorem start_eq (N : List Str) (vs : List V) : L2.start N vs = start N.length vs := rfl
theorem passE {P : Program} {w : World} {K : PySem.W.Frag} {mg : Str → Option Value} {base : Heap} {N : List Str} {qual : Str} {scope : Scope} {f : Addr} {cd : Value} {A : Around} {outer : List Env} {s : Shared} {H : Hp} {E : XK} :
    Passes (L2.CX P w) (cxOf (L2.CX P w) P w K mg base N qual scope f cd A outer s H E) E := passes_call (takes_of rfl rfl rfl rfl) fun _ _ _ _ h => h
/-- where nothing is let out -/
theorem passN {X : Cx} : Passes (L2.CX X.prog X.w) X E0 := fun _ _ _ _ _ _ _ h => by
  obtain ⟨_, _, _, _, _, _, _, _, _, _, _, _, z⟩ := h
  exact z.elim
theorem ok_body {P : Program} {w : World} {K : PySem.W.Frag} {mg : Str → Option Value} {base : Heap} {x qual : Str} {st : Stmt} {f : Addr} {fd : FuncData} {N ps : List Str} {n m k : Nat} {t : XK → TS} (F : Fun K x qual st f fd) (S : FnScope N ps (defScope st)) (hn : N.length = n) (hm : ps.length = m)
    (h : ∀ (cdv : Value) (A : Around) (outer : List Env) (s : Shared) (H : Hp) (E : XK), Room k (A.deeper (envOfC qual (defScope st) s.heap.objs.size f cdv)) → PSs (cxOf (L2.CX P w) P w K mg base N qual (defScope st) f cdv A outer s H E) (defBody st) (t E)) :
    FnOk P w K mg base (L2.CX P w) (k + 1) f fd ps (spB n m t) := by
  subst hn
  subst hm
  exact F.okX S (fun vs H Q E q => q.1) fun cdv A outer s H vs Q E hr q => ⟨t E, h cdv A outer s H E hr, q.2⟩
/-! ### chains of comparisons, as tests -/
abbrev TC := L2.St → V → Hp → VK → Prop
def cLast (r : R2) (tb : TE) : TC := fun σ x H Q => tb σ H fun y H1 => r x y H1 Q
def cLink (r : R2) (tb : TE) (tl : TC) : TC := fun σ x H Q => tb σ H fun y H1 => r x y H1 fun z H2 => ∃ k, z = .bl k ∧ (if k = true then tl σ y H2 Q else Q (.bl false) H2)
def tChn (ta : TE) (tl : TC) : TE := fun σ H Q => ta σ H fun x H1 => tl σ x H1 Q
structure PCh (X : Cx) (ops : List CmpOp) (es : List Expr) (tl : TC) : Prop where
  run : ∀ (pos : Pos) (pins : List (Addr × Obj)) (s : Shared) (σ : L2.St) (H : Hp) (x : V) (v : Value) (Q : Bool → Hp → Prop), Inv X pins σ H s → RelV x v → tl σ x H (fun z H' => ∃ k, z = .bl k ∧ Q k H') → wpAny (model X.prog X.w) X.A (testChain pos v ops (evalEach es X.env)) (TP X pins σ Q) X.xe s
section
variable {X : Cx} {a b e e' : Expr} {es : List Expr} {ta tb : TE} {tl : TC} {r : R2} {op op' : CmpOp} {ops : List CmpOp} {pos : Pos}
theorem pch_last (ho : OpR X (compareOp op) r) (hb : PE X b tb) : PCh X [op] [b] (cLast r tb) :=
  ⟨fun pos pins s σ H x v Q I rx q => test_last (thn (hb.run pins s σ H _ I q) fun u s1 ⟨y, H1, I1, r1, q1⟩ => thn (ho pins s1 σ H1 x y v u _ I1 rx r1 q1) fun d s2 ⟨z, H2, I2, r2, k, e, q2⟩ => by
    subst e
    cases r2
    exact wpAny_truthy_bool ⟨H2, I2, q2⟩)⟩
theorem pch_link (ho : OpR X (compareOp op) r) (hb : PE X b tb) (hl : PCh X (op' :: ops) (e :: es) tl) : PCh X (op :: op' :: ops) (b :: e :: es) (cLink r tb tl) :=
  ⟨fun pos pins s σ H x v Q I rx q => test_link (thn (hb.run pins s σ H _ I q) fun u s1 ⟨y, H1, I1, r1, q1⟩ => thn (ho pins s1 σ H1 x y v u _ I1 rx r1 q1) fun d s2 ⟨z, H2, I2, r2, k, e, q2⟩ => by
    subst e
    cases r2
    refine wpAny_truthy_bool ?_
    cases k with
    | false =>
      obtain ⟨k', e', q'⟩ := q2
      cases e'
      exact ite_ff ⟨H2, I2, q'⟩
    | true => exact ite_tt (hl.run pos pins s2 σ H2 y u Q I2 r1 q2))⟩
theorem pt_chn (ha : PE X a ta) (hl : PCh X (op :: op' :: ops) (e :: e' :: es) tl) (hm : lastMarks (op :: op' :: ops) (e :: e' :: es) = false := by with_unfolding_all rfl) : PT X (.Compare a (op :: op' :: ops) (e :: e' :: es) pos) (tTest (tChn ta tl)) :=
  ⟨fun pins s σ H Q I h => isTrue_chain (thn (ha.run pins s σ H _ I h) fun v s1 ⟨x, H1, I1, r1, q1⟩ => hl.run pos pins s1 σ H1 x v Q I1 r1 q1) hm⟩
/-! ### x.bit_length() -/
def rBits : V → Hp → VK → Prop := fun x H Q => ∃ i, x = .int i ∧ Q (.int (Builtin.Int.intBits i : Nat)) H
theorem pe_bitsU {o : Expr} {to : TE} {apos pos : Pos} (ho : PE X o to) (hbase : attributeBase o "bit_length" X.env (eval o X.env) = eval o X.env := by rfl) (hline : (apos.endLine == pos.line) = true := by rfl) : PE X (.Call (.Attribute o "bit_length" apos) [] [] pos) (tUn rBits to) := pe_bits ho hbase hline
end
end Y

/-! Errors: defs that say super(), own exceptions, try with several clauses. -/
namespace Y
open PySem PySem.Spec PyProof.Rows L2
open PySem.W (ksEnv ksFn)

/-! ### statements under a known activation -/
structure PSA (X : Cx) (c : Code) (st : Stmt) (t : TS) : Prop where
  run : ∀ (pins : List (Addr × Obj)) (s : Shared) (σ : L2.St) (H : Hp) (D : Ends), Inv X pins σ H s → t D σ H → _root_.PySem.wpAt (model X.prog X.w) X.A c (exec st X.env) (SP X pins D) X.xe s
structure PSsA (X : Cx) (c : Code) (st : List Stmt) (t : TS) : Prop where
  run : ∀ (pins : List (Addr × Obj)) (s : Shared) (σ : L2.St) (H : Hp) (D : Ends), Inv X pins σ H s → t D σ H → _root_.PySem.wpAt (model X.prog X.w) X.A c (execs st X.env) (SP X pins D) X.xe s
section
variable {X : Cx} {c : Code} {st : Stmt} {rest body orelse : List Stmt} {t u : TS} {tc : TT} {test : Expr} {pos : Pos}
theorem psa_of (h : PS X st t) : PSA X c st t := ⟨fun pins s σ H D I q => wpAt_of_wpAny (h.run pins s σ H D I q)⟩
theorem pssa_of (h : PSs X rest t) : PSsA X c rest t := ⟨fun pins s σ H D I q => wpAt_of_wpAny (h.run pins s σ H D I q)⟩
theorem pssa_cons (h : PSA X c st t) (r : PSsA X c rest u) : PSsA X c (st :: rest) (tSeq t u) := ⟨fun pins s σ H D I q => by
  refine ks_wpAt_execs_cons (ks_wpAt_mono (h.run pins s σ H { D with nx := u D } I q) (fun f s1 hs => ?_) fun _ _ z => z)
  cases f with
  | next =>
    obtain ⟨σ1, H1, I1, q1⟩ := hs
    exact r.run pins s1 σ1 H1 D I1 q1
  | ret v => exact hs
  | brk => exact hs
  | cont => exact hs⟩
theorem pssa_one (h : PSA X c st t) : PSsA X c [st] t := ⟨fun pins s σ H D I q => by
  refine ks_wpAt_execs_cons (ks_wpAt_mono (h.run pins s σ H D I q) (fun f s1 hs => ?_) fun _ _ z => z)
  cases f with
  | next =>
    obtain ⟨σ1, H1, I1, q1⟩ := hs
    exact wpAt_of_wpAny (wpAny_execs_nil ⟨σ1, H1, I1, q1⟩)
  | ret v => exact hs
  | brk => exact hs
  | cont => exact hs⟩
theorem psa_if (hc : PT X test tc) (ha : PSsA X c body t) (hb : PSsA X c orelse u) : PSA X c (.If test body orelse pos) (tIfS tc t u) := ⟨fun pins s σ H D I q => by
  refine ks_wpAt_If (wpAt_of_wpAny (thn (hc.run pins s σ H _ I q) fun b s1 ⟨H1, I1, q1⟩ => ?_))
  cases b with
  | true => exact ha.run pins s1 σ H1 D I1 q1
  | false => exact hb.run pins s1 σ H1 D I1 q1⟩
end

/-! ### a def that closes over __class__ -/
structure FnScS (N P : List Str) (sc : Scope) : Prop where
  kind : sc.kind = .function
  co : sc.isCoroutine = false
  gen : sc.isGenerator = false
  nd : N.Nodup
  pre : N.take P.length = P
  par : ∀ x ∈ P, sc.names.lookup x = some .local
  nocell : ∀ y ∈ sc.names, y.2 ≠ .cell
  free : ∀ y ∈ sc.names, y.2 = .free → y.1 = "__class__"
def cxS (P : Program) (w : World) (K : PySem.W.Frag) (mg : Str → Option Value) (base : Heap) (N : List Str) (qual : Str) (scope : Scope) (f : Addr) (cd : Value) (cc : Addr) (A : Around) (outer : List Env) (s : Shared) (H : Hp) (E : XK) : Cx where
  prog := P
  w := w
  K := K
  mg := mg
  base := base
  A := A.deeper (ksEnv qual scope s.heap.objs.size f cd cc)
  N := N
  s_0 := s
  H_0 := H
  env := ksEnv qual scope s.heap.objs.size f cd cc
  outer := outer
  stack := ksEnv qual scope s.heap.objs.size f cd cc :: outer
  ex := []
  calm := true
  fn := fun _ => false
  pn := []
  xe := fun e s' => wpAny (model P w) (A.deeper (ksEnv qual scope s.heap.objs.size f cd cc)) (leaving (ksEnv qual scope s.heap.objs.size f cd cc) e) (fun _ s'' => L2.CX P w outer H s E e s'') (fun e' s'' => L2.CX P w outer H s E e' s'') s'
theorem lookup_nd {l : List (Str × Value)} {x : Str} {v : Value} (nd : (l.map (·.1)).Nodup) (m : (x, v) ∈ l) : l.lookup x = some v := by
  induction l with
  | nil => cases m
  | cons p r ih =>
    obtain ⟨y, z⟩ := p
    rw [List.map_cons, List.nodup_cons] at nd
    rcases List.mem_cons.mp m with e | m
    · cases e
      simp [List.lookup]
    · have hne : x ≠ y := fun e => nd.1 (by rw [← e]; exact List.mem_map_of_mem (f := (·.1)) m)
      have hb : (x == y) = false := by simpa using hne
      show (match x == y with | true => some z | false => r.lookup x) = some v
      rw [hb]
      exact ih nd.2 m
theorem zip_get {P : List Str} {us : List Value} {i : Nat} {x : Str} {u : Value} (h1 : P[i]? = some x) (h2 : us[i]? = some u) : (x, u) ∈ P.zip us := by
  refine List.mem_of_getElem? (i := i) ?_
  rw [List.getElem?_zip_eq_some]
  exact ⟨h1, h2⟩
theorem zip_keys : ∀ {P : List Str} {us : List Value}, us.length = P.length → (P.zip us).map (·.1) = P
  | [], [], _ => rfl
  | p :: P, u :: us, h => by
    rw [List.zip_cons_cons, List.map_cons, zip_keys (by simpa using h)]
  | [], _ :: _, h => by simp at h
  | _ :: _, [], h => by simp at h
theorem inv_startS {P : Program} {w : World} {K : PySem.W.Frag} {mg : Str → Option Value} {base : Heap} {N ps : List Str} {qual : Str} {scope : Scope} {f cc D : Addr} {cd cl : Value} {cld : Option Addr} {csl : Array (Option Value)} {A : Around} {outer : List Env} {s : Shared} {h1 : Heap} {tk : Nat} {H : Hp} {E : XK} {us : List Value} {vs : List V}
    (S : FnScS N ps scope) (hcc : K.lookup cc = some ⟨cl, cld, .cell (some (.ref D)), csl⟩) (hd : A.handled = none) (e0 : Env0 P w K mg base A outer s H) (hl : vs.length = ps.length) (r : Vals vs us)
    (hns : h1.Ns s.heap.objs.size (fun x => (ps.zip us).reverse.lookup x)) (hk : ∀ b o, s.heap.get? b = some o → h1.get? b = some o) :
    Inv (cxS P w K mg base N qual scope f cd cc A outer s H E) [] (L2.start N vs) H { s with heap := h1, toks := tk } := by
  have hpl : ps.length ≤ N.length := by have := congrArg List.length S.pre; rw [List.length_take] at this; omega
  have noA : ∀ b : Addr, b ∉ (cxS P w K mg base N qual scope f cd cc A outer s H E).ex := fun b z => absurd (show b ∈ ([] : List Addr) from z) (by simp)
  have cells : ∀ (y : Str) (c : Addr), (cxS P w K mg base N qual scope f cd cc A outer s H E).env.cells.lookup y = some c → y = "__class__" ∧ c = cc := fun y c h => by
    have h : ([(("__class__" : Str), cc)] : List (Str × Addr)).lookup y = some c := h
    simp only [List.lookup] at h
    split at h
    · rename_i e
      exact ⟨by simpa using e, (Option.some.inj h).symm⟩
    · cases h
  have bcc := e0.mod.kin _ _ hcc
  have hus : us.length = ps.length := by rw [← r.length]; exact hl
  have ndP : ps.Nodup := by rw [← S.pre]; exact S.nd.sublist (List.take_sublist _ _)
  refine ⟨⟨e0.mod, S.kind, rfl, rfl, Nat.le_refl _, fun y z c h1 h2 => (cells y c h1).1.trans (cells z c h2).1.symm, fun y hy => ?_, fun y c z _ => absurd (show false = true from z) (by simp), fun _ => hd, Around.frames_deeper e0.frames, .inr ⟨rfl, rfl⟩, fun b z => absurd z (noA b), e0.bs, e0.bsz, fun b _ _ => noA b, fun b z => absurd z (noA b), e0.funs, e0.frf⟩,
    rfl, e0.bare, Un.kept hk, ⟨_, hns, fun i y v h1 h2 h3 => ?_⟩, fun y c h => ?_, e0.hok.fresh (Nat.le_refl _), fun y c h => ?_, fun p hp => absurd (show p ∈ ([] : List (Addr × Obj)) from hp) (by simp), e0.hok.kept hk, ?_⟩
  · have hy : scope.names.lookup y = some .cell ∨ scope.names.lookup y = some .free := hy
    rcases hy with hy | hy
    · exact absurd rfl (S.nocell _ (PySem.mem_of_lookup hy))
    · have e := S.free _ (PySem.mem_of_lookup hy) rfl
      have e : y = "__class__" := e
      subst e
      exact ⟨cc, by show List.lookup ("__class__" : Str) [(("__class__" : Str), cc)] = some cc; simp [List.lookup]⟩
  · have hi : i < vs.length := by
      unfold L2.start at h2
      by_cases hi : i < vs.length
      · exact hi
      · rw [List.getElem?_append_right (by simpa using hi), List.getElem?_replicate] at h2
        split at h2 <;> cases h2
    have ha : vs[i]? = some v := by
      unfold L2.start at h2
      rw [List.getElem?_append_left (by simpa using hi), List.getElem?_map] at h2
      cases e : vs[i]? with
      | none => rw [e] at h2; cases h2
      | some a => rw [e] at h2; cases h2; rfl
    obtain ⟨u, hu, rv⟩ := r.get ha
    have hp : ps[i]? = some y := by
      rw [← S.pre, List.getElem?_take_of_lt (by omega)]; exact h1
    refine ⟨u, rv, .inl ⟨S.par y (List.mem_of_getElem? hp), ?_⟩⟩
    show (ps.zip us).reverse.lookup y = some u
    have hk : ((ps.zip us).map (·.1)).Nodup := by rw [zip_keys hus]; exact ndP
    rw [PySem.lookup_reverse_of_nodup _ hk]
    exact lookup_nd hk (zip_get hp hu)
  · obtain ⟨rfl, rfl⟩ := cells y c h
    exact ⟨_, ⟨_, hk _ _ (e0.bs _ _ bcc).1, rfl⟩⟩
  · obtain ⟨rfl, rfl⟩ := cells y c h
    exact (e0.bs _ _ bcc).2
  · unfold L2.start
    show _ = N.length
    rw [List.length_append, List.length_map, List.length_replicate]
    omega
/-- the rule for such a def -/
theorem fn_ofS {P : Program} {w : World} {K : PySem.W.Frag} {mg : Str → Option Value} {base : Heap} {k : Nat} {f cc D : Addr} {name qual : Str} {params : Arguments} {body : List Stmt} {scope : Scope} {dV kV doc pm cdv ct oc cl : Value} {an od cld : Option Addr}
    {osl csl : Array (Option Value)} {N ps : List Str} {sp : Sp} (lk : K.lookup f = some ⟨oc, od, .func (ksFn name qual params body scope dV kV doc pm an cdv ct cc), osl⟩) (hcd : PySem.W.codeIn K cdv qual = true)
    (hcc : K.lookup cc = some ⟨cl, cld, .cell (some (.ref D)), csl⟩) (S : FnScS N ps scope) (len : ∀ vs H Q E, sp vs H Q E → vs.length = ps.length)
    (hbody : ∀ (A : Around) (outer : List Env) (s : Shared) (H : Hp) (vs : List V) (Q : VK) (E : XK), Room k (A.deeper (ksEnv qual scope s.heap.objs.size f cdv cc)) → sp vs H Q E →
      ∃ t, PSsA (cxS P w K mg base N qual scope f cdv cc A outer s H E) (.func body (ksEnv qual scope s.heap.objs.size f cdv cc)) body t ∧ t { nx := fun _ H' => Q .non H', rt := Q } (L2.start N vs) H) :
    FnOk P w K mg base (L2.CX P w) (k + 1) f (ksFn name qual params body scope dV kV doc pm an cdv ct cc) ps sp := by
  refine ⟨len, fun A outer s H args us vs Q E hr e0 hb r hsp => ?_⟩
  have hl := len _ _ _ _ hsp
  have hus : us.length = ps.length := by rw [← r.length]; exact hl
  have KX : K.In s.heap := e0.mod.kin.keeps fun b o e => (e0.bs b o e).1
  have lim : s.heap.NoLimit := e0.mod.nolimit.keeps fun b o e => (e0.bs b o e).1
  have hloc : ∀ x ∈ ps.zip us, scope.names.lookup x.1 = some .local := fun ⟨n, v⟩ hy => S.par n (List.of_mem_zip hy).1
  refine ks_codeAny_call_defAt (fd := ksFn name qual params body scope dV kV doc pm an cdv ct cc) (body := body) (binds := ps.zip us) hr.depth (KX _ _ lk) rfl lim (PySem.W.codeRec_of KX hcd) rfl hb S.nocell hloc (fun h1 hns hk => ?_) S.co S.gen S.kind
  obtain ⟨t, ht, hq⟩ := hbody A outer s H vs Q E (hr.deeper _) hsp
  have I := inv_startS (tk := s.toks + (ps.zip us).length) (f := f) (qual := qual) (cd := cdv) (E := E) S hcc hr.hd e0 hl r hns hk
  refine ks_wpAt_mono (ht.run [] _ (L2.start N vs) H _ I hq) (fun fl s' hs => ?_) fun e s' hs => hs
  have fin : ∀ {σ' : L2.St} {H' : Hp} {v : V} {u : Value}, Inv (cxS P w K mg base N qual scope f cdv cc A outer s H E) [] σ' H' s' → RelV v u → Q v H' → CE outer P w H s Q u s' :=
    fun {σ' H' v u} J rv q => ⟨v, H', J.os, J.bare, J.base, J.hok, rv, q⟩
  cases fl with
  | ret u =>
    obtain ⟨v, σ', H', J, rv, q⟩ := hs
    exact fin J rv q
  | next =>
    obtain ⟨σ', H', J, q⟩ := hs
    exact fin (v := V.non) (u := Value.none) J rfl q
  | brk =>
    obtain ⟨_, _, _, q⟩ := hs
    exact False.elim q
  | cont =>
    obtain ⟨_, _, _, q⟩ := hs
    exact False.elim q

/-! ### super() -/
theorem sup_base {X : Cx} {pins : List (Addr × Obj)} {σ : L2.St} {H : Hp} {s : Shared} {body : List Stmt} {p0 p1 : Pos} {attr : Str} {whole : Sem Value} {f cc cda D x C : Addr} {fd : FuncData} {ar : Arg} {vs : Array Value} {file : Str} {tf : Tok} {oc ccl cl : Value} {od cdd cld : Option Addr} {osl ccs csl : Array (Option Value)} {cdD : ClassData} {ox : Obj} {odx : Option Obj} {Q : Value → Shared → Prop} {E : Value → Shared → Prop}
    (I : Inv X pins σ H s) (hks : X.env.kindOf "super" = some .globalImplicit) (hkc : X.env.kindOf "__class__" = some .free) (hat : (attr == ("__class__" : Str)) = false) (hfu : X.env.func = some f) (hf : X.K.lookup f = some ⟨oc, od, .func fd, osl⟩) (hp : (fd.params.posonlyargs ++ fd.params.args).head? = some ar)
    (hco : X.env.code = .ref cda) (hcode : X.K.lookup cda = some ⟨ccl, cdd, .fields vs, ccs⟩) (hvs : vs[2]? = some (.str file tf)) (hfile : ((X.prog.main.file : Str) == file) = true) (htop : (X.prog.main.scope.names.lookup ("super" : Str)).isSome = false) (hm : X.mg "super" = none)
    (hcl : X.env.cells.lookup ("__class__" : Str) = some cc) (hcell : X.K.lookup cc = some ⟨cl, cld, .cell (some (.ref D)), csl⟩) (hD : PySem.W.clsIn X.K D = some cdD) (hka : X.env.kindOf ar.arg = some .local) (hN : X.N[0]? = some ar.arg) (hσ : σ[0]? = some (some (.ref x)))
    (J : PySem.W.InstAt s.heap x ox C odx) (hsub : PySem.W.mroIn X.K C (.ref D) = some true)
    (h : ∀ h', h'.get? s.heap.objs.size = some (PySem.W.ks_superObj D x C) → (∀ b o, s.heap.get? b = some o → h'.get? b = some o) → Q (.ref s.heap.objs.size) { s with heap := h' }) :
    _root_.PySem.wpAt (model X.prog X.w) X.A (.func body X.env) (attributeBase (.Call (.Name "super" p0) [] [] p1) attr X.env whole) Q E s := by
  have KX := I.kIn
  obtain ⟨m, hn, hl⟩ := id I.loc
  obtain ⟨u, ru, lk⟩ := hl 0 ar.arg (.ref x) hN hσ (.inl hka)
  obtain ⟨mb, b1, b2⟩ := I.mod.blt
  have hg : s.heap.Ns X.env.globals X.mg := by rw [I.ok.glob]; exact I.mod.glob.keeps I.bk
  have hb : s.heap.Ns X.env.builtins mb := by rw [I.ok.blt]; exact b1.keeps I.bk
  have hk := I.ok.kind
  have em : m ar.arg = some (.ref x) := by
    have ru' : u = Value.ref x := ru
    subst ru'
    rcases lk with ⟨_, e⟩ | ⟨e, _⟩
    · exact e
    · rw [hka] at e
      rcases e with e | e <;> cases e
  obtain ⟨oD, hD1, hD2⟩ : ∃ oD, s.heap.get? D = some oD ∧ oD.data = .cls cdD := by
    unfold PySem.W.clsIn at hD
    split at hD
    · rename_i q1 q2 q3 q4 ho
      cases hD
      exact ⟨_, KX _ _ ho, rfl⟩
    · cases hD
  obtain ⟨hh, g, d, t, os⟩ := s
  refine ks_wpAt_super_base hks hkc hat hfu (KX _ _ hf) rfl hp hco (KX _ _ hcode) rfl hvs hfile htop ?_
  refine PySem.W.ks_loadName_global hk hks (PySem.Calls.loadGlobal_builtin hg hm hb ((b2 _ (by decide)).trans PyProof.Rows.Boot.«super») ⟨rfl, ?_⟩)
  refine PySem.wpAny_loadName_free hk hkc hcl ⟨_, KX _ _ hcell, rfl⟩ ?_
  refine wpAny_loadName_local hk hka hn em ?_
  refine ks_wpAny_isType_cls hD1 hD2 ⟨rfl, ?_⟩
  refine ks_wpAny_call_super hD1 hD2 J.at_ J.cls (fun c e => ?_) (PySem.W.looks_mroIn KX hsub) fun h' e k => h h' e k
  have z := J.no
  unfold PySem.W.notCls at z
  rw [e] at z
  exact Bool.noConfusion z
/-- the bound ValueError.__init__ called -/
theorem call_vw {prog : Program} {w : World} {A : Around} {E : Value → Shared → Prop} {h : Heap} {g : Array GenState} {d : Drawn} {t : Nat} {os : OsState} {nm q : Str} {C N u e t0 : Addr} {bs bm : List Value} {hdct : Bool} {sn : List Str} {sub : List Value} {ab : Bool} {col : Option Bool} {dd : Option Addr} {k0 k1 k2 k3 k5 : Option Value}
    {rest : List Value} {Q : Value → Shared → Prop} (hC : h.get? C = some (excClassObj nm q C N bs bm hdct sn sub ab col dd k0 k1 k2 k3 k5 "ValueError.__new__")) (he : h.get? e = some (HandSPX.excO C t0)) (hu : h.get? u = some (PySem.W.kxs_mw "ValueError.__init__" e)) (hz : rest.length ≤ sizeLine)
    (hq : ∀ h' t1, (∀ b o, b ≠ e → h.get? b = some o → h'.get? b = some o) → h'.get? e = some (HandSPX.excO C t1) → Q .none ⟨h', g, d, t, os⟩) : wpAny (model prog w) A (call (.ref u) rest) Q E ⟨h, g, d, t, os⟩ := by
  refine wpAny_call (codeAny_of_tree ?_)
  show wpAny _ A.in1 (callAny (.ref u) ⟨rest, []⟩) _ _ _
  simp only [callAny]
  refine wpAny_bind (wpAny_load hu ?_)
  simp only [PySem.W.kxs_mw, (by decide : (Value.type "method-wrapper" == Value.type "method" || Value.type "method-wrapper" == Value.type "builtin_function_or_method" || Value.type "method-wrapper" == Value.type "method-wrapper") = true), if_true]
  refine PySem.W.KFB.if_so (by decide) ?_
  refine wpAny_bind (PySem.ESX.check_bound F.excBase_ValueError hC he rfl (wpAny_bind (wpAny_pure (wpAny_pure ⟨Code.quiet_builtin _ (by decide +kernel), codeAny_builtin F.excBase_ValueError.initEntry ?_⟩))))
  rw [Around.under_plainId F.excBase_ValueError.init.plain _]
  wp_walk
  refine hq _ h.objs.size (fun b o hb ho => (Heap.get?_update_other _ _ (Ne.symm hb)).trans (Heap.get?_push_of_some _ ho)) ?_
  rw [Heap.get?_update_self _ (Heap.get?_push_of_some _ he) rfl]
  rfl
/-- what the written part says of the class at C, where super() stands in a method of the class at D and finds ValueError.__init__ -/
structure SupV (K : PySem.W.Frag) (C D : Addr) : Prop where
  ex : OexC K C
  opq : PySem.W.nsIn K PySem.cStatics "thirdparty.any" = some none
  fnd : PySem.W.ks_superIn K C D "__init__" = some (some (.builtin "ValueError.__init__"))
  sub : PySem.W.subIn K (.ref C) (.type "ValueError") = some true
  mro : PySem.W.mroIn K C (.ref D) = some true
/-- super().__init__(..) of an exception that is being made -/
def tSupV (K : PySem.W.Frag) (D : Addr) (ta : TA) : TE := fun σ H Q => ∃ a C : Addr, σ[0]? = some (some (.ref a)) ∧ H a = some (exo a C none) ∧ SupV K C D ∧ ta σ H fun vs H1 => vs.length ≤ 1000 ∧ H1 a = some (exo a C none) ∧ Q .non H1
/-- what the text says of the method that says super() -/
structure SupT (X : Cx) (D : Addr) : Prop where
  ex : ∃ (f cc cda : Addr) (fd : FuncData) (ar : Arg) (vs : Array Value) (file : Str) (tf : Tok) (oc ccl cl : Value) (od cdd cld : Option Addr) (osl ccs csl : Array (Option Value)) (cdD : ClassData),
    X.env.func = some f ∧ X.K.lookup f = some ⟨oc, od, .func fd, osl⟩ ∧ (fd.params.posonlyargs ++ fd.params.args).head? = some ar ∧ X.env.code = .ref cda ∧ X.K.lookup cda = some ⟨ccl, cdd, .fields vs, ccs⟩ ∧ vs[2]? = some (.str file tf) ∧ ((X.prog.main.file : Str) == file) = true ∧
    X.env.cells.lookup ("__class__" : Str) = some cc ∧ X.K.lookup cc = some ⟨cl, cld, .cell (some (.ref D)), csl⟩ ∧ PySem.W.clsIn X.K D = some cdD ∧ X.env.kindOf ar.arg = some .local ∧ X.N[0]? = some ar.arg
  ks : X.env.kindOf "super" = some .globalImplicit
  kc : X.env.kindOf "__class__" = some .free
  top : (X.prog.main.scope.names.lookup ("super" : Str)).isSome = false
  mg : X.mg "super" = none
section
variable {X : Cx} {D : Addr} {body : List Stmt} {p0 p1 apos pos pos2 : Pos} {e : Expr} {es : List Expr} {ta : TA}
theorem psa_supV (T : SupT X D) (ha : PA X (e :: es) ta) {pl : Sem Bool}
    (hc : eval (.Call (.Attribute (.Call (.Name "super" p0) [] [] p1) "__init__" apos) (e :: es) [] pos) X.env = (do
      let ov ← attributeBase (.Call (.Name "super" p0) [] [] p1) "__init__" X.env (eval (.Call (.Name "super" p0) [] [] p1) X.env)
      standAt apos.atName
      let (f, first) ← holding [ov] (getMethod ov "__init__" pl)
      callWith pos f first (backTo pos (starEach (e :: es) X.env)) []) := by rfl)
    (hi : interactive X.env = false := by rfl) (hs : swapsWith (.Call (.Attribute (.Call (.Name "super" p0) [] [] p1) "__init__" apos) (e :: es) [] pos) none pos2.line X.env = pure false := by rfl)
    (he : starEach (e :: es) X.env = (false, eval e X.env) :: starEach es X.env := by rfl) (hpl : (backTo pos (starEach es X.env)).any (·.1) = false := by rfl) :
    PSA X (.func body X.env) (.Expr (.Call (.Attribute (.Call (.Name "super" p0) [] [] p1) "__init__" apos) (e :: es) [] pos) pos2) (tDrop (tSupV X.K D ta)) := by
  refine ⟨fun pins s σ H K I h => ?_⟩
  obtain ⟨a, C, hσ, ea, V, q⟩ := h
  obtain ⟨f, cc, cda, fd, ar, vs, file, tf, oc, ccl, cl, od, cdd, cld, osl, ccs, csl, cdD, z1, z2, z3, z4, z5, z6, z7, z8, z9, z10, z11, z12⟩ := T.ex
  obtain ⟨t0, ho⟩ := exo_at I.hok ea
  have J : PySem.W.InstAt s.heap a _ C none := ⟨ho, rfl, rfl, trivial⟩
  obtain ⟨nm, qq, N, bs, bm, sn, sub, ab, col, dd, k0, k1, k2, k3, k5, hC, hbm⟩ := V.ex.cls
  have hcl : PySem.W.clsIn X.K C = some { name := nm, bases := bs, mro := .ref C :: bm, ns := N, qualname := qq, hasDict := true, slotNames := sn, subclasses := sub, abstract := ab, collection := col, hasDel := false } := by unfold PySem.W.clsIn; rw [hC] <;> rfl
  refine ks_wpAt_Expr_any (ks_wpAt_MethodCall (sup_base I T.ks T.kc (by decide) z1 z2 z3 z4 z5 z6 z7 T.top T.mg z8 z9 z10 z11 z12 hσ J V.mro fun h1 o1 k1' => ?_) hc) hi hs
  have I1 : Inv X pins σ H { s with heap := h1 } := by
    have z := I.kept (t' := s.toks) k1'
    exact z
  have KX := I1.kIn
  obtain ⟨hp, g, d, t, os⟩ := s
  have hI : PySem.W.Looks (model X.prog X.w) h1 (isInstance (.ref a) (.type "ValueError")) true := (PySem.W.InstAt.type (M := model X.prog X.w) (⟨k1' _ _ ho, rfl, rfl, trivial⟩ : PySem.W.InstAt h1 a _ C none)).andThen (PySem.W.looks_subIn KX V.sub)
  have hf := V.fnd
  unfold PySem.W.ks_superIn at hf
  rw [hcl] at hf
  refine PySem.W.kxs_getMethod PySem.W.kxs_ValueError o1 (PySem.W.looks_opaque KX V.opq) (l₀ := .ref C :: bm) ?_ rfl KX hf hI (PySem.W.ks_ne I.kIn J hcl) (by decide) ?_
  · exact fun A Q E s k q => wpAny_bind ((PySem.W.looks_clsIn KX hcl) A _ E s k (wpAny_pure q))
  · have kk : ∀ b o, hp.get? b = some o → (h1.push (PySem.W.kxs_mw "ValueError.__init__" a)).get? b = some o := fun b o z => Heap.get?_push_of_some _ (k1' b o z)
    have hu : (h1.push (PySem.W.kxs_mw "ValueError.__init__" a)).get? h1.objs.size = some (PySem.W.kxs_mw "ValueError.__init__" a) := Heap.get?_push_at rfl rfl
    have szu : hp.objs.size ≤ h1.objs.size := by
      exact Nat.le_of_lt (Heap.lt_size o1)
    have I2 : Inv X ((h1.objs.size, PySem.W.kxs_mw "ValueError.__init__" a) :: pins) σ H ⟨h1.push (PySem.W.kxs_mw "ValueError.__init__" a), g, d, t + 1, os⟩ := by
      have z : Inv X pins σ H ⟨h1.push (PySem.W.kxs_mw "ValueError.__init__" a), g, d, t + 1, os⟩ := I.kept (t' := t + 1) kk
      refine z.pins_of fun p hp' => ?_
      rcases List.mem_cons.mp hp' with e | hp'
      · subst e
        have hl := I.lt
        refine ⟨hu, I.hok.fresh szu, fun y => ?_, I.nofs szu, fun v y => ?_⟩
        · have y : h1.objs.size = X.env.locals := y
          have hl : X.env.locals < hp.objs.size := hl
          rw [← y] at hl
          exact absurd (Nat.lt_of_lt_of_le hl szu) (Nat.lt_irrefl _)
        · cases y
      · exact z.pin p (List.mem_append_right _ hp')
    rw [he]
    refine PySem.W.kxs_callWith (i := "ValueError.__init__") (x := a) (by show (false || (backTo pos (starEach es X.env)).any (·.1)) = false; rw [hpl]; rfl) ?_
    have hsp := ha.run pos _ _ σ H _ I2 q
    rw [he] at hsp
    refine PySem.Calls.evalArgs_plain (wpAny_mono hsp (fun us s2 h2 => ?_) fun _ _ z => z)
    obtain ⟨ws, H2, I3, rw', hl, ea2, q2⟩ := h2
    have pu := (I3.pin (h1.objs.size, PySem.W.kxs_mw "ValueError.__init__" a) (List.mem_append_right _ List.mem_cons_self)).1
    refine ⟨pu, ?_⟩
    obtain ⟨t1, ho1⟩ := exo_at I3.hok ea2
    have I4 : Inv X pins σ H2 s2 := I3.pins_of fun p hp' => I3.pin p (by
      rcases List.mem_append.mp (List.mem_append_right X.pn hp') with z | z
      · exact List.mem_append_left _ z
      · exact List.mem_append_right _ (List.mem_cons_of_mem _ z))
    have hlen : us.length ≤ sizeLine := by
      rw [← Paired.length rw', sizeLine_eq]
      omega
    obtain ⟨hp2, g2, d2, tk2, os2⟩ := s2
    show wpAny _ _ (call (.ref h1.objs.size) us) _ _ _
    refine call_vw (I4.kIn _ _ hC) ho1 pu hlen fun h' t2 k hx => ?_
    have J4 := I4.write (t' := tk2) (x := a) (e := a) (o := exo a C none) (by rw [ea2]; exact True.intro) (.inl rfl) k ⟨_, hx⟩ (exo_ok hx)
    have eu : upd H2 a (exo a C none) = H2 := by
      funext b
      by_cases hb : b = a
      · rw [hb, upd_same, ea2]
      · rw [upd_ne hb]
    rw [eu] at J4
    exact ⟨σ, H2, J4, q2⟩
end

/-! ### an error's own __init__ -/
theorem lookup_fs_nil {f : Str} : (([] : List (Str × V)).lookup f) = none := rfl
/-- the promise of such an __init__: the fields fs are set, in this order -/
def exFs (fs : List Str) (ys : List V) : List (Str × V) := (fs.zip ys).reverse
def spEx (Cs : List Addr) (fs : List Str) : Sp := fun vs H Q _ => ∃ (a C : Addr) (ys : List V), C ∈ Cs ∧ vs = .ref a :: ys ∧ ys.length = fs.length ∧ H a = some (exo a C none) ∧
  ∀ d, H d = none → d ≠ a → Q .non (upd (upd H d (exd d (exFs fs ys))) a (exo a C (some d)))
/-- C(..), an error with its fields -/
def tMkC (C : Addr) (fs : List Str) (ta : TA) : L2.St → Hp → XK → Prop := fun σ H Q => ta σ H fun vs H1 => vs.length = fs.length ∧ ∀ d, H1 d = none → Q (.ref C) (some d) (upd H1 d (.xd (exFs fs vs)))
theorem pmk_imp {X : Cx} {e : Expr} {t t' : L2.St → Hp → XK → Prop} (h : PMk X e t) (i : ∀ σ H Q, t' σ H Q → t σ H Q) : PMk X e t' := fun pins s σ H Q I q => h pins s σ H Q I (i σ H Q q)
theorem mo_pa {X : Cx} {es : List Expr} {ta : TA} (h : PA X es ta) : PA X es (moA ta) := pa_mo h
theorem mkC_of {C : Addr} {Cs : List Addr} {fs : List Str} {ta : TA} (hC : C ∈ Cs) (hl : fs.length ≤ 900) {σ : L2.St} {H : Hp} {Q : XK} (q : tMkC C fs ta σ H Q) : tMkO C (spEx Cs fs) [] (moA ta) σ H Q := by
  refine ⟨_, q, fun vs H1 ⟨e, h⟩ => ⟨by omega, fun a ha => ⟨a, C, vs, hC, by rw [List.append_nil], e, upd_same, fun d hd hne => ⟨rfl, d, exFs fs vs, upd_same, ?_, ?_, ?_⟩⟩⟩⟩
  · rw [upd_ne hne, upd_same]
  · rw [upd_ne hne] at hd
    exact hd
  · rw [upd_ne hne] at hd
    have e2 : upd (del (upd (upd (upd H1 a (exo a C none)) d (exd d (exFs fs vs))) a (exo a C (some d))) a) d (.xd (exFs fs vs)) = upd H1 d (.xd (exFs fs vs)) := by
      funext b
      by_cases hb : b = d
      · rw [hb, upd_same, upd_same]
      · rw [upd_ne hb, upd_ne hb]
        by_cases hba : b = a
        · rw [hba, del_same, ha]
        · rw [del_ne hba, upd_ne hba, upd_ne hb, upd_ne hba]
    rw [e2]
    exact h d hd
theorem pmk_ex {X : Cx} {CX : CXT} {x : Str} {C fI : Addr} {Cs : List Addr} {fs : List Str} {k : Nat} {fd : FuncData} {ps : List Str} {e : Expr} {es : List Expr} {ta : TA} {p pos : Pos} (T : OexC X.K C) (iC : PySem.W.findIn X.K (.ref C) "__init__" = some (some (.ref fI))) (tI : PySem.W.typeIn X.K (.ref fI) = some (.type "function"))
    (F1 : FnOk X.prog X.w X.K X.mg X.base CX k fI fd ps (spEx Cs fs)) (hC : C ∈ Cs) (hl : fs.length ≤ 900) (hr : Room (k + 1) X.A) (hb : Binds X.K fd ps []) (hx : Passes CX X (fun _ _ _ => False)) (hg : Gl X x) (hm : X.mg x = some (.ref C)) (ha : PA X (e :: es) ta)
    (hdb : (x == ("__debug__" : Str)) = false := by decide) (he : starEach (e :: es) X.env = (false, eval e X.env) :: starEach es X.env := by rfl) (hpl : (backTo pos (starEach es X.env)).any (·.1) = false := by rfl) :
    PMk X (.Call (.Name x p) (e :: es) [] pos) (tMkC C fs ta) :=
  pmk_imp (pmk_oex (dvs := []) (ds := []) T iC tI F1 hr hb .nil hx hg hm (pa_mo ha) hdb he hpl) fun _ _ _ q => mkC_of hC hl q
/-- raise C(..) -/
def sRaise (E : XK) (t : L2.St → Hp → XK → Prop) : TS := fun _ σ H => t σ H E
def sRaiseS (W : WX) (t : L2.St → Hp → XK → Prop) : TS := fun _ σ H => t σ H fun cls d H' => W cls d σ H'
theorem ps_raiseE {X : Cx} {E : XK} {e : Expr} {t : L2.St → Hp → XK → Prop} {pos : Pos} (hc : X.calm = true) (tk : Takes X (fun cls d _ H => E cls d H)) (he : PMk X e t) : PS X (.Raise (some e) none pos) (sRaise E t) := ps_raise hc tk he
theorem ps_raiseS {X : Cx} {W : WX} {e : Expr} {t : L2.St → Hp → XK → Prop} {pos : Pos} (hc : X.calm = true) (tk : Takes X W) (he : PMk X e t) : PS X (.Raise (some e) none pos) (sRaiseS W t) := ps_raise hc tk he

/-! ### try, with several clauses -/
structure Clz where
  c : Value
  i : Option Nat
  ts : Addr → Value → Option Addr → TS
def endsI : Option Nat → Ends → Ends
  | none, D => D
  | some i, D => { nx := fun σ' H' => D.nx (σ'.set i none) H', rt := D.rt, bk := fun σ' H' => D.bk (σ'.set i none) H', ct := fun σ' H' => D.ct (σ'.set i none) H' }
def setI : Option Nat → V → L2.St → L2.St
  | none, _, σ => σ
  | some i, v, σ => σ.set i (some v)
/-- a clause takes the exception -/
def hitN (K : PySem.W.Frag) (D : Ends) (cls : Value) (d : Option Addr) (σ : L2.St) (H : Hp) : List Clz → Prop
  | [] => False
  | z :: r => (PySem.W.exmOne K cls z.c = some true ∧ ∀ a, H a = none → z.ts a cls d (endsI z.i D) (setI z.i (.ref a) σ) H) ∨ (PySem.W.exmOne K cls z.c = some false ∧ hitN K D cls d σ H r)
inductive HnOk (X : Cx) : List ExceptHandler → List Clz → Prop
  | nil : HnOk X [] []
  | anon {x : Str} {c : Value} {ts : Addr → Value → Option Addr → TS} {b₀ : Stmt} {suite : List Stmt} {np pos' : Pos} {hds : List ExceptHandler} {l : List Clz} (hc : Names X x c)
      (hsu : ∀ (a : Addr) (oe : Obj) (cls : Value) (d : Option Addr) (pn : List (Addr × Obj)), Zc cls d oe → (∃ vs, oe.data = .fields vs) → PSs (X.suite a ((a, oe) :: pn)) (b₀ :: suite) (ts a cls d)) (r : HnOk X hds l) :
      HnOk X (.ExceptHandler (some (.Name x np)) none (b₀ :: suite) pos' :: hds) (⟨c, none, ts⟩ :: l)
  | named {x n : Str} {i : Nat} {c : Value} {ts : Addr → Value → Option Addr → TS} {b₀ : Stmt} {suite : List Stmt} {np pos' : Pos} {hds : List ExceptHandler} {l : List Clz} (hc : Names X x c) (hi : X.N[i]? = some n) (hln : X.env.kindOf n = some .local)
      (hsu : ∀ (a : Addr) (oe : Obj) (cls : Value) (d : Option Addr) (pn : List (Addr × Obj)), Zc cls d oe → (∃ vs, oe.data = .fields vs) → PSs (X.suite a ((a, oe) :: pn)) (b₀ :: suite) (ts a cls d)) (r : HnOk X hds l) :
      HnOk X (.ExceptHandler (some (.Name x np)) (some n) (b₀ :: suite) pos' :: hds) (⟨c, some i, ts⟩ :: l)
section
variable {X : Cx} {body : List Stmt} {h₀ : ExceptHandler} {hds : List ExceptHandler} {l : List Clz} {pos : Pos} {tb : WX → TS}
theorem ps_tryN (hs : X.stack = X.env :: X.outer) (hf : X.env.frame = some X.env.locals) (hN : X.N.Nodup)
    (hb : ∀ (W : WX) (pn : List (Addr × Obj)) (xe : Value → Shared → Prop), Takes (X.tr pn xe) W → PassesOwn (model X.prog X.w) X.A X.env xe → PSs (X.tr pn xe) body (tb W))
    (hh : HnOk X (h₀ :: hds) l) : PS X (.Try body (h₀ :: hds) [] [] pos) (fun D σ H => tb (fun cls d σ H => hitN X.K D cls d σ H l) D σ H) := ⟨fun pins s σ H D I h => by
  have ok := I.ok
  have frame : X.A.frames = some (X.env :: X.outer) := ok.frames.trans (congrArg some hs)
  refine wpAny_Try_except (wpAny_mono ((hb _ (X.pn ++ pins) _ (fun u s' xx => ?_) PassesOwn.looking).run [] s σ H D (I.toTry _) h) (fun f s1 hsp => ?_) fun e s1 he => he)
  · obtain ⟨a, B, sI, pins', σ', H', cls, d, rfl, J', nb, up, sky, na, os, ag, w⟩ := xx
    have J : Inv X pins σ' H' sI := J'.ofTry ok
    have sk : Sky B (X.env :: X.outer) a (Zc cls d) X.env.locals s'.heap := hs ▸ sky
    refine Sky.land Zc.steady frame hf sk fun hL fL uL => ?_
    have JL : Inv X pins σ' H' { s' with heap := hL } := J.landed nb fL.1 (up.trans uL) os ag
    obtain ⟨oL, vL, gL, zL, dL⟩ := fL.there
    have apart : a ∉ frs (X.env :: X.outer) := fun hm => by
      obtain ⟨_, o', e', hnf⟩ := fL.2.2.1.mem hm
      rw [gL] at e'
      cases e'
      exact hnf _ dL
    have aL : a ≠ X.env.locals := fun z => apart (List.mem_filterMap.mpr ⟨X.env, List.mem_cons_self, by rw [hf, z]⟩)
    have aF : a ∉ X.fs := fun hm => by
      obtain ⟨e, he, q⟩ := List.mem_filterMap.mp hm
      exact apart (List.mem_filterMap.mpr ⟨e, List.mem_cons_of_mem _ he, q⟩)
    have SL := JL.suite gL dL na aL aF
    have LT : PySem.W.Looks (model X.prog X.w) hL (typeOf (.ref a)) cls := fun A Q E s k q => wpAny_typeOf_ref (k _ _ gL) (by rw [zL.1]; exact q)
    have names : ∀ {x : Str} {c : Value} {np : Pos} {Q : Value → Shared → Prop} {E : Value → Shared → Prop}, Names X x c → Q c { s' with heap := hL } → wpAny (model X.prog X.w) (X.A.mark (some (.ref a))) (eval (.Name x np) X.env) Q E { s' with heap := hL } := fun {x c np Q E} hc q => by
      obtain ⟨hg, hdbg, hm | ⟨hm, hv, hnn⟩⟩ := hc
      · exact ld_glob (X := X.suite a ((a, oL) :: (X.pn ++ pins))) SL hg hm q hdbg
      · exact ld_blt (X := X.suite a ((a, oL) :: (X.pn ++ pins))) SL hg hm hv q hnn hdbg
    suffices go : ∀ {hs' : List ExceptHandler} {l' : List Clz}, HnOk X hs' l' → hitN X.K D cls d σ' H' l' → wpAny (model X.prog X.w) X.A (handleBy (.ref a) X.env hs') (SP X pins D) X.xe { s' with heap := hL } from go hh w
    intro hs' l' hk
    induction hk with
    | nil => exact fun w => w.elim
    | @anon x c ts b₀ suite np pos' hds2 l2 hc hsu r ih =>
      intro w
      refine wpAny_handleBy_cons (codeAny_handlers_test ?_) (by intro q; cases q)
      rcases w with ⟨e, w⟩ | ⟨e, w⟩
      · refine names hc ((PySem.W.exm_one (M := model X.prog X.w) JL.kIn LT e).here ?_)
        refine codeAny_handlers_suite (HandSPX.lands_againZ fL fun h4 f4 u4 => ?_)
        have J4 : Inv X pins σ' H' { s' with heap := h4 } := J.landed nb f4.1 ((up.trans uL).trans u4) os ag
        obtain ⟨o4, v4, g4, z4, d4⟩ := f4.there
        refine wpAny_mono ((hsu a o4 cls d (X.pn ++ pins) z4 ⟨_, d4⟩).run [] _ σ' H' _ (J4.suite g4 d4 na aL aF) (w a na)) (fun f s6 hsp => ?_) (fun _ _ z => False.elim z)
        cases f with
        | ret u =>
          obtain ⟨v6, σ6, H6, S6, r6, q6⟩ := hsp
          exact ⟨_, _, _, S6.unsuite ok, r6, q6⟩
        | next | brk | cont =>
          obtain ⟨σ6, H6, S6, q6⟩ := hsp
          exact ⟨_, _, S6.unsuite ok, q6⟩
      · exact names hc ((PySem.W.exm_one (M := model X.prog X.w) JL.kIn LT e).here (ih w))
    | @named x n i c ts b₀ suite np pos' hds2 l2 hc hi hln hsu r ih =>
      intro w
      refine wpAny_handleBy_cons (codeAny_handlers_test ?_) (by intro q; cases q)
      rcases w with ⟨e, w⟩ | ⟨e, w⟩
      · refine names hc ((PySem.W.exm_one (M := model X.prog X.w) JL.kIn LT e).here ?_)
        refine codeAny_handlers_suite_as (HandSPX.lands_againZ fL fun h4 f4 u4 => ?_)
        have J4 : Inv X pins σ' H' { s' with heap := h4 } := J.landed nb f4.1 ((up.trans uL).trans u4) os ag
        obtain ⟨o4, v4, g4, z4, d4⟩ := f4.there
        refine store_ok (X := X.suite a ((a, o4) :: (X.pn ++ pins))) (v := .ref a) (J4.suite g4 d4 na aL aF) hN hi (.inl hln) rfl (fun s5 S5 => ?_) (.inr hln)
        refine wpAny_mono ((hsu a o4 cls d (X.pn ++ pins) z4 ⟨_, d4⟩).run [] s5 _ H' _ S5 (w a na)) (fun f s6 hsp => ?_) (fun _ _ z => False.elim z)
        have away : ∀ {σ6 : L2.St} {H6 : Hp} {Q : Shared → Prop}, Inv (X.suite a ((a, o4) :: (X.pn ++ pins))) [] σ6 H6 s6 → (∀ s7, Inv X pins (σ6.set i none) H6 s7 → Q s7) →
            wpAny (model X.prog X.w) X.A (do bindName X.env n .none; unbindBehindTheSuite X.env n pos') (fun _ s7 => Q s7) X.xe s6 := fun {σ6 H6 Q} S6 hq => gone_ok (S6.unsuite ok) hN hi hln hq
        cases f with
        | ret u =>
          obtain ⟨v6, σ6, H6, S6, r6, q6⟩ := hsp
          exact away S6 fun s7 J7 => ⟨_, _, _, J7, r6, q6⟩
        | next | brk | cont =>
          obtain ⟨σ6, H6, S6, q6⟩ := hsp
          exact away S6 fun s7 J7 => ⟨_, _, J7, q6⟩
      · exact names hc ((PySem.W.exm_one (M := model X.prog X.w) JL.kIn LT e).here (ih w))
  · cases f with
    | next =>
      obtain ⟨σ', H', J', q⟩ := hsp
      exact wpAny_execs_nil ⟨σ', H', J'.ofTry ok, q⟩
    | ret u =>
      obtain ⟨v, σ', H', J', r, q⟩ := hsp
      exact ⟨v, σ', H', J'.ofTry ok, r, q⟩
    | brk | cont =>
      obtain ⟨σ', H', J', q⟩ := hsp
      exact ⟨σ', H', J'.ofTry ok, q⟩⟩
/-- which clause takes the exception of the class cls -/
inductive Hits (K : PySem.W.Frag) (cls : Value) : List Value → Nat → Prop
  | here {c : Value} {r : List Value} (h : PySem.W.exmOne K cls c = some true) : Hits K cls (c :: r) 0
  | there {c : Value} {r : List Value} {k : Nat} (h : PySem.W.exmOne K cls c = some false) (t : Hits K cls r k) : Hits K cls (c :: r) (k + 1)
abbrev Sui := Option Nat × (Addr → Value → Option Addr → TS)
/-- the wish of a try's body, by a table of classes -/
def wT (tab : List (Value × Nat)) (cl : List Sui) (D : Ends) : WX := fun cls d σ H => ∃ k i ts, (cls, k) ∈ tab ∧ cl[k]? = some (i, ts) ∧ ∀ a, H a = none → ts a cls d (endsI i D) (setI i (.ref a) σ) H
def sTry (tab : List (Value × Nat)) (cl : List Sui) (tb : WX → TS) : TS := fun D σ H => tb (wT tab cl D) D σ H
theorem hits_of {K : PySem.W.Frag} {D : Ends} {cls : Value} {d : Option Addr} {σ : L2.St} {H : Hp} {i : Option Nat} {ts : Addr → Value → Option Addr → TS} (q : ∀ a, H a = none → ts a cls d (endsI i D) (setI i (.ref a) σ) H) :
    ∀ {l : List Clz} {k : Nat}, Hits K cls (l.map (·.c)) k → (l.map fun z => ((z.i, z.ts) : Sui))[k]? = some (i, ts) → hitN K D cls d σ H l
  | [], _, _, h => by cases h
  | z :: l, 0, h, e => by
    have e : ((z.i, z.ts) : Sui) = (i, ts) := by simpa using e
    cases e
    cases h with
    | here h => exact .inl ⟨h, q⟩
  | z :: l, k + 1, h, e => by
    cases h with
    | there h t => exact .inr ⟨h, hits_of q t (by simpa using e)⟩
theorem ps_tryT {tab : List (Value × Nat)} (tk0 : ∀ p ∈ tab, Hits X.K p.1 (l.map (·.c)) p.2) (hs : X.stack = X.env :: X.outer) (hf : X.env.frame = some X.env.locals) (hN : X.N.Nodup)
    (hb : ∀ (W : WX) (pn : List (Addr × Obj)) (xe : Value → Shared → Prop), Takes (X.tr pn xe) W → PassesOwn (model X.prog X.w) X.A X.env xe → PSs (X.tr pn xe) body (tb W))
    (hh : HnOk X (h₀ :: hds) l) : PS X (.Try body (h₀ :: hds) [] [] pos) (sTry tab (l.map fun z => (z.i, z.ts)) tb) := by
  refine ps_imp (ps_tryN (tb := fun W D σ H => ∃ W', (∀ c d σ H, W' c d σ H → W c d σ H) ∧ tb W' D σ H) hs hf hN (fun W pn xe tk pa => ⟨fun pins s σ H D I ⟨W', i, q⟩ => (hb W' pn xe (tk.imp i) pa).run pins s σ H D I q⟩) hh) fun D σ H q => ⟨_, fun c d σ H h => ?_, q⟩
  obtain ⟨k, i, ts, m, e, h⟩ := h
  exact hits_of h (tk0 _ m) e
end

/-! ### calls in a try's body: what is raised is wished for at the slots -/
section
variable {X : Cx} {CX : CXT} {k : Nat} {f C g p2' : Addr} {fd : FuncData} {ps : List Str} {sp : Sp} {E : L2.St → XK} {x m : Str} {p pos apos : Pos} {e o : Expr} {es : List Expr} {ta : TE} {t : TA}
def tCS (sp : Sp) (E : L2.St → XK) (t : TA) : TE := fun σ H Q => t σ H fun vs H1 => sp vs H1 Q (E σ)
def tMS (C : Addr) (m : Str) (sp : Sp) (E : L2.St → XK) (ta : TE) (t : TA) : TE := fun σ H Q => ta σ H fun x H1 => ∃ a dx fs, x = .ref a ∧ H1 a = some (.ins C dx fs) ∧ fs.lookup m = none ∧ t σ H1 fun vs H2 => sp (x :: vs) H2 Q (E σ)
def tNewS (C : Addr) (sp : Sp) (E : L2.St → XK) (t : TA) : TE := fun σ H Q => t σ H fun vs H1 => ∀ x dx, H1 x = none → H1 dx = none → dx ≠ x →
  sp (.ref x :: vs) (upd (upd H1 dx (.own x)) x (.ins C dx [])) (fun v H2 => v = .non ∧ Q (.ref x) H2) (E σ)
theorem pe_cS (F : FnOk X.prog X.w X.K X.mg X.base CX k f fd ps sp) (hr : Room k X.A) (hg : Gl X x) (hm : X.mg x = some (.ref f)) (hk : PySem.W.keepIn X.K (.ref f) = true) (hb : Binds X.K fd ps []) (hx : ∀ σ, PassesAt CX X σ (E σ))
    (ha : PA X (e :: es) t) (hdb : (x == ("__debug__" : Str)) = false := by decide) (he : starEach (e :: es) X.env = (false, eval e X.env) :: starEach es X.env := by rfl) (hpl : (backTo pos (starEach es X.env)).any (·.1) = false := by rfl) :
    PE X (.Call (.Name x p) (e :: es) [] pos) (tCS sp E t) := pe_callS F hr hg hm hk hb hx ha hdb he hpl
theorem pe_cS0 (F : FnOk X.prog X.w X.K X.mg X.base CX k f fd ps sp) (hr : Room k X.A) (hg : Gl X x) (hm : X.mg x = some (.ref f)) (hk : PySem.W.keepIn X.K (.ref f) = true) (hb : Binds X.K fd ps []) (hx : ∀ σ, PassesAt CX X σ (E σ))
    (hdb : (x == ("__debug__" : Str)) = false := by decide) : PE X (.Call (.Name x p) [] [] pos) (tCS sp E tNil) :=
  ⟨fun _ _ σ _ _ I h => wpAny_Call_Name_kw (ld_glob I hg hm (PySem.W.callWith_K0 I.kIn hk (run_fnS (us := []) F hr hb (hx σ) I .nil h)) hdb)⟩
theorem pe_mS {pl : Sem Bool} (he : PE X o ta) (c : Cls X.K C) (hm : Meth X.K C m f) (F : FnOk X.prog X.w X.K X.mg X.base CX k f fd ps sp) (hr : Room k X.A) (hb : Binds X.K fd ps []) (hx : ∀ σ, PassesAt CX X σ (E σ)) (ha : PA X (e :: es) t)
    (hst : starEach (e :: es) X.env = (false, eval e X.env) :: starEach es X.env := by rfl) (hpl : (backTo pos (starEach es X.env)).any (·.1) = false := by rfl)
    (ht : eval (.Call (.Attribute o m apos) (e :: es) [] pos) X.env = (do
      let ov ← eval o X.env
      standAt apos.atName
      let (f, first) ← holding [ov] (getMethod ov m pl)
      callWith pos f first (backTo pos (starEach (e :: es) X.env)) (backToKw pos (keywordEach [] X.env))) := by rfl) :
    PE X (.Call (.Attribute o m apos) (e :: es) [] pos) (tMS C m sp E ta t) := by
  refine ⟨fun pins s σ H Q I h => PySem.W.methodCall_KW (pl := pl) (thn (he.run pins s σ H _ I h) fun u s1 ⟨x, H1, I1, rx, a, dx, fs, ex, ea, l, q⟩ => ?_) ht⟩
  subst ex
  obtain rfl : u = Value.ref a := rx
  refine getmeth_ok I1 ea c hm l (PySem.W.callWith_K (first := [.ref a]) (h₀ := X.base) I.ok.mod.kin hm.kp (thn (ha.run pos pins s1 σ H1 _ I1 q) fun us s2 ⟨vs, H2, I2, r, q2⟩ => ⟨I2.kIn, ?_⟩) hst hpl)
  exact run_fnS (us := .ref a :: us) (vs := .ref a :: vs) F hr hb (hx σ) I2 (.cons rfl r) q2
theorem pe_mS0 {pl : Sem Bool} (he : PE X o ta) (c : Cls X.K C) (hm : Meth X.K C m f) (F : FnOk X.prog X.w X.K X.mg X.base CX k f fd ps sp) (hr : Room k X.A) (hb : Binds X.K fd ps []) (hx : ∀ σ, PassesAt CX X σ (E σ))
    (ht : eval (.Call (.Attribute o m apos) [] [] pos) X.env = (do
      let ov ← eval o X.env
      standAt apos.atName
      let (f, first) ← holding [ov] (getMethod ov m pl)
      callWith pos f first (backTo pos (starEach [] X.env)) (backToKw pos (keywordEach [] X.env))) := by rfl) :
    PE X (.Call (.Attribute o m apos) [] [] pos) (tMS C m sp E ta tNil) := by
  refine ⟨fun pins s σ H Q I h => PySem.W.methodCall_KW (pl := pl) (thn (he.run pins s σ H _ I h) fun u s1 ⟨x, H1, I1, rx, a, dx, fs, ex, ea, l, q⟩ => ?_) ht⟩
  subst ex
  obtain rfl : u = Value.ref a := rx
  exact getmeth_ok I1 ea c hm l (PySem.W.callWith_K0 (first := [.ref a]) I1.kIn hm.kp (run_fnS (us := [.ref a]) (vs := [.ref a]) F hr hb (hx σ) I1 (.cons rfl .nil) q))
theorem run_newS {E : XK} {pins : List (Addr × Obj)} {σ : L2.St} {H : Hp} {s : Shared} {Q : VK} {us : List Value} {vs : List V} (M : Mk X.K C f) (F : FnOk X.prog X.w X.K X.mg X.base CX k f fd ps sp) (hr : Room (k + 1) X.A) (hb : Binds X.K fd ps [])
    (hx : PassesAt CX X σ E) (I : Inv X pins σ H s) (r : Vals vs us)
    (h : ∀ x dx, H x = none → H dx = none → dx ≠ x → sp (.ref x :: vs) (upd (upd H dx (.own x)) x (.ins C dx [])) (fun v H2 => v = .non ∧ Q (.ref x) H2) E) : wpAny (model X.prog X.w) X.A (call (.ref C) us) (EP X pins σ Q) X.xe s := by
  have nn := Nat.le_refl s.heap.objs.size
  have hq := h (s.heap.objs.size + 1) s.heap.objs.size (I.hok.fresh (Nat.le_succ _)) (I.hok.fresh nn) (Nat.ne_of_lt (Nat.lt_succ_self _))
  have I2 := Inv.made (C := C) I
  have r2 : Vals (V.ref (s.heap.objs.size + 1) :: vs) (Value.ref (s.heap.objs.size + 1) :: us) := .cons rfl r
  have hl : (Value.ref (s.heap.objs.size + 1) :: us).length = ps.length := r2.length.symm.trans (F.len _ _ _ _ hq)
  have b := hb _ (Value.ref (s.heap.objs.size + 1) :: us) I2.kIn (by rw [List.append_nil]; exact hl)
  rw [List.append_nil] at b
  have e0 := I2.env0.make C us []
  refine wpAny_call (make_map (f := f) I.kIn M.makes M.init (beq_iff_eq.mp M.fn) (codeAny_mono (F.run _ X.stack _ _ ⟨Value.ref (s.heap.objs.size + 1) :: us, []⟩ _ _ _ _ (hr.make C us []) e0 b r2 hq) fun r s' hq' => ?_))
  cases r with
  | error e => exact hx pins _ _ e s' I2 hq'
  | ok fl =>
    cases fl with
    | ret u =>
      obtain ⟨v, H', I3, rv, ev, q3⟩ := I2.after hq'
      subst ev
      exact ⟨rv, V.ref (s.heap.objs.size + 1), H', I3, rfl, q3⟩
    | next | brk | cont => exact False.elim hq'
theorem pe_newS (M : Mk X.K C f) (F : FnOk X.prog X.w X.K X.mg X.base CX k f fd ps sp) (hr : Room (k + 1) X.A) (hg : Gl X x) (hm : X.mg x = some (.ref C)) (hb : Binds X.K fd ps []) (hx : ∀ σ, PassesAt CX X σ (E σ))
    (ha : PA X (e :: es) t) (hdb : (x == ("__debug__" : Str)) = false := by decide) (he : starEach (e :: es) X.env = (false, eval e X.env) :: starEach es X.env := by rfl) (hpl : (backTo pos (starEach es X.env)).any (·.1) = false := by rfl) :
    PE X (.Call (.Name x p) (e :: es) [] pos) (tNewS C sp E t) :=
  ⟨fun pins s σ H Q I h => wpAny_Call_Name_kw (ld_glob I hg hm (PySem.W.callWith_K (h₀ := X.base) I.ok.mod.kin M.kp (thn (ha.run pos pins s σ H _ I h) fun us s1 ⟨vs, H1, I1, r, q⟩ => ⟨I1.kIn, run_newS M F hr hb (hx σ) I1 r q⟩) he hpl) hdb)⟩
end

/-! ### in an except suite: isinstance, fields -/
/-- its dict stands -/
def DOk (d : Option Addr) (H : Hp) : Prop := ∃ dd fs, d = some dd ∧ H dd = some (.xd fs)
/-- isinstance(e, c), e the exception in hand, by a table -/
def rIsX (tbl : List (Value × V × Bool)) (a : Addr) (cls : Value) (d : Option Addr) : List V → Hp → VK → Prop := fun xs H Q => (∃ c b, xs = [.ref a, c] ∧ (cls, c, b) ∈ tbl ∧ DOk d H ∧ Q (.bl b) H) ∨ rIsI xs H Q
structure IsOk (K : PySem.W.Frag) (cls : Value) (c : V) (b : Bool) : Prop where
  ex : ∃ (D : Addr) (cv : Value), cls = .ref D ∧ ExcC K D ∧ (∀ u, RelV c u → u = cv) ∧ PySem.W.kitOne K (.ref D) cv = some b
theorem c_isX {X : Cx} {a : Addr} {oe : Obj} {cls : Value} {d : Option Addr} {pn : List (Addr × Obj)} {tbl : List (Value × V × Bool)} (T : ∀ p ∈ tbl, IsOk X.K p.1 p.2.1 p.2.2) (hz : Zc cls d oe) (hf : ∃ vs, oe.data = .fields vs) :
    CallR (X.suite a ((a, oe) :: pn)) (.builtin "isinstance") (rIsX tbl a cls d) := by
  intro pins s σ H xs us Q I r h
  rcases h with ⟨c, b, rfl, m, ⟨dd, fs, ed, ea⟩, q⟩ | h
  · obtain ⟨D, cv, ec, C, hcv, e⟩ := (T _ m).ex
    cases r with
    | cons rx rr =>
      cases rr with
      | cons rt rr =>
        cases rr
        obtain rfl := hcv _ rt
        cases rx
        obtain ⟨vs, hv⟩ := hf
        have hget := (I.pin (a, oe) (List.mem_append_left _ List.mem_cons_self)).1
        have ho : ObjOk X.prog X.w H s.heap dd (.xd fs) := I.hok dd _ ea
        obtain ⟨mA, ⟨od, es, ep, ho, _⟩, _⟩ := ho
        have J : PySem.W.InstAt s.heap a oe D (some od) := ⟨hget, by rw [hz.1]; exact ec, by unfold PySem.W.notCls; rw [hv] <;> rfl, by rw [hz.2, ed]; exact ho⟩
        have hcl : (PySem.W.clsIn X.K D).isSome = true := by
          obtain ⟨cd, hc, _⟩ := PySem.W.any_some C.hd
          rw [hc]
          rfl
        exact PySem.W.kia_one (PySem.W.kitx_exc hcl C.hg C.hk C.hs C.ha C.hn C.ht C.hm) I.kIn J e (fun z => nomatch z) fun tk => ⟨.bl b, H, I.kept (t' := tk) fun _ _ z => z, rfl, q⟩
  · exact c_isi pins s σ H xs us Q I r h
/-- e.f, e the exception in hand -/
def eXf (a : Addr) (cls : Value) (d : Option Addr) (Cs : List Addr) (f : Str) (te : TE) : TE := fun σ H Q => te σ H fun x H1 => x = .ref a ∧ ∃ C, C ∈ Cs ∧ cls = .ref C ∧ ∃ (dd : Addr) (fs : List (Str × V)) (v : V), d = some dd ∧ H1 dd = some (.xd fs) ∧ fs.lookup f = some v ∧ Q v H1
structure XfOk (K : PySem.W.Frag) (C : Addr) (f : Str) : Prop where
  xf : XfC K C
  no : PySem.W.findIn K (.ref C) f = some none
theorem pe_eXf {X : Cx} {a : Addr} {oe : Obj} {cls : Value} {d : Option Addr} {pn : List (Addr × Obj)} {e : Expr} {te : TE} {pos : Pos} {n : Str} {Cs : List Addr} (T : ∀ C ∈ Cs, XfOk X.K C n) (hz : Zc cls d oe) (hf : ∃ vs, oe.data = .fields vs) (he : PE (X.suite a ((a, oe) :: pn)) e te)
    (hb : attributeBase e n X.env (eval e X.env) = eval e X.env := by rfl) : PE (X.suite a ((a, oe) :: pn)) (.Attribute e n pos) (eXf a cls d Cs n te) := by
  refine ⟨fun pins s σ H Q I h => attr_of hb (thn (he.run pins s σ H _ I h) fun u s1 hh => ?_)⟩
  obtain ⟨x, H1, I1, rx, rfl, C, hC, rfl, dd, fs, v, rfl, ea, l, q⟩ := hh
  obtain rfl : u = Value.ref a := rx
  have T1 := (T C hC).xf
  obtain ⟨ha, _⟩ := I1.pin (a, oe) (List.mem_append_left _ List.mem_cons_self)
  obtain ⟨vs, hd⟩ := hf
  obtain ⟨mA, hns, hr⟩ : ObjOk X.prog X.w H1 s1.heap dd (.xd fs) := I1.hok dd _ ea
  obtain ⟨od, ho, hl⟩ := lookIn_ns hns
  obtain ⟨u, hu, ru⟩ := RelO.some_of (v := v) (o := mA n) (by rw [← l]; exact hr n)
  have J : PySem.W.InstAt s1.heap a oe C (some od) := ⟨ha, hz.1, by unfold PySem.W.notCls; rw [hd] <;> rfl, by rw [hz.2]; exact ho⟩
  exact HandSPX.exc_get I1.kIn J T1.ga T1.gg T1.exC (PySem.W.findObj_own T1.hdC (T C hC).no rfl (by rw [hl, hu])) (handed_of ru) ⟨v, H1, I1.tok _, ru, q⟩

/-! ### a def of the text that says super(), by its body -/
structure FunS (P : Program) (K : PySem.W.Frag) (x qual : Str) (st : Stmt) (f : Addr) (fd : FuncData) (D : Addr) : Prop where
  ex : ∃ (oc cl ccl dV kV doc pm ct : Value) (od cld cdd an : Option Addr) (osl csl ccs : Array (Option Value)) (cda cc : Addr) (vs : Array Value) (file : Str) (tf : Tok) (cdD : ClassData),
    fd = ksFn x qual (defArgs st) (defBody st) (defScope st) dV kV doc pm an (.ref cda) ct cc ∧ K.lookup f = some ⟨oc, od, .func fd, osl⟩ ∧ PySem.W.codeIn K (.ref cda) qual = true ∧ K.lookup cc = some ⟨cl, cld, .cell (some (.ref D)), csl⟩ ∧
    K.lookup cda = some ⟨ccl, cdd, .fields vs, ccs⟩ ∧ vs[2]? = some (.str file tf) ∧ ((P.main.file : Str) == file) = true ∧ PySem.W.clsIn K D = some cdD
  kp : PySem.W.keepIn K (.ref f) = true
theorem FunS.ok {P : Program} {w : World} {K : PySem.W.Frag} {mg : Str → Option Value} {base : Heap} {x qual : Str} {st : Stmt} {f D : Addr} {fd : FuncData} {N ps : List Str} {k : Nat} {sp : Sp} {ar : Arg} (F : FunS P K x qual st f fd D) (S : FnScS N ps (defScope st))
    (ha : ((defArgs st).posonlyargs ++ (defArgs st).args).head? = some ar) (hka : (defScope st).names.lookup ar.arg = some .local) (hN : N[0]? = some ar.arg) (hks : (defScope st).names.lookup ("super" : Str) = some .globalImplicit) (hkc : (defScope st).names.lookup ("__class__" : Str) = some .free)
    (htop : (P.main.scope.names.lookup ("super" : Str)).isSome = false) (hmg : mg "super" = none) (len : ∀ vs H Q E, sp vs H Q E → vs.length = ps.length)
    (hbody : ∀ (cdv : Value) (cc : Addr) (A : Around) (outer : List Env) (s : Shared) (H : Hp) (vs : List V) (Q : VK) (E : XK), Room k (A.deeper (ksEnv qual (defScope st) s.heap.objs.size f cdv cc)) → SupT (cxS P w K mg base N qual (defScope st) f cdv cc A outer s H E) D → sp vs H Q E →
      ∃ t, PSsA (cxS P w K mg base N qual (defScope st) f cdv cc A outer s H E) (.func (defBody st) (ksEnv qual (defScope st) s.heap.objs.size f cdv cc)) (defBody st) t ∧ t { nx := fun _ H' => Q .non H', rt := Q } (L2.start N vs) H) :
    FnOk P w K mg base (L2.CX P w) (k + 1) f fd ps sp := by
  obtain ⟨oc, cl, ccl, dV, kV, doc, pm, ct, od, cld, cdd, an, osl, csl, ccs, cda, cc, vs, file, tf, cdD, e, lk, hcd, hcc, hcode, hv, hfile, hD⟩ := F.ex
  subst e
  refine fn_ofS lk hcd hcc S len fun A outer s H vs' Q E hr hsp => hbody (.ref cda) cc A outer s H vs' Q E hr ?_ hsp
  refine ⟨⟨f, cc, cda, _, ar, vs, file, tf, oc, ccl, cl, od, cdd, cld, osl, ccs, csl, cdD, rfl, lk, ha, rfl, hcode, hv, hfile, ?_, hcc, hD, hka, hN⟩, hks, hkc, htop, hmg⟩
  show List.lookup ("__class__" : Str) [(("__class__" : Str), cc)] = some cc
  simp [List.lookup]
/-- an error with one field -/
theorem ex1 {K : PySem.W.Frag} {Cs : List Addr} {D : Addr} {f m : Str} (h : ∀ C ∈ Cs, SupV K C D ∧ PySem.W.findIn K (.ref C) f = some none) {vs : List V} {H : Hp} {Q : VK} {E : XK} (q : spEx Cs [f] vs H Q E) {n x : Str} :
    tSeq (tDrop (tSupV K D (tCons (tC (.str m)) tNil))) (tOst K f (tVar 0) (tVar 1)) { nx := fun _ H' => Q .non H', rt := Q } (L2.start [n, x] vs) H := by
  obtain ⟨a, C, ys, hC, rfl, hl, ea, q⟩ := q
  obtain ⟨V, na⟩ := h C hC
  cases ys with
  | nil => cases hl
  | cons y ys =>
    cases ys with
    | cons _ _ => cases hl
    | nil => exact ⟨a, C, rfl, ea, V, (by show 1 ≤ 1000; decide), ea, y, rfl, .ref a, rfl, a, C, rfl, V.ex, na, .inl ⟨ea, fun dx hd hne => q dx hd hne⟩⟩
theorem spEx_len {Cs : List Addr} {fs : List Str} (vs : List V) (H : Hp) (Q : VK) (E : XK) (q : spEx Cs fs vs H Q E) : vs.length = fs.length + 1 := by
  obtain ⟨a, C, ys, _, rfl, hl, _⟩ := q
  rw [List.length_cons, hl]
theorem all_nil {α : Type} {p : α → Prop} : ∀ x ∈ ([] : List α), p x := fun _ h => nomatch h
theorem all_cons {α : Type} {p : α → Prop} {a : α} {l : List α} (h : p a) (t : ∀ x ∈ l, p x) : ∀ x ∈ a :: l, p x := fun x m => by
  rcases List.mem_cons.mp m with e | m
  · rw [e]; exact h
  · exact t x m
end Y

/-! Objects of several classes: dispatch, inherited members, super().m(..), defaults. -/
namespace Y
open PySem PySem.Spec PyProof.Rows L2
open PySem.W (ksEnv ksFn)

/-! ### a method, a field, a property by the object's class -/
structure MD (X : Cx) (m : Str) (k : Nat) (p : Addr × Sp) : Prop where
  ex : ∃ (f : Addr) (fd : FuncData) (ps : List Str), Cls X.K p.1 ∧ Meth X.K p.1 m f ∧ FnOk X.prog X.w X.K X.mg X.base (L2.CX X.prog X.w) k f fd ps p.2 ∧ Binds X.K fd ps []
structure PD (X : Cx) (f : Str) (k : Nat) (p : Addr × Sp) : Prop where
  ex : ∃ (pa g : Addr) (fd : FuncData) (ps : List Str), Cls X.K p.1 ∧ PropOf X.K p.1 f pa g ∧ FnOk X.prog X.w X.K X.mg X.base (L2.CX X.prog X.w) k g fd ps p.2 ∧ Binds X.K fd ps []
structure FD (K : PySem.W.Frag) (f : Str) (C : Addr) : Prop where
  c : Cls K C
  n : NoAttr K C f
def tMD (l : List (Addr × Sp)) (m : Str) (E : L2.St → XK) (ta : TE) (t : TA) : TE := fun σ H Q => ta σ H fun x H1 => ∃ a C dx fs sp, x = .ref a ∧ H1 a = some (.ins C dx fs) ∧ (C, sp) ∈ l ∧ fs.lookup m = none ∧ t σ H1 fun vs H2 => sp (x :: vs) H2 Q (E σ)
def eFldD (Cs : List Addr) (f : Str) (te : TE) : TE := fun σ H Q => te σ H fun x H1 => ∃ a C dx fs v, x = .ref a ∧ H1 a = some (.ins C dx fs) ∧ C ∈ Cs ∧ fs.lookup f = some v ∧ Q v H1
def sSetFD (Cs : List Addr) (f : Str) (te tv : TE) : TS := fun D σ H => tv σ H fun y H1 => te σ H1 fun x H2 => ∃ a C dx fs, x = .ref a ∧ H2 a = some (.ins C dx fs) ∧ C ∈ Cs ∧ fs.length < 1000 ∧ D.nx σ (upd H2 a (.ins C dx (putF f y fs)))
def sAugFD (Cs : List Addr) (f : Str) (te tv : TE) (rd : V → V → Hp → VK → Prop) : TS := fun D σ H => te σ H fun x H1 => ∃ a C dx fs v, x = .ref a ∧ H1 a = some (.ins C dx fs) ∧ C ∈ Cs ∧ fs.lookup f = some v ∧
  tv σ H1 fun y H2 => rd v y H2 fun z H3 => ∃ dx' fs', H3 a = some (.ins C dx' fs') ∧ fs'.length < 1000 ∧ D.nx σ (upd H3 a (.ins C dx' (putF f z fs')))
def ePropD (l : List (Addr × Sp)) (te : TE) : TE := fun σ H Q => te σ H fun x H1 => ∃ a C dx fs sp, x = .ref a ∧ H1 a = some (.ins C dx fs) ∧ (C, sp) ∈ l ∧ sp [.ref a] H1 Q E0
theorem pass_at {X : Cx} {CX : CXT} {E : XK} (hx : Passes CX X E) (σ : L2.St) : PassesAt CX X σ ((fun _ => E) σ) := fun pins H s e s' I c => hx pins σ H s e s' I c
section
variable {X : Cx} {k : Nat} {l : List (Addr × Sp)} {Cs : List Addr} {m f : Str} {E : L2.St → XK} {p pos pos' apos : Pos} {e ev o : Expr} {es : List Expr} {ta te tv : TE} {t : TA}
theorem pe_mD {pl : Sem Bool} (he : PE X o ta) (T : ∀ p ∈ l, MD X m k p) (hr : Room k X.A) (hx : ∀ σ, PassesAt (L2.CX X.prog X.w) X σ (E σ)) (ha : PA X (e :: es) t)
    (hst : starEach (e :: es) X.env = (false, eval e X.env) :: starEach es X.env := by rfl) (hpl : (backTo pos (starEach es X.env)).any (·.1) = false := by rfl)
    (ht : eval (.Call (.Attribute o m apos) (e :: es) [] pos) X.env = (do
      let ov ← eval o X.env
      standAt apos.atName
      let (f, first) ← holding [ov] (getMethod ov m pl)
      callWith pos f first (backTo pos (starEach (e :: es) X.env)) (backToKw pos (keywordEach [] X.env))) := by rfl) :
    PE X (.Call (.Attribute o m apos) (e :: es) [] pos) (tMD l m E ta t) := by
  refine ⟨fun pins s σ H Q I h => PySem.W.methodCall_KW (pl := pl) (thn (he.run pins s σ H _ I h) fun u s1 ⟨x, H1, I1, rx, a, C, dx, fs, sp, ex, ea, hC, l, q⟩ => ?_) ht⟩
  obtain ⟨f, fd, ps, c, hm, F, hb⟩ := (T _ hC).ex
  subst ex
  obtain rfl : u = Value.ref a := rx
  refine getmeth_ok I1 ea c hm l (PySem.W.callWith_K (first := [.ref a]) (h₀ := X.base) I.ok.mod.kin hm.kp (thn (ha.run pos pins s1 σ H1 _ I1 q) fun us s2 ⟨vs, H2, I2, r, q2⟩ => ⟨I2.kIn, ?_⟩) hst hpl)
  exact run_fnS (us := .ref a :: us) (vs := .ref a :: vs) F hr hb (hx σ) I2 (.cons rfl r) q2
theorem pe_mD0 {pl : Sem Bool} (he : PE X o ta) (T : ∀ p ∈ l, MD X m k p) (hr : Room k X.A) (hx : ∀ σ, PassesAt (L2.CX X.prog X.w) X σ (E σ))
    (ht : eval (.Call (.Attribute o m apos) [] [] pos) X.env = (do
      let ov ← eval o X.env
      standAt apos.atName
      let (f, first) ← holding [ov] (getMethod ov m pl)
      callWith pos f first (backTo pos (starEach [] X.env)) (backToKw pos (keywordEach [] X.env))) := by rfl) :
    PE X (.Call (.Attribute o m apos) [] [] pos) (tMD l m E ta tNil) := by
  refine ⟨fun pins s σ H Q I h => PySem.W.methodCall_KW (pl := pl) (thn (he.run pins s σ H _ I h) fun u s1 ⟨x, H1, I1, rx, a, C, dx, fs, sp, ex, ea, hC, l, q⟩ => ?_) ht⟩
  obtain ⟨f, fd, ps, c, hm, F, hb⟩ := (T _ hC).ex
  subst ex
  obtain rfl : u = Value.ref a := rx
  exact getmeth_ok I1 ea c hm l (PySem.W.callWith_K0 (first := [.ref a]) I1.kIn hm.kp (run_fnS (us := [.ref a]) (vs := [.ref a]) F hr hb (hx σ) I1 (.cons rfl .nil) q))
theorem pe_fldD (T : ∀ C ∈ Cs, FD X.K f C) (he : PE X e te) (hb : attributeBase e f X.env (eval e X.env) = eval e X.env := by rfl) : PE X (.Attribute e f pos) (eFldD Cs f te) :=
  pe_imp (pe_fld (pe_mo he) hb) fun σ H Q q => ⟨_, q, fun v H' ⟨a, C, dx, fs, w, e1, e2, hC, l, q⟩ => ⟨a, C, dx, fs, w, e1, e2, (T C hC).c, (T C hC).n, l, q⟩⟩
theorem ps_setFD (T : ∀ C ∈ Cs, FD X.K f C) (ha : PE X o te) (hv : PE X ev tv) (hs : swapsWith ev (some (.Attribute o f pos')) pos.line X.env = pure false := by rfl) : PS X (.Assign [.Attribute o f pos'] ev pos) (sSetFD Cs f te tv) :=
  ps_imp (ps_fld (pe_mo ha) (pe_mo hv) hs) fun D σ H q => ⟨_, q, fun y H1 q1 => ⟨_, q1, fun x H2 ⟨a, C, dx, fs, e1, e2, hC, l, q2⟩ => ⟨a, C, dx, fs, e1, e2, (T C hC).c, (T C hC).n, l, q2⟩⟩⟩
theorem ps_augFD {op : Operator} {rd : V → V → Hp → VK → Prop} (T : ∀ C ∈ Cs, FD X.K f C) (ha : PE X o te) (hv : PE X ev tv) (hop : InOp X op rd) : PS X (.AugAssign (.Attribute o f pos') op ev pos) (sAugFD Cs f te tv rd) :=
  ps_imp (ps_fldaug (pe_mo ha) (pe_mo hv) hop) fun D σ H q => ⟨_, q, fun x H1 ⟨a, C, dx, fs, v, e1, e2, hC, l, q2⟩ => ⟨a, C, dx, fs, v, e1, e2, (T C hC).c, (T C hC).n, l, ⟨_, q2, fun y H2 q3 => q3⟩⟩⟩
theorem pe_propD (he : PE X e te) (T : ∀ p ∈ l, PD X f k p) (hr : Room (k + 1) X.A) (hx : Passes (L2.CX X.prog X.w) X.nox E0) (hab : attributeBase e f X.env (eval e X.env) = eval e X.env := by rfl) : PE X (.Attribute e f pos) (ePropD l te) := by
  refine ⟨fun pins s σ H Q I h => attr_of hab (thn (he.run pins s σ H _ I h) fun u s1 ⟨x, H1, I1, rx, a, C, dx, fs, sp, ex, ea, hC, q⟩ => ?_)⟩
  obtain ⟨pa, g, fd, ps, c, hp, F, hb⟩ := (T _ hC).ex
  subst ex
  obtain rfl : u = Value.ref a := rx
  exact getprop_ok I1 ea c hp F hr hb .nil hx q
end

/-! ### super().m(..), m of an own class -/
structure SupM (K : PySem.W.Frag) (m : Str) (D f2 : Addr) (C : Addr) : Prop where
  opq : PySem.W.nsIn K PySem.cStatics "thirdparty.any" = some none
  fnd : PySem.W.ks_superIn K C D m = some (some (.ref f2))
  ty : PySem.W.typeIn K (.ref f2) = some (.type "function")
  fn : PySem.W.fnIn K f2 = true
  cls : (PySem.W.clsIn K C).isSome = true
  mro : PySem.W.mroIn K C (.ref D) = some true
def tSupM (Cs : List Addr) (sp : Sp) (E : XK) (t : TA) : TE := fun σ H Q => ∃ a C dx fs, σ[0]? = some (some (.ref a)) ∧ H a = some (.ins C dx fs) ∧ C ∈ Cs ∧ t σ H fun vs H1 => sp (.ref a :: vs) H1 Q E
section
variable {X : Cx} {D f2 : Addr} {Cs : List Addr} {m : Str} {k : Nat} {fd2 : FuncData} {ps2 : List Str} {sp : Sp} {E : XK} {body : List Stmt} {p0 p1 apos pos pos2 : Pos} {e : Expr} {es : List Expr} {ta : TA}
theorem psa_supM (T : SupT X D) (S : ∀ C ∈ Cs, SupM X.K m D f2 C) (F : FnOk X.prog X.w X.K X.mg X.base (L2.CX X.prog X.w) k f2 fd2 ps2 sp) (hr : Room k X.A) (hb : Binds X.K fd2 ps2 []) (hx : Passes (L2.CX X.prog X.w) X E) (ha : PA X (e :: es) ta) (hmc : (m == ("__class__" : Str)) = false := by decide) {pl : Sem Bool}
    (hc : eval (.Call (.Attribute (.Call (.Name "super" p0) [] [] p1) m apos) (e :: es) [] pos) X.env = (do
      let ov ← attributeBase (.Call (.Name "super" p0) [] [] p1) m X.env (eval (.Call (.Name "super" p0) [] [] p1) X.env)
      standAt apos.atName
      let (f, first) ← holding [ov] (getMethod ov m pl)
      callWith pos f first (backTo pos (starEach (e :: es) X.env)) []) := by rfl)
    (hi : interactive X.env = false := by rfl) (hs : swapsWith (.Call (.Attribute (.Call (.Name "super" p0) [] [] p1) m apos) (e :: es) [] pos) none pos2.line X.env = pure false := by rfl)
    (he : starEach (e :: es) X.env = (false, eval e X.env) :: starEach es X.env := by rfl) (hpl : (backTo pos (starEach es X.env)).any (·.1) = false := by rfl) :
    PSA X (.func body X.env) (.Expr (.Call (.Attribute (.Call (.Name "super" p0) [] [] p1) m apos) (e :: es) [] pos) pos2) (tDrop (tSupM Cs sp E ta)) := by
  refine ⟨fun pins s σ H K I h => ?_⟩
  obtain ⟨a, C, dx, fs, hσ, ea, hC, q⟩ := h
  obtain ⟨f, cc, cda, fd, ar, vs, file, tf, oc, ccl, cl, od, cdd, cld, osl, ccs, csl, cdD, z1, z2, z3, z4, z5, z6, z7, z8, z9, z10, z11, z12⟩ := T.ex
  obtain ⟨opq, fnd, ty, fnn, cls, mro⟩ := S C hC
  obtain ⟨mA, J0, _⟩ := ins_get I.hok ea
  obtain ⟨odx, J, _⟩ := J0.look
  obtain ⟨cd, hcl⟩ := Option.isSome_iff_exists.mp cls
  refine ks_wpAt_Expr_any (ks_wpAt_MethodCall (sup_base I T.ks T.kc hmc z1 z2 z3 z4 z5 z6 z7 T.top T.mg z8 z9 z10 z11 z12 hσ J mro fun h1 o1 k1 => ?_) hc) hi hs
  have KX : X.K.In h1 := I.kIn.keeps k1
  obtain ⟨hp, g, d, t, os⟩ := s
  obtain ⟨of, hof, hofc⟩ : ∃ of, h1.get? f2 = some of ∧ of.cls = .type "function" := by
    have ht' : (X.K.lookup f2).map (·.cls) = some (.type "function") := ty
    cases z : X.K.lookup f2 with
    | none => rw [z] at ht'; cases ht'
    | some of => rw [z] at ht'; exact ⟨of, KX _ _ z, Option.some.inj ht'⟩
  have hf := fnd
  unfold PySem.W.ks_superIn at hf
  rw [hcl] at hf
  refine ks_wpAny_getMethod_super o1 (PySem.W.looks_opaque KX opq) (l₀ := cd.mro) (fun A Q E s k q => wpAny_bind ((PySem.W.looks_clsIn KX hcl) A _ E s k (wpAny_pure q))) rfl KX hf hof hofc (PySem.W.ks_ne I.kIn J hcl) hmc ?_
  have kk : ∀ b o, hp.get? b = some o → (h1.push { cls := .type "method", data := .fields #[.ref f2, .ref a] }).get? b = some o := fun b o z => Heap.get?_push_of_some _ (k1 b o z)
  have hu : (h1.push { cls := .type "method", data := .fields #[.ref f2, .ref a] }).get? h1.objs.size = some { cls := .type "method", data := .fields #[.ref f2, .ref a] } := Heap.get?_push_at rfl rfl
  have szu : hp.objs.size ≤ h1.objs.size := Nat.le_of_lt (Heap.lt_size o1)
  have I2 : Inv X ((h1.objs.size, { cls := .type "method", data := .fields #[.ref f2, .ref a] }) :: pins) σ H ⟨h1.push { cls := .type "method", data := .fields #[.ref f2, .ref a] }, g, d, t + 1, os⟩ := by
    have z : Inv X pins σ H ⟨h1.push { cls := .type "method", data := .fields #[.ref f2, .ref a] }, g, d, t + 1, os⟩ := I.kept (t' := t + 1) kk
    refine z.pins_of fun p hp' => ?_
    rcases List.mem_cons.mp hp' with e | hp'
    · subst e
      have hl := I.lt
      refine ⟨hu, I.hok.fresh szu, fun y => ?_, I.nofs szu, fun v y => ?_⟩
      · have y : h1.objs.size = X.env.locals := y
        have hl : X.env.locals < hp.objs.size := hl
        rw [← y] at hl
        exact absurd (Nat.lt_of_lt_of_le hl szu) (Nat.lt_irrefl _)
      · cases y
    · exact z.pin p (List.mem_append_right _ hp')
  rw [he]
  refine PySem.W.callWith_of (P := PySem.W.MethP X.K h1.objs.size f2 (.ref a)) (by show ((false || (backTo pos (starEach es X.env)).any (·.1)) || false) = false; rw [hpl]; rfl) (PySem.W.keeps_M fnn) ?_
  have hsp := ha.run pos _ _ σ H _ I2 q
  rw [he] at hsp
  refine PySem.Calls.evalArgs_plain (wpAny_mono hsp (fun us s2 h2 => ?_) fun _ _ z => z)
  obtain ⟨ws, H2, I3, rw', q2⟩ := h2
  have pu := (I3.pin (h1.objs.size, { cls := .type "method", data := .fields #[.ref f2, .ref a] }) (List.mem_append_right _ List.mem_cons_self)).1
  refine ⟨⟨pu, I3.kIn⟩, ?_⟩
  have I4 : Inv X pins σ H2 s2 := I3.pins_of fun p hp' => I3.pin p (by
    rcases List.mem_append.mp (List.mem_append_right X.pn hp') with z | z
    · exact List.mem_append_left _ z
    · exact List.mem_append_right _ (List.mem_cons_of_mem _ z))
  have r2 : Vals (V.ref a :: ws) (Value.ref a :: us) := .cons rfl rw'
  have hl : (Value.ref a :: us).length = ps2.length := r2.length.symm.trans (F.len _ _ _ _ q2)
  have b := hb s2 (Value.ref a :: us) I4.kIn (by rw [List.append_nil]; exact hl)
  rw [List.append_nil] at b
  refine wpAny_call (PySem.W.method_call pu (codeAny_mono (F.run X.A X.stack s2 H2 ⟨Value.ref a :: us, []⟩ (Value.ref a :: us) _ _ E hr I4.env0 b r2 q2) fun r s' hq => ?_))
  cases r with
  | error e => exact hx pins σ H2 s2 e s' I4 hq
  | ok fl =>
    cases fl with
    | ret u =>
      obtain ⟨v, H3, I5, rv, q3⟩ := I4.after hq
      exact ⟨σ, H3, I5, q3⟩
    | next | brk | cont => exact False.elim hq
end

/-! ### a def that says super(), by its body; defaults -/
theorem ok_bodyS {P : Program} {w : World} {K : PySem.W.Frag} {mg : Str → Option Value} {base : Heap} {x qual : Str} {st : Stmt} {f D : Addr} {fd : FuncData} {N ps : List Str} {n m k : Nat} {t : XK → TS} {ar : Arg} (F : FunS P K x qual st f fd D) (S : FnScS N ps (defScope st)) (hn : N.length = n) (hm : ps.length = m)
    (ha : ((defArgs st).posonlyargs ++ (defArgs st).args).head? = some ar) (hka : (defScope st).names.lookup ar.arg = some .local) (hN : N[0]? = some ar.arg) (hks : (defScope st).names.lookup ("super" : Str) = some .globalImplicit) (hkc : (defScope st).names.lookup ("__class__" : Str) = some .free)
    (htop : (P.main.scope.names.lookup ("super" : Str)).isSome = false) (hmg : mg "super" = none)
    (h : ∀ (cdv : Value) (cc : Addr) (A : Around) (outer : List Env) (s : Shared) (H : Hp) (E : XK), Room k (A.deeper (ksEnv qual (defScope st) s.heap.objs.size f cdv cc)) → SupT (cxS P w K mg base N qual (defScope st) f cdv cc A outer s H E) D →
      PSsA (cxS P w K mg base N qual (defScope st) f cdv cc A outer s H E) (.func (defBody st) (ksEnv qual (defScope st) s.heap.objs.size f cdv cc)) (defBody st) (t E)) :
    FnOk P w K mg base (L2.CX P w) (k + 1) f fd ps (spB n m t) := by
  subst hn
  subst hm
  exact F.ok S ha hka hN hks hkc htop hmg (fun vs H Q E q => q.1) fun cdv cc A outer s H vs Q E hr T q => ⟨t E, h cdv cc A outer s H E hr T, q.2⟩
theorem passS {P : Program} {w : World} {K : PySem.W.Frag} {mg : Str → Option Value} {base : Heap} {N : List Str} {qual : Str} {scope : Scope} {f cc : Addr} {cd : Value} {A : Around} {outer : List Env} {s : Shared} {H : Hp} {E : XK} :
    Passes (L2.CX P w) (cxS P w K mg base N qual scope f cd cc A outer s H E) E := passes_call (takes_of rfl rfl rfl rfl) fun _ _ _ _ h => h
/-- n values are written, the others are the defaults ds -/
theorem binds_dfl {K : PySem.W.Frag} {fd : FuncData} {ps : List Str} {T : Addr} {o : Obj} {its : Array Value} {n j : Nat} {ds : List Value} (lT : K.lookup T = some o) (oT : o.data = .seq its j) (hn : n + ds.length = ps.length)
    (h : ∀ us : List Value, us.length = n → ∃ k, bindArgs fd ⟨us, []⟩ = seqItems? (.ref T) >>= k ∧ k (some its) = pure (ps.zip (us ++ ds))) : Binds K fd ps ds := fun s us X hl => by
  have l2 : us.length = n := by
    rw [List.length_append] at hl
    omega
  obtain ⟨k, e1, e2⟩ := h us l2
  refine BindsTo.of_looks fun M => ?_
  rw [e1]
  exact looks_items X lT oT (.of_pure e2)

/-! ### tables, from the text's facts -/
theorem md_mk {X : Cx} {m : Str} {k k' : Nat} {C f : Addr} {fd : FuncData} {ps : List Str} {sp : Sp} (c : Cls X.K C) (hm : Meth X.K C m f) (F : FnOk X.prog X.w X.K X.mg X.base (L2.CX X.prog X.w) k' f fd ps sp) (hk : k' ≤ k) (hb : Binds X.K fd ps []) : MD X m k (C, sp) :=
  ⟨f, fd, ps, c, hm, F.mono hk, hb⟩
theorem pd_mk {X : Cx} {m : Str} {k k' : Nat} {C f : Addr} {fd : FuncData} {ps : List Str} {sp : Sp} (c : Cls X.K C) (hp : ∃ pa, PropOf X.K C m pa f) (F : FnOk X.prog X.w X.K X.mg X.base (L2.CX X.prog X.w) k' f fd ps sp) (hk : k' ≤ k) (hb : Binds X.K fd ps []) : PD X m k (C, sp) := by
  obtain ⟨pa, hp⟩ := hp
  exact ⟨pa, f, fd, ps, c, hp, F.mono hk, hb⟩
theorem fd_mk {K : PySem.W.Frag} {f : Str} {C : Addr} (c : Cls K C) (n : NoAttr K C f) : FD K f C := ⟨c, n⟩
theorem cls_some {K : PySem.W.Frag} {C : Addr} (h : PySem.W.hasDictIn K C = true) : (PySem.W.clsIn K C).isSome = true := by
  obtain ⟨cd, hc, _⟩ := PySem.W.any_some h
  rw [hc]
  rfl
theorem funS_mk {P : Program} {K : PySem.W.Frag} {x qual : Str} {st : Stmt} {f D cc cda : Addr} {oc cl ccl dV kV doc pm ct : Value} {od cld cdd an : Option Addr} {osl csl ccs : Array (Option Value)} {vs : Array Value} {file : Str} {tf : Tok}
    (lk : K.lookup f = some ⟨oc, od, .func (ksFn x qual (defArgs st) (defBody st) (defScope st) dV kV doc pm an (.ref cda) ct cc), osl⟩) (hc : PySem.W.codeIn K (.ref cda) qual = true) (hcc : K.lookup cc = some ⟨cl, cld, .cell (some (.ref D)), csl⟩)
    (hcode : K.lookup cda = some ⟨ccl, cdd, .fields vs, ccs⟩) (hv : vs[2]? = some (.str file tf)) (hf : ((P.main.file : Str) == file) = true) (hd : PySem.W.hasDictIn K D = true) (kp : PySem.W.keepIn K (.ref f) = true) :
    FunS P K x qual st f (ksFn x qual (defArgs st) (defBody st) (defScope st) dV kV doc pm an (.ref cda) ct cc) D := by
  obtain ⟨cd, hcl⟩ := Option.isSome_iff_exists.mp (cls_some hd)
  exact ⟨⟨oc, cl, ccl, dV, kV, doc, pm, ct, od, cld, cdd, an, osl, csl, ccs, cda, cc, vs, file, tf, cd, rfl, lk, hc, hcc, hcode, hv, hf, hcl⟩, kp⟩

/-! ### o[i] += e -/
def rGetL : V → V → Hp → VK → Prop := fun x y H Q => ∃ p xs i v, x = .ref p ∧ y = .int i ∧ H p = some (.lst xs) ∧ atI xs i = some v ∧ Q v H
theorem get_listI {X : Cx} : PGet X rGetL := by
  intro pins s σ H x y v u Q I rx ry h
  obtain ⟨p, xs, i, z, rfl, rfl, hq, he, q⟩ := h
  cases rx
  obtain ⟨t, rfl⟩ := ry
  obtain ⟨its, r, pl, hz⟩ := I.list (sqL (S := SK X.K) rfl (.inl (.inl hq)))
  obtain ⟨j, h1, h2, h3, h4, h5⟩ := atI_get he
  obtain ⟨w, ew, rw'⟩ := r.get h2
  have hl := r.length
  have hn := line63
  have fin : EP X pins σ Q w s := ⟨z, H, I, rw', q⟩
  by_cases h0 : 0 ≤ i
  · have hj : i.toNat = j := by
      rw [seqIndex_of h0 h5] at h1
      exact Option.some.inj h1
    exact wpAny_getItem_list pl.isList h0 (by omega) (by rw [hj]; simpa using ew) fin
  · have hj : (i + (its.toArray.size : Int)).toNat = j := by
      rw [seqIndex_neg (by omega) h4] at h1
      rw [List.size_toArray, ← hl]
      exact Option.some.inj h1
    exact wpAny_getItem_list_neg pl.isList (by omega) (by rw [List.size_toArray] <;> omega) (by omega) (by rw [hj]; simpa using ew) fin
theorem ps_augSI {X : Cx} {o i e : Expr} {to ti te : TE} {tip : TIp} {op : Operator} {pos tpos : Pos} (ho : PE X o to) (hi : PE X i ti) (he : PE X e te) (hp : PIp X op tip)
    (ha : ∀ ov iv new, augStore i ov iv new = (do holding [new, ov, iv] (setItem ov iv new); release [new, ov, iv] []; pure .next) := by intros; rfl) : PS X (.AugAssign (.Subscript o i tpos) op e pos) (tAugS to ti te rGetL tip rSetL) := ps_augS ho hi get_listI he hp set_list ha
end Y

/-! enumerate over a list or a tuple; isinstance with a tuple of types; insert; messages that are f-strings. -/
namespace Y
open PySem PySem.Spec PyProof.Rows L2

section
open Builtin
theorem meets_enum1 {v : Value} {o : Obj} {H : Heap → Prop} (B : Begins v o H) :
    Meets (Builtin.«enumerate.__new__» ⟨[.type "enumerate", v], []⟩) (fun _ R s => H s.heap ∧
      R (.ok (.ret (.ref (s.heap.push o).objs.size))) { s with heap := (s.heap.push o).push { cls := .type "enumerate", data := .fields #[.none, .bool false, .ref s.heap.objs.size, rawInt 0, .none, .none] } }) :=
  .of_wp fun prog w A R s h => by
    obtain ⟨hp, g, d, tk, os⟩ := s
    obtain ⟨h1, h⟩ := h
    have hsub := sub_enumerate
    have q1 : ∀ {A' : Around} {E : Value → Shared → Prop} {Q : Value → Shared → Prop}, Q (.ref hp.objs.size) ⟨hp.push o, g, d, tk, os⟩ → wpAny (model prog w) A' (pyIter v) Q E ⟨hp, g, d, tk, os⟩ :=
      fun q => B.iter prog w _ _ ⟨hp, g, d, tk, os⟩ _ h1 q
    wp_walk using q1
    refine wpAny_stack_any fun st => wpAny_pure ?_
    split
    · rename_i c _ _ _ _ _
      cases (c == Value.type "enumerate")
      · wp_walk using q1
        exact ⟨_, rfl, h⟩
      · wp_walk using q1
        exact ⟨_, rfl, h⟩
    · wp_walk using q1
      exact ⟨_, rfl, h⟩
end
theorem enum1_begins {prog : Program} {w : World} {A : Around} {E : Value → Shared → Prop} {s : Shared} {v : Value} {o : Obj} {H : Heap → Prop} {Q : Value → Shared → Prop} (B : Begins v o H) (h1 : H s.heap)
    (h : ∀ h', IsEnum h' (s.heap.objs.size + 1) s.heap.objs.size 0 .none → h'.get? s.heap.objs.size = some o → h'.objs.size = s.heap.objs.size + 2 →
      (∀ b o, s.heap.get? b = some o → h'.get? b = some o) → Q (.ref (s.heap.objs.size + 1)) { s with heap := h' }) :
    wpAny (model prog w) A (call (.type "enumerate") [v]) Q E s := by
  refine callType_new F.called_enumerate (by decide) (F.typeCall_enumerate_1 _) (F.newCall_enumerate_1 _) (fun obj => F.args_object_init_2 obj _) F.entry_enumerate_new
    (meets_enum1 B) ⟨h1, ?_⟩
  have hz : (s.heap.push o).objs.size = s.heap.objs.size + 1 := Heap.size_push ..
  show _ ∧ _
  rw [hz]
  have he : IsEnum ((s.heap.push o).push { cls := .type "enumerate", data := .fields #[.none, .bool false, .ref s.heap.objs.size, rawInt 0, .none, .none] }) (s.heap.objs.size + 1) s.heap.objs.size 0 .none := by
    have := Heap.get?_push_size (s.heap.push o) (o := { cls := .type "enumerate", data := .fields #[.none, .bool false, .ref s.heap.objs.size, rawInt 0, .none, .none] }) rfl
    rw [hz] at this
    exact this
  exact ⟨⟨_, he, rfl⟩, h _ he (Heap.get?_push_of_some _ (Heap.get?_push_size _ B.free)) (by rw [Heap.size_push, hz]) fun b o x => Heap.get?_push_of_some _ (Heap.get?_push_of_some _ x)⟩
def IteT (K : PySem.W.Frag) (a : Addr) : It :=
  ⟨fun i H => ∃ (xs : List V) (x : V), SqT K H a xs ∧ xs[i]? = some x, fun i H v H' => ∃ T x, v = .ref T ∧ H T = none ∧ H' = upd H T (.tup [.int (i : Nat), x]) ∧ ∀ xs, SqT K H a xs → xs[i]? = some x, fun i H => ∃ xs : List V, SqT K H a xs ∧ xs.length = i⟩
theorem turn_enumT {P : Program} {w : World} {K : PySem.W.Frag} {elts : List Expr} {kk : Nat} {tpos : Pos} (a e it : Addr) :
    Turn P w K (.Tuple elts kk tpos) (IteT K a) [e, it] e (fun i h => (∃ old, IsEnum h e it ((i : Nat) : Int) old) ∧ h.IsTupleIter it a i ∧ e ≠ it ∧ a ≠ it ∧ e ≠ a) where
  mem := by simp
  obj := fun i h st b hb => by
    obtain ⟨⟨old, he⟩, ⟨o, ho, hc, hd⟩, _⟩ := st
    have e' : b = e ∨ b = it := by simpa using hb
    rcases e' with z | z
    · rw [z]; exact ⟨_, he, fun v q => nomatch q⟩
    · rw [z]; exact ⟨o, ho, fun v q => by rw [hd] at q; cases q⟩
  keep := fun i h h' st k => by
    obtain ⟨⟨old, he⟩, ⟨o, ho, hc, hd⟩, hne⟩ := st
    exact ⟨⟨old, k e (by simp) _ he⟩, ⟨o, k it (by simp) o ho, hc, hd⟩, hne⟩
  item := by
    intro X hP hw hK hc i pins s σ H E I hf st hg
    subst hP hw hK
    obtain ⟨⟨old, he⟩, hit, hne, hna, hea⟩ := st
    obtain ⟨xs, x, hq, hx⟩ := hg
    obtain ⟨its, rv, p, hz⟩ := I.tuple hq
    have hi : i < xs.length := (List.getElem?_eq_some_iff.mp hx).1
    have hl := rv.length
    have hel : e < s.heap.objs.size := Heap.lt_size he
    have hil : it < s.heap.objs.size := by obtain ⟨_, q, _⟩ := hit; exact Heap.lt_size q
    have D := Draws.tuple (prog := X.prog) (w := X.w) (A := X.A.in1) (I.ok.hd hc) it a hna its.toArray
    refine wpAny_pyNext_enum_itemD D he ⟨hit, p⟩ (by rw [List.size_toArray]; omega) hne (by simp [hne, hea]) fun u h' tk hu ho hst hT hsz hk => ?_
    have ru : RelV x u := by
      obtain ⟨u', hu', ru⟩ := rv.get hx
      have hu2 : its[i]? = some u := by simpa using hu
      rw [hu'] at hu2
      cases hu2
      exact ru
    refine ⟨_, rfl, wpAny_letOwnedTupleGo_enum (s := { s with heap := h', toks := tk + 1 }) ho fun h'' he' sb => ?_⟩
    have hT2 : h''.get? s.heap.objs.size = some { cls := .type "tuple", data := .seq #[.int i tk, u] } := (sb.2 _ (Nat.ne_of_gt hel)).trans hT
    have new : ObjOk X.prog X.w (upd H s.heap.objs.size (.tup [.int (i : Nat), x])) h'' s.heap.objs.size (.tup [.int (i : Nat), x]) :=
      ⟨by show 2 ≤ sizeLine; decide, [.int i tk, u], .cons ⟨_, rfl⟩ (.cons ru .nil), ⟨_, hT2, rfl, _, rfl⟩⟩
    have I1 : Inv X pins σ (upd H s.heap.objs.size (.tup [.int (i : Nat), x])) { s with heap := h'', toks := tk + 1 } :=
      I.turnedNew (ch := [e, it]) (fun b ob hb q => (sb.2 b (fun z => hb (by simp [z]))).trans (hk b ob (fun z => hb (by simp [z])) (fun z => hb (by simp [z])) q)) hf (Nat.le_refl _) new
    refine ⟨.ref s.heap.objs.size, _, I1, rfl, ⟨_, x, rfl, I.hok.fresh (Nat.le_refl _), rfl, fun ys hy => by rw [I.tuple_inj hy hq]; exact hx⟩, ⟨⟨u, ?_⟩, ?_, hne, hna, hea⟩, fun b hb => ?_⟩
    · have e1 : ((i + 1 : Nat) : Int) = (i : Int) + 1 := by omega
      rw [e1]; exact he'
    · obtain ⟨o, ho1, ho2, ho3⟩ := hst.1
      exact ⟨o, (sb.2 it (Ne.symm hne)).trans ho1, ho2, ho3⟩
    · have hb' : b < s.heap.objs.size := by
        have e' : b = e ∨ b = it := by simpa using hb
        rcases e' with z | z
        · rw [z]; exact hel
        · rw [z]; exact hil
      rw [upd_ne (Nat.ne_of_lt hb')]
      exact (hf b hb).1
  done := by
    intro X hP hw hK hc i pins s σ H E I hf st hg
    subst hP hw hK
    obtain ⟨⟨old, he⟩, hit, hne, hna, hea⟩ := st
    obtain ⟨xs, hq, hx⟩ := hg
    obtain ⟨its, rv, p, hz⟩ := I.tuple hq
    obtain ⟨f0, f1, f2, f3, f4, f5⟩ := hf it (by simp)
    have hl := rv.length
    have D := Draws.tuple (prog := X.prog) (w := X.w) (A := X.A.in1) (I.ok.hd hc) it a hna its.toArray
    have hn : its.toArray.size = i := by rw [List.size_toArray]; omega
    exact wpAny_pyNext_enum_endD D he (by rw [hn]; exact ⟨hit, p⟩) fun h' eb => ⟨rfl, I.turned (t' := s.toks) (fun b o hb q => eb b o hb q) f0 f1 f3 f4 f5⟩
  self := fun A i s Q E st h => let ⟨⟨_, he⟩, _⟩ := st; wpAny_pyIter_enum he h
/-- enumerate(e), e a list or a tuple -/
def iEn (K : PySem.W.Frag) (te : TE) : TI := fun σ H R => te σ H fun x H1 => ∃ a, x = .ref a ∧ (((∃ xs, SqL K H1 a xs) ∧ R (Ite K a) H1) ∨ ((∃ xs, SqT K H1 a xs) ∧ R (IteT K a) H1))
theorem pi_en {X : Cx} {e : Expr} {te : TE} {p pos tpos : Pos} {elts : List Expr} {kk : Nat} (hg : Gl X "enumerate") (hm : X.mg "enumerate" = none) (he : PE X e te) (hs : starEach [e] X.env = (false, eval e X.env) :: starEach [] X.env := by rfl) (hs2 : starEach [e] X.env = [(false, eval e X.env)] := by rfl) :
    PI X (.Tuple elts kk tpos) (.Call (.Name "enumerate" p) [e] [] pos) (iEn X.K te) := by
  refine ⟨fun pins s σ H R I h => ?_⟩
  refine Call_ (ld_blt I hg hm boot_enumerate (PyProof.Rows.callWith_type1 (thn ((pa_cons (pe_mo he) pa_nil hs).run pos pins s σ H (fun vs H1 => ∃ x, vs = [x] ∧ ∃ a, x = .ref a ∧ (((∃ xs, SqL X.K H1 a xs) ∧ R (Ite X.K a) H1) ∨ ((∃ xs, SqT X.K H1 a xs) ∧ R (IteT X.K a) H1))) I ⟨_, h, fun v H' q => ⟨v, rfl, q⟩⟩) fun us s1 ⟨vs, H1, I1, r1, q1⟩ => ?_) hs2 rfl))
  obtain ⟨x, rfl, a, rfl, q⟩ := q1
  cases r1 with
  | cons r rr =>
    cases rr
    cases r
    have fp : ∀ {b : Addr}, b ∈ [s1.heap.objs.size + 1, s1.heap.objs.size] → FpOk X pins H1 b := fun {b} hb => by
      have e' : b = s1.heap.objs.size + 1 ∨ b = s1.heap.objs.size := by simpa using hb
      have hle : s1.heap.objs.size ≤ b := by
        rcases e' with z | z
        · rw [z]; exact Nat.le_add_right _ _
        · rw [z]; exact Nat.le_refl _
      exact I1.fpOk hle (I1.hok.fresh hle)
    rcases q with ⟨⟨xs, hq⟩, q⟩ | ⟨⟨xs, hq⟩, q⟩
    · obtain ⟨its, rv, p', hz⟩ := I1.list hq
      refine call_enumerate_list p'.isList fun h' he hit hsz hk => wpAny_pyIter_enum he ?_
      have I2 : Inv X pins σ H1 { s1 with heap := h' } := I1.kept (t' := s1.toks) hk
      exact ⟨s1.heap.objs.size + 1, [s1.heap.objs.size + 1, s1.heap.objs.size], _, _, H1, rfl, I2, turn_enum a (s1.heap.objs.size + 1) s1.heap.objs.size, ⟨⟨.none, he⟩, hit, Nat.succ_ne_self _⟩, fun b hb => fp hb, q⟩
    · obtain ⟨its, rv, p', hz⟩ := I1.tuple hq
      have pT : s1.heap.IsTuple a its.toArray := p'
      have hal : a < s1.heap.objs.size := by obtain ⟨o, ho, _⟩ := pT; exact Heap.lt_size ho
      refine enum1_begins (begins_tuple a its.toArray) pT fun h' he hit hsz hk => wpAny_pyIter_enum he ?_
      have I2 : Inv X pins σ H1 { s1 with heap := h' } := I1.kept (t' := s1.toks) hk
      exact ⟨s1.heap.objs.size + 1, [s1.heap.objs.size + 1, s1.heap.objs.size], _, _, H1, rfl, I2, turn_enumT a (s1.heap.objs.size + 1) s1.heap.objs.size, ⟨⟨.none, he⟩, ⟨_, hit, rfl, rfl⟩, Nat.succ_ne_self _, Nat.ne_of_lt hal, Nat.ne_of_gt (Nat.lt_succ_of_lt hal)⟩, fun b hb => fp hb, q⟩
theorem walk_enumT {K : PySem.W.Frag} {a : Addr} {xs : List V} : Walk (IteT K a) xs.length (fun H => SqT K H a xs) (YPair (fun i => some (.int (i : Nat))) (fun i => xs[i]?)) := by
  refine ⟨fun i _ hi q => ⟨xs, xs[i], q, by simp [hi]⟩, fun _ q => ⟨xs, q, rfl⟩, fun i H v H' _ q y => ?_⟩
  obtain ⟨T, x, h1, h2, h3, h4⟩ := y
  exact ⟨T, .int (i : Nat), x, h1, h2, h3, rfl, h4 xs q⟩
/-- the turns of for i, x in enumerate(p); the pair itself is a new tuple -/
def EnS (S : Sta) (gi gj : TG) (s1 : TS) (nx : L2.St → Hp → Prop) (rt : VK) (x : V) (σ : L2.St) (H : Hp) : Prop := ∃ p xs, x = .ref p ∧ ∃ Pv : Nat → L2.St → Hp → Prop, Pv 0 σ H ∧ Stays S p xs (fun i H => ∃ σ, Pv i σ H) ∧
  (∀ (i : Nat) y σ H T, xs[i]? = some y → Pv i σ H → H T = none → gi (.int (i : Int)) σ (upd H T (.tup [.int (i : Int), y])) fun σ' H' => gj y σ' H' fun σ2 H2 => s1 ⟨Pv (i + 1), rt, nx, Pv (i + 1)⟩ σ2 H2) ∧ ∀ σ H, Pv xs.length σ H → nx σ H
def sForEn (S : Sta) (te : TE) (gi gj : TG) (tb : TS) : TS := fun D σ H => te σ H fun x H1 => EnS S gi gj tb D.nx D.rt x σ H1
theorem gpair {gj : TG} {z : V} {Q : L2.St → Hp → Prop} : (fun σ' H' => gCons gj gNil [z] σ' H' Q) = fun σ' H' => gj z σ' H' Q := by
  funext σ' H'
  have e : (fun σ2 H2 => gNil [] σ2 H2 Q) = Q := by
    funext σ2 H2
    exact propext ⟨And.right, fun h => ⟨rfl, h⟩⟩
  refine propext ⟨fun ⟨v, r, e1, h⟩ => ?_, fun h => ⟨z, [], rfl, ?_⟩⟩
  · cases e1
    rw [e] at h
    exact h
  · rw [e]
    exact h
theorem ps_forEn {X : Cx} {S : Sta} {e ea eb : Expr} {te : TE} {gi gj : TG} {tb : TS} {body : List Stmt} {pos p pos2 tpos : Pos} {kk : Nat} (st : S = SK X.K) (hp : PassesOwn (model X.prog X.w) X.A X.env X.xe) (hc : X.calm = true) (hgl : Gl X "enumerate") (hm : X.mg "enumerate" = none) (he : PE X e te)
    (hgi : PG X ea gi) (hgj : PG X eb gj) (hb : PSs X body tb) (hs : starEach [e] X.env = (false, eval e X.env) :: starEach [] X.env := by rfl) (hs2 : starEach [e] X.env = [(false, eval e X.env)] := by rfl)
    (hs' : ∀ x, foldedSetIterable (.Call (.Name "enumerate" p) [e] [] pos2) X.env x = pure x := by intro _; rfl)
    (h1 : (assignEach [ea, eb] X.env).map (·.2) = assign ea X.env :: (assignEach [eb] X.env).map (·.2) := by rfl) (h2 : (assignEach [eb] X.env).map (·.2) = assign eb X.env :: (assignEach [] X.env).map (·.2) := by rfl)
    (h3 : (assignEach [ea, eb] X.env).length = 2 := by rfl) (h4 : (assignEach [ea, eb] X.env).findIdx? (·.1) = none := by rfl) :
    PS X (.For (.Tuple [ea, eb] kk tpos) (.Call (.Name "enumerate" p) [e] [] pos2) body [] pos) (sForEn S te gi gj tb) :=
  ps_imp (ps_for hp hc (pi_en hgl hm (pe_mo he) hs hs2) (pg_tup hc (pgs_cons hgi (pgs_cons hgj pgs_nil h2) h1) h3 h4) hb hs') fun D σ H q => ⟨_, q, fun x H1 ⟨a, xs, e, Pv, h0, hst, ht, hd⟩ => by
    refine ⟨a, e, ?_⟩
    have tn : ∀ (i : Nat) x σ H H', i < xs.length → Pv i σ H → YPair (fun i => some (.int (i : Nat))) (fun i => xs[i]?) i H x H' → gTup X.K 2 (gCons gi (gCons gj gNil)) x σ H' fun σ2 H2 => tb { D with nx := Pv (i + 1), ct := Pv (i + 1), bk := D.nx } σ2 H2 := by
      rintro i x σ H H' hi p ⟨T, y, z, rfl, hT, rfl, h5, h6⟩
      have e5 : V.int (i : Nat) = y := by injection h5
      subst e5
      exact ⟨T, [.int (i : Nat), z], rfl, .inl (.inl upd_same), rfl, .int (i : Nat), [z], rfl, by
        have h := ht i z σ H T h6 p hT
        rw [← gpair] at h
        exact h⟩
    rcases hst with z | z
    · exact .inl ⟨⟨xs, sqL st (z 0 H1 (Nat.zero_le _) ⟨σ, h0⟩)⟩, for_it walk_enum Pv h0 (fun i σ H hi p => sqL st (z i H hi ⟨σ, p⟩)) tn hd⟩
    · exact .inr ⟨⟨xs, sqT st (z 0 H1 (Nat.zero_le _) ⟨σ, h0⟩)⟩, for_it walk_enumT Pv h0 (fun i σ H hi p => sqT st (z i H hi ⟨σ, p⟩)) tn hd⟩⟩
/-! ### isinstance(x, (T1, T2, ..)) of built-in types -/
inductive Tys : List V → List String → Prop
  | nil : Tys [] []
  | cons {n : String} {vs : List V} {ns : List String} (h : Tys vs ns) : Tys (.ty n :: vs) (n :: ns)
def rIsT : List V → Hp → VK → Prop := fun xs H Q => ∃ x p vs ns t, xs = [x, .ref p] ∧ H p = some (.tup vs) ∧ Tys vs ns ∧ TyN H x t ∧ (∀ n ∈ ns, kitB t n = some (isA t n)) ∧ Q (.bl (ns.any (isA t))) H
theorem Tys.cls : ∀ {vs : List V} {ns : List String}, Tys vs ns → Paired ClsV vs (ns.map Value.type)
  | _, _, .nil => .nil
  | _, _, .cons h => .cons (.ty _) h.cls
theorem kit_any {K : PySem.W.Frag} {t : String} : ∀ {ns : List String}, (∀ n ∈ ns, kitB t n = some (isA t n)) → PySem.W.kitAny K (.type t) (ns.map Value.type) = some (ns.any (isA t))
  | [], _ => rfl
  | n :: ns, h => by
    have h1 := kit_ty (K := K) (h n List.mem_cons_self)
    have h2 := kit_any (K := K) (ns := ns) fun m hm => h m (List.mem_cons_of_mem _ hm)
    refine kitAny_cons h1 (fun hb => ?_) fun hb => ?_
    · rw [h2, List.any_cons, hb, Bool.false_or]
    · rw [List.any_cons, hb, Bool.true_or]
theorem c_isT {X : Cx} : CallR X (.builtin "isinstance") rIsT := call_imp call_isiT fun xs H Q q => by
  obtain ⟨x, p, vs, ns, t, e, h, k, ty, ha, q⟩ := q
  exact ⟨x, p, vs, .type t, ns.map Value.type, ns.any (isA t), e, h, k.cls, ty.x, kit_any ha, q⟩

/-! ### xs.insert(i, y) -/
def rIns : V → List V → Hp → VK → Prop := fun x vs H Q => ∃ (l : Addr) (xs : List V) (i : Int) (y : V), x = .ref l ∧ vs = [.int i, y] ∧ H l = some (.lst xs) ∧ xs.length < sizeLine ∧ 0 ≤ i ∧ i < 2 ^ 63 ∧ Q .non (upd H l (.lst (xs.take i.toNat ++ [y] ++ xs.drop i.toNat)))
def eIns (te : TE) (ta : TA) : TE := fun σ H Q => te σ H fun x H1 => ∃ l, x = .ref l ∧ (∃ xs, H1 l = some (.lst xs)) ∧ ta σ H1 fun vs H2 => rIns x vs H2 Q
theorem pe_ins {X : Cx} {o e : Expr} {es : List Expr} {te : TE} {ta : TA} {apos cpos : Pos} (ho : PE X o te) (ha : PA X (e :: es) ta)
    (hbase : attributeBase o "insert" X.env (eval o X.env) = eval o X.env := by rfl)
    (hfew : ((backTo cpos (starEach (e :: es) X.env)).all (fun x => !x.1) && (backToKw cpos (keywordEach [] X.env)).all (fun x => x.1.isSome)
      && decide ((e :: es).length + ([] : List Keyword).length + (if ([] : List Keyword).isEmpty then 0 else 1) < 30)) = true := by rfl)
    (hline : (apos.endLine == cpos.line) = true := by rfl) (hs : starEach (e :: es) X.env = (false, eval e X.env) :: starEach es X.env := by rfl) (hplain : (backTo cpos (starEach es X.env)).any (·.1) = false := by rfl) :
    PE X (.Call (.Attribute o "insert" apos) (e :: es) [] cpos) (eIns te ta) :=
  pe_imp (pe_bm PySem.F.plainAttrs_list PySem.F.slot_list_insert PySem.F.type_list_insert mt_insert (pe_mo ho) ha hbase hfew hline hs hplain) fun σ H Q q =>
    ⟨_, q, fun x H1 ⟨l, e1, ⟨xs, hl⟩, q1⟩ => by subst e1; exact ⟨.inl ⟨rfl, _, .inl (.inl hl)⟩, q1⟩⟩

/-! ### messages: f-strings of texts and small numbers -/
def fmtOk : V → Prop
  | .int i => i.natAbs.log2 < 1920
  | .str y => y.length ≤ 100000
  | _ => False
def ShortE (t : TE) (σ : L2.St) (H : Hp) : Prop := ∀ Q : VK, (∀ y : Str, y.length ≤ 100000 → Q (.str y) H) → t σ H Q
theorem short_c {m : Str} {σ : L2.St} {H : Hp} (h : m.length ≤ 100000) : ShortE (tC (.str m)) σ H := fun Q k => k m h
theorem short_f {n : Nat} {v : V} {σ : L2.St} {H : Hp} (e : σ[n]? = some (some v)) (h : fmtOk v) : ShortE (tFmt (tVar n)) σ H := fun Q k => by
  refine ⟨v, e, ?_⟩
  cases v with
  | int i => exact .inr ⟨i, rfl, h, k _ (Nat.le_trans (int_text_len_1921 h) (by decide))⟩
  | str y => exact .inl ⟨y, rfl, by have h : y.length ≤ 100000 := h; rw [sizeLine_eq]; omega, k _ h⟩
  | _ => exact h.elim
theorem tjs_ok : ∀ {ts : List TE} {acc : Str} {σ : L2.St} {H : Hp} {Q : Str → Hp → Prop}, (∀ t ∈ ts, ShortE t σ H) → acc.length + 100000 * ts.length ≤ 16777216 → (∀ z, Q z H) → tJs ts acc σ H Q
  | [], acc, σ, H, Q, _, _, k => k acc
  | t :: ts, acc, σ, H, Q, h, hl, k => h t List.mem_cons_self _ fun y hy => by
    rw [List.length_cons] at hl
    have e : (acc ++ y).length = acc.length + y.length := Str.length_append ..
    exact ⟨y, rfl, by rw [e, sizeLine_eq]; omega, tjs_ok (fun t ht => h t (List.mem_cons_of_mem _ ht)) (by rw [e]; omega) k⟩
/-! ### errors whose message shows their field -/
def spExF (Cs : List Addr) (fs : List Str) : Sp := fun vs H Q E => (∀ y ∈ vs.tail, fmtOk y) ∧ spEx Cs fs vs H Q E
def tMkF (C : Addr) (fs : List Str) (ta : TA) : L2.St → Hp → XK → Prop := fun σ H Q => ta σ H fun vs H1 => (∀ y ∈ vs, fmtOk y) ∧ vs.length = fs.length ∧ ∀ d, H1 d = none → Q (.ref C) (some d) (upd H1 d (.xd (exFs fs vs)))
theorem mkF_of {C : Addr} {Cs : List Addr} {fs : List Str} {ta : TA} (hC : C ∈ Cs) (hl : fs.length ≤ 900) {σ : L2.St} {H : Hp} {Q : XK} (q : tMkF C fs ta σ H Q) : tMkO C (spExF Cs fs) [] (moA ta) σ H Q := by
  refine ⟨_, q, fun vs H1 ⟨g, e, h⟩ => ⟨by omega, fun a ha => ⟨by rw [List.append_nil]; exact g, a, C, vs, hC, by rw [List.append_nil], e, upd_same, fun d hd hne => ⟨rfl, d, exFs fs vs, upd_same, ?_, ?_, ?_⟩⟩⟩⟩
  · rw [upd_ne hne, upd_same]
  · rw [upd_ne hne] at hd
    exact hd
  · rw [upd_ne hne] at hd
    have e2 : upd (del (upd (upd (upd H1 a (exo a C none)) d (exd d (exFs fs vs))) a (exo a C (some d))) a) d (.xd (exFs fs vs)) = upd H1 d (.xd (exFs fs vs)) := by
      funext b
      by_cases hb : b = d
      · rw [hb, upd_same, upd_same]
      · rw [upd_ne hb, upd_ne hb]
        by_cases hba : b = a
        · rw [hba, del_same, ha]
        · rw [del_ne hba, upd_ne hba, upd_ne hb, upd_ne hba]
    rw [e2]
    exact h d hd
theorem pmk_exF {X : Cx} {CX : CXT} {x : Str} {C fI : Addr} {Cs : List Addr} {fs : List Str} {k : Nat} {fd : FuncData} {ps : List Str} {e : Expr} {es : List Expr} {ta : TA} {p pos : Pos} (T : OexC X.K C) (iC : PySem.W.findIn X.K (.ref C) "__init__" = some (some (.ref fI))) (tI : PySem.W.typeIn X.K (.ref fI) = some (.type "function"))
    (F1 : FnOk X.prog X.w X.K X.mg X.base CX k fI fd ps (spExF Cs fs)) (hC : C ∈ Cs) (hl : fs.length ≤ 900) (hr : Room (k + 1) X.A) (hb : Binds X.K fd ps []) (hx : Passes CX X (fun _ _ _ => False)) (hg : Gl X x) (hm : X.mg x = some (.ref C)) (ha : PA X (e :: es) ta)
    (hdb : (x == ("__debug__" : Str)) = false := by decide) (he : starEach (e :: es) X.env = (false, eval e X.env) :: starEach es X.env := by rfl) (hpl : (backTo pos (starEach es X.env)).any (·.1) = false := by rfl) :
    PMk X (.Call (.Name x p) (e :: es) [] pos) (tMkF C fs ta) :=
  pmk_imp (pmk_oex (dvs := []) (ds := []) T iC tI F1 hr hb .nil hx hg hm (pa_mo ha) hdb he hpl) fun _ _ _ q => mkF_of hC hl q
theorem exF {K : PySem.W.Frag} {Cs : List Addr} {D : Addr} {f : Str} {ts : List TE} (hl : ts.length ≤ 100) (hts : ∀ (a : V) (x : V) (H : Hp), fmtOk x → ∀ t ∈ ts, ShortE t [some a, some x] H) (h : ∀ C ∈ Cs, SupV K C D ∧ PySem.W.findIn K (.ref C) f = some none) {vs : List V} {H : Hp} {Q : VK} {E : XK} (q : spExF Cs [f] vs H Q E) {n x : Str} :
    tSeq (tDrop (tSupV K D (tCons (fun σ H Q => tJs ts Str.empty σ H fun out H1 => Q (.str out) H1) tNil))) (tOst K f (tVar 0) (tVar 1)) { nx := fun _ H' => Q .non H', rt := Q } (L2.start [n, x] vs) H := by
  obtain ⟨g, a, C, ys, hC, rfl, hl2, ea, q⟩ := q
  obtain ⟨V, na⟩ := h C hC
  cases ys with
  | nil => cases hl2
  | cons y ys =>
    cases ys with
    | cons _ _ => cases hl2
    | nil =>
      refine ⟨a, C, rfl, ea, V, ?_⟩
      refine tjs_ok (hts (.ref a) y H (g y List.mem_cons_self)) (by have : (Str.empty).length = 0 := rfl; omega) fun z => ?_
      exact ⟨by show 1 ≤ 1000; decide, ea, y, rfl, .ref a, rfl, a, C, rfl, V.ex, na, .inl ⟨ea, fun dx hd hne => q dx hd hne⟩⟩
theorem spExF_len {Cs : List Addr} {fs : List Str} (vs : List V) (H : Hp) (Q : VK) (E : XK) (q : spExF Cs fs vs H Q E) : vs.length = fs.length + 1 := spEx_len vs H Q E q.2
end Y

/-! isinstance of an instance; a class constant read at an instance; static tuples; keywords of a class; slices of texts; index. -/
namespace Y
open PySem PySem.Spec PyProof.Rows L2

/-! ### isinstance(o, D), o an instance of one of the table's classes -/
structure IsOb (K : PySem.W.Frag) (D : Addr) (p : Addr × Bool) : Prop where
  c : Cls K p.1
  ha : PySem.W.findIn K (.ref p.1) "__class__" = some (some (.builtin "object.__class__"))
  hn : PySem.W.specialIn K (.builtin "object.__class__") "__get__" = some (some (.builtin "getset_descriptor.__get__"))
  ht : PySem.W.takesIn K (.builtin "object.__class__") = some true
  hm : PySem.W.mroIn K p.1 (.type "object") = some true
  k : PySem.W.kitOne K (.ref p.1) (.ref D) = some p.2
def rIsO (D : Addr) (tbl : List (Addr × Bool)) : List V → Hp → VK → Prop := fun xs H Q => ∃ a C dx fs b, xs = [.ref a, .ref D] ∧ H a = some (.ins C dx fs) ∧ (C, b) ∈ tbl ∧ Q (.bl b) H
theorem c_isO {X : Cx} {D : Addr} {tbl : List (Addr × Bool)} (T : ∀ p ∈ tbl, IsOb X.K D p) : CallR X (.builtin "isinstance") (rIsO D tbl) := call_imp call_isi fun xs H Q q => by
  obtain ⟨a, C, dx, fs, b, e, h, hm, q⟩ := q
  have t := T _ hm
  exact ⟨.ref a, .ref D, .ref C, .ref D, b, e, .own D, .base (.ins h t.c t.ha t.hn t.ht t.hm), t.k, q⟩
/-! ### o.F, F a constant of o's class -/
structure ConD (K : PySem.W.Frag) (f : Str) (p : Addr × V) : Prop where
  c : Cls K p.1
  k : ∃ u, Con K p.1 f p.2 u
def eConD (l : List (Addr × V)) (f : Str) (te : TE) : TE := fun σ H Q => te σ H fun x H1 => ∃ a C dx fs v, x = .ref a ∧ H1 a = some (.ins C dx fs) ∧ (C, v) ∈ l ∧ fs.lookup f = none ∧ Q v H1
theorem pe_conD {X : Cx} {f : Str} {l : List (Addr × V)} {e : Expr} {te : TE} {pos : Pos} (T : ∀ p ∈ l, ConD X.K f p) (he : PE X e te) (hb : attributeBase e f X.env (eval e X.env) = eval e X.env := by rfl) : PE X (.Attribute e f pos) (eConD l f te) :=
  pe_imp (pe_con (pe_mo he) hb) fun σ H Q q => ⟨_, q, fun v H' ⟨a, C, dx, fs, w, e1, e2, hC, l, q⟩ => by
    obtain ⟨u, k⟩ := (T _ hC).k
    exact ⟨a, C, dx, fs, w, u, e1, e2, (T _ hC).c, k, l, q⟩⟩
theorem con_mk {K : PySem.W.Frag} {C : Addr} {f : Str} {v : V} {u : Value} (c : Cls K C) (h1 : PySem.W.findIn K (.ref C) f = some (some u)) (r : RelV v u) (h2 : PySem.W.specialIn K u "__get__" = some none) (h3 : PySem.W.copiedNames.contains f = false) : ConD K f (C, v) := ⟨c, u, h1, r, h2, h3⟩
/-! ### a module's tuple -/
theorem pe_stat {X : Cx} {x : Str} {g : Addr} {p2 : Pos} (hm : X.mg x = some (.ref g)) (hg : Gl X x) (hdb : (x == ("__debug__" : Str)) = false := by decide) : PE X (.Name x p2) (eCon (.ref g)) := pe_imp (pe_glob hg hm (v := .ref g) rfl hdb) fun _ _ _ q => q
def rIsS (S : Sta) : List V → Hp → VK → Prop := fun xs H Q => ∃ p ys n, xs = [.ref p, .ty n] ∧ S p (.tup ys) ∧ kitB "tuple" n = some (isA "tuple" n) ∧ Q (.bl (isA "tuple" n)) H
theorem c_isS {X : Cx} {S : Sta} (st : S = SK X.K) : CallR X (.builtin "isinstance") (rIsS S) := call_imp call_isi fun xs H Q q => by
  subst st
  obtain ⟨p, ys, n, e, ⟨o, its, m, h1, h2, _⟩, k, q⟩ := q
  exact ⟨.ref p, .ty n, .type "tuple", .type n, _, e, .ty n, .kTuple h1 h2, kit_ty k, q⟩
/-! ### slices of texts -/
theorem pe_slS {X : Cx} {e : Expr} {te : TE} {lo hi : Option Expr} {tl th : TO} {p2 pos : Pos} (he : PE X e te) (hl : PO X lo tl) (hu : PO X hi th) : PE X (.Subscript e (.Slice lo hi none p2) pos) (L2.tSl rSlS te tl th) := pe_slice sl_str he hl hu
/-! ### xs.index(y) -/
def rIdx : V → List V → Hp → VK → Prop := fun x vs H Q => ∃ (l : Addr) (xs : List V) (y : V) (j : Nat) (z : V), x = .ref l ∧ vs = [y] ∧ H l = some (.lst xs) ∧ flatV y = true ∧ xs.all flatV = true ∧ xs[j]? = some z ∧ eqV z y = true ∧
  (∀ (m : Nat) (z' : V), m < j → xs[m]? = some z' → eqV z' y = false) ∧ Q (.int (j : Nat)) H
def eIdx (te : TE) (ta : TA) : TE := fun σ H Q => te σ H fun x H1 => ∃ l, x = .ref l ∧ (∃ xs, H1 l = some (.lst xs)) ∧ ta σ H1 fun vs H2 => rIdx x vs H2 Q
theorem mt_idx {X : Cx} : MtR X "list.index" rIdx := fun pins s σ H x xs v us Q I rx rxs h => mt_index pins s σ H x xs v us Q I rx rxs (by
  obtain ⟨l, ys, y, j, z, e1, e2, h, a, b, c, d, f, q⟩ := h
  exact ⟨l, ys, y, j, z, e1, e2, sqL (S := SK X.K) rfl (.inl (.inl h)), a, b, c, d, f, q⟩)
theorem pe_idx {X : Cx} {o e : Expr} {es : List Expr} {te : TE} {ta : TA} {apos cpos : Pos} (ho : PE X o te) (ha : PA X (e :: es) ta)
    (hbase : attributeBase o "index" X.env (eval o X.env) = eval o X.env := by rfl)
    (hfew : ((backTo cpos (starEach (e :: es) X.env)).all (fun x => !x.1) && (backToKw cpos (keywordEach [] X.env)).all (fun x => x.1.isSome)
      && decide ((e :: es).length + ([] : List Keyword).length + (if ([] : List Keyword).isEmpty then 0 else 1) < 30)) = true := by rfl)
    (hline : (apos.endLine == cpos.line) = true := by rfl) (hs : starEach (e :: es) X.env = (false, eval e X.env) :: starEach es X.env := by rfl) (hplain : (backTo cpos (starEach es X.env)).any (·.1) = false := by rfl) :
    PE X (.Call (.Attribute o "index" apos) (e :: es) [] cpos) (eIdx te ta) :=
  pe_imp (pe_bm PySem.F.plainAttrs_list PySem.F.slot_list_index PySem.F.type_list_index mt_idx (pe_mo ho) ha hbase hfew hline hs hplain) fun σ H Q q =>
    ⟨_, q, fun x H1 ⟨l, e1, ⟨xs, hl⟩, q1⟩ => by subst e1; exact ⟨.inl ⟨rfl, _, .inl (.inl hl)⟩, q1⟩⟩
/-! ### C(e, .., k = v): the keywords fill the last parameters in their order -/
def tMakeKw (C : Addr) (n m : Nat) (sp : Sp) (E : XK) (t tk : TA) : TE := fun σ H Q => t σ H fun vs H1 => tk σ H1 fun zs H2 => vs.length = n ∧ zs.length = m ∧
  ∀ x dx, H2 x = none → H2 dx = none → dx ≠ x → sp (.ref x :: (vs ++ zs)) (upd (upd H2 dx (.own x)) x (.ins C dx [])) (fun v H3 => v = .non ∧ Q (.ref x) H3) E
/-- n values us by place and the values ws of the keywords ks, all parameters named -/
structure BindsK (K : PySem.W.Frag) (fd : FuncData) (ps : List Str) (n : Nat) (ks : List Str) : Prop where
  to : ∀ (s : Shared) (us ws : List Value), K.In s.heap → us.length = n → ws.length = ks.length → BindsTo s fd ⟨us, ks.zip ws⟩ (ps.zip (us ++ ws))
theorem BindsK.kbn {K : PySem.W.Frag} {fd : FuncData} {ps : List Str} {n : Nat} {ks : List Str} (h : BindsK K fd ps n ks) : KBn K fd ps n ks (fun us ws => us ++ ws) (fun vs zs => vs ++ zs) := ⟨h.to, fun r1 r2 => r1.append r2⟩
theorem bindsk_dfl {K : PySem.W.Frag} {fd : FuncData} {ps : List Str} {T : Addr} {o : Obj} {its : Array Value} {n j : Nat} {ks : List Str} (lT : K.lookup T = some o) (oT : o.data = .seq its j)
    (h : ∀ us ws : List Value, us.length = n → ws.length = ks.length → ∃ k, bindArgs fd ⟨us, ks.zip ws⟩ = seqItems? (.ref T) >>= k ∧ k (some its) = pure (ps.zip (us ++ ws))) : BindsK K fd ps n ks := ⟨fun s us ws X l1 l2 => by
  obtain ⟨k, e1, e2⟩ := h us ws l1 l2
  refine BindsTo.of_looks fun M => ?_
  rw [e1]
  exact looks_items X lT oT (.of_pure e2)⟩
theorem pe_makeKw {X : Cx} {CX : CXT} {k n m : Nat} {f C : Addr} {fd : FuncData} {ps ks : List Str} {sp : Sp} {E : XK} {x : Str} {p pos : Pos} {e : Expr} {es : List Expr} {kws : List Keyword} {t tk : TA}
    (M : Mk X.K C f) (F : FnOk X.prog X.w X.K X.mg X.base CX k f fd ps sp) (hr : Room (k + 1) X.A) (hg : Gl X x) (hm : X.mg x = some (.ref C)) (hb : BindsK X.K fd ps (n + 1) ks) (hx : Passes CX X E)
    (ha : PA X (e :: es) t) (hkw : PK X kws tk) (hml : ks.length = m := by rfl) (hall : (backToKw pos (keywordEach kws X.env)).all (·.1.isSome) = true := by rfl) (hks : (backToKw pos (keywordEach kws X.env)).filterMap (·.1) = ks := by rfl)
    (hdb : (x == ("__debug__" : Str)) = false := by decide) (he : starEach (e :: es) X.env = (false, eval e X.env) :: starEach es X.env := by rfl)
    (hpl : ((backTo pos (starEach (e :: es) X.env)).any (·.1) || (backToKw pos (keywordEach kws X.env)).any (·.1.isNone)) = false := by rfl) :
    PE X (.Call (.Name x p) (e :: es) kws pos) (tMakeKw C n m sp E t tk) := by
  subst hml
  exact pe_makeN M F hr hg hm hb.kbn hx ha hkw hall hks hdb he hpl
end Y

/-! repr of data: defs that promise only where no repr is under way (FnG). -/
namespace Y
open PySem PySem.Spec PyProof.Rows L2
/-- as FnOk, no text of a list or a tuple being under way -/
structure FnG (P : Program) (w : World) (K : PySem.W.Frag) (mg : Str → Option Value) (base : Heap) (CX : CXT) (k : Nat) (f : Addr) (fd : FuncData) (ps : List Str) (sp : Sp) : Prop where
  ln : ∀ vs H Q E, sp vs H Q E → vs.length = ps.length
  go : ∀ (A : Around) (fs : List Env) (s : Shared) (H : Hp) (ar : Args) (us : List Value) (vs : List V) (Q : VK) (E : XK), A.guards = some [] → Room k A → Env0 P w K mg base A fs s H → BindsTo s fd ar (ps.zip us) → Vals vs us → sp vs H Q E → codeAny (model P w) A (.call (.ref f) ar) (CR CX fs P w H s Q E) s
theorem FnG.of {P : Program} {w : World} {K : PySem.W.Frag} {mg : Str → Option Value} {base : Heap} {CX : CXT} {k : Nat} {f : Addr} {fd : FuncData} {ps : List Str} {sp : Sp} (F : FnOk P w K mg base CX k f fd ps sp) : FnG P w K mg base CX k f fd ps sp := ⟨F.len, fun A fs s H ar us vs Q E _ => F.run A fs s H ar us vs Q E⟩
theorem FnG.imp {P : Program} {w : World} {K : PySem.W.Frag} {mg : Str → Option Value} {base : Heap} {CX : CXT} {k : Nat} {f : Addr} {fd : FuncData} {ps : List Str} {sp sp' : Sp} (F : FnG P w K mg base CX k f fd ps sp) (h : ∀ vs H Q E, sp' vs H Q E → sp vs H Q E) : FnG P w K mg base CX k f fd ps sp' :=
  ⟨fun vs H Q E q => F.ln vs H Q E (h _ _ _ _ q), fun A fs s H ar us vs Q E g hr he hb hv hs => F.go A fs s H ar us vs Q E g hr he hb hv (h _ _ _ _ hs)⟩
section
variable {X : Cx} {CX : CXT} {k : Nat} {f : Addr} {fd : FuncData} {ps : List Str} {sp : Sp} {E : XK} {x : Str} {p pos : Pos} {e : Expr} {es : List Expr} {t : TA}
theorem run_g {pins : List (Addr × Obj)} {σ : L2.St} {H : Hp} {s : Shared} {Q : VK} {us : List Value} {vs : List V} (F : FnG X.prog X.w X.K X.mg X.base CX k f fd ps sp) (gd : X.A.guards = some []) (hr : Room k X.A) (hb : Binds X.K fd ps []) (hx : Passes CX X E) (J : Inv X pins σ H s) (rv : Vals vs us) (h : sp vs H Q E) :
    wpAny (model X.prog X.w) X.A (call (.ref f) us) (EP X pins σ Q) X.xe s := by
  have ll : (us ++ []).length = ps.length := by rw [List.append_nil, ← rv.length, F.ln _ _ _ _ h]
  have hb1 := hb s us J.kIn ll
  rw [List.append_nil] at hb1
  refine wpAny_call (codeAny_mono (F.go X.A X.stack s H ⟨us, []⟩ us vs Q E gd hr J.env0 hb1 rv h) ?_)
  intro r s' z
  match r, z with
  | .error e', z => exact hx pins σ H s e' s' J z
  | .ok (.ret u), z => exact J.after z
theorem pe_callG (F : FnG X.prog X.w X.K X.mg X.base CX k f fd ps sp) (gd : X.A.guards = some []) (hr : Room k X.A) (hg : Gl X x) (hm : X.mg x = some (.ref f)) (hk : PySem.W.keepIn X.K (.ref f) = true) (hb : Binds X.K fd ps []) (hx : Passes CX X E) (ha : PA X (e :: es) t)
    (hdb : (x == ("__debug__" : Str)) = false := by decide) (he : starEach (e :: es) X.env = (false, eval e X.env) :: starEach es X.env := by rfl) (hpl : (backTo pos (starEach es X.env)).any (·.1) = false := by rfl) : PE X (.Call (.Name x p) (e :: es) [] pos) (tCall sp [] E t) := by
  constructor
  intro pins s σ H Q J h
  refine wpAny_Call_Name_kw (ld_glob J hg hm (PySem.W.callWith_K (h₀ := X.base) J.ok.mod.kin hk (thn (ha.run pos pins s σ H _ J h) ?_) he hpl) hdb)
  rintro us s1 ⟨vs, H1, J1, rv, q⟩
  rw [List.append_nil] at q
  exact ⟨J1.kIn, run_g F gd hr hb hx J1 rv q⟩
theorem pe_callG0 (F : FnG X.prog X.w X.K X.mg X.base CX k f fd ps sp) (gd : X.A.guards = some []) (hr : Room k X.A) (hg : Gl X x) (hm : X.mg x = some (.ref f)) (hk : PySem.W.keepIn X.K (.ref f) = true) (hb : Binds X.K fd ps []) (hx : Passes CX X E) (hdb : (x == ("__debug__" : Str)) = false := by decide) : PE X (.Call (.Name x p) [] [] pos) (tCall sp [] E tNil) := by
  constructor
  intro pins s σ H Q J h
  exact wpAny_Call_Name_kw (ld_glob J hg hm (PySem.W.callWith_K0 J.kIn hk (run_g (us := []) (vs := []) F gd hr hb hx J .nil h)) hdb)
end
section
variable {CX : CXT} {P : Program} {w : World} {K : PySem.W.Frag} {mg : Str → Option Value} {base : Heap}
theorem fnG_of {k : Nat} {f : Addr} {x qual : Str} {st : Stmt} {fd : FuncData} {N ps : List Str} {sp : Sp} (F : Fun K x qual st f fd) (S : FnScope N ps (defScope st)) (len : ∀ vs H Q E, sp vs H Q E → vs.length = ps.length)
    (body : ∀ (cdv : Value) (A : Around) (fs : List Env) (s : Shared) (H : Hp) (vs : List V) (Q : VK) (E : XK), A.guards = some [] → Room k (A.deeper (envOfC qual (defScope st) s.heap.objs.size f cdv)) → sp vs H Q E →
      ∃ t, PSs (cxOf CX P w K mg base N qual (defScope st) f cdv A fs s H E) (defBody st) t ∧ t { nx := fun _ H' => Q .non H', rt := Q } (L2.start N vs) H) : FnG P w K mg base CX (k + 1) f fd ps sp := by
  obtain ⟨oc, od, kV, doc, pm, an, cdv, ct, osl, e, lk, hcd⟩ := F.ex
  subst e
  constructor
  · exact len
  · intro A fs s H ar us vs Q E gd hr e0 hb rv hsp
    have kX : K.In s.heap := e0.mod.kin.keeps fun b o z => (e0.bs b o z).1
    have nl : s.heap.NoLimit := e0.mod.nolimit.keeps fun b o z => (e0.bs b o z).1
    refine codeAny_call_function hr.depth (kX _ _ lk) rfl S.co S.gen rfl (PySem.W.codeRec_of kX hcd) (hb _ _ _ _ (wpAny_newFunctionEnv_cells S.kind ?_ ?_))
    · rintro ⟨n, v⟩ hy
      rcases S.par n (List.of_mem_zip hy).1 with z | z
      · exact Or.inl z
      · exact Or.inr ⟨z, PySem.W.cellsFrom_some _ _ _ (Or.inl z)⟩
    · intro env he s1 ic
      cases he
      refine ⟨nl.keeps ic.toInCall.keep, codeAny_func ?_⟩
      obtain ⟨t, ht, hq⟩ := body cdv A fs s H vs Q E gd (hr.deeper _) hsp
      have J : Inv (cxOf CX P w K mg base N qual (defScope st) f cdv A fs s H E) [] (L2.start N vs) H s1 := inv_start S hr.hd e0 (len _ _ _ _ hsp) rv ic
      refine wpAny_mono (ht.run [] s1 (L2.start N vs) H _ J hq) ?_ (fun _ _ z => z)
      intro fl s' hs
      match fl, hs with
      | .ret u, ⟨v, σ', H', J', r', q'⟩ => exact ⟨v, H', J'.os, J'.bare, J'.base, J'.hok, r', q'⟩
      | .next, ⟨σ', H', J', q'⟩ => exact ⟨V.non, H', J'.os, J'.bare, J'.base, J'.hok, rfl, q'⟩
      | .brk, ⟨_, _, _, q'⟩ => exact q'.elim
      | .cont, ⟨_, _, _, q'⟩ => exact q'.elim
end
theorem ok_bodyG {P : Program} {w : World} {K : PySem.W.Frag} {mg : Str → Option Value} {base : Heap} {x qual : Str} {st : Stmt} {f : Addr} {fd : FuncData} {N ps : List Str} {n m k : Nat} {t : XK → TS} (F : Fun K x qual st f fd) (S : FnScope N ps (defScope st)) (hn : N.length = n) (hm : ps.length = m)
    (h : ∀ (cdv : Value) (A : Around) (outer : List Env) (s : Shared) (H : Hp) (E : XK), A.guards = some [] → Room k (A.deeper (envOfC qual (defScope st) s.heap.objs.size f cdv)) → PSs (cxOf (L2.CX P w) P w K mg base N qual (defScope st) f cdv A outer s H E) (defBody st) (t E)) : FnG P w K mg base (L2.CX P w) (k + 1) f fd ps (spB n m t) := by
  subst hn hm
  exact fnG_of F S (fun vs H Q E q => q.1) fun cdv A fs s H vs Q E gd hr q => ⟨t E, h cdv A fs s H E gd hr, q.2⟩
/-! ### the head -/
theorem callG {P : Program} {w : World} {K : PySem.W.Frag} {mg mb : Str → Option Value} {CX : CXT} {k : Nat} {fa a : Addr} {fd : FuncData} {x : Str} {sp : Sp} {s1 : Shared} {vs : List Value} {ns : List Int} (kX : K.In s1.heap) (n1 : s1.heap.Ns mainGlobals mg) (n2 : s1.heap.Ns builtinsNs mb) (n3 : ∀ x : Str, x ≠ "__name__" → mb x = bootBuiltins x) (nl : s1.heap.NoLimit) (ng : s1.gens = #[])
    (ha : s1.heap.get? a = some { cls := .type "list", data := .seq vs.toArray }) (hi : IntsAre vs ns) (hl : ns.length ≤ sizeLine) (hr : Room k callerA) (F : ∀ base : Heap, K.In base → base.Ns mainGlobals mg → FnG P w K mg base CX k fa fd [x] sp) (hb : ∀ (s : Shared) (u : Value), BindsTo s fd ⟨[u], []⟩ [(x, u)])
    (hsp : ∀ H : Hp, Only H → SqL K H a (ns.map V.int) → sp [.ref a] H (fun v _ => v = .bl true) fun _ _ _ => False) (hC : ∀ H e s', CX [] H s1 (fun _ _ _ => False) e s' → False) :
    codeAny (model P w) callerA (.call (.ref fa) ⟨[.ref a], []⟩) (fun r s' => r = .ok (.ret (.bool true)) ∧ OldK s1.heap s'.heap ∧ s'.os = s1.os ∧ AllBare s'.gens) s1 := by
  have main : ∀ T : Hp, Only T → SqL K T a (ns.map V.int) → HOk P w T s1.heap → (∀ b, T b ≠ none → b = a ∧ K.lookup a = none) → codeAny (model P w) callerA (.call (.ref fa) ⟨[.ref a], []⟩) (fun r s' => r = .ok (.ret (.bool true)) ∧ OldK s1.heap s'.heap ∧ s'.os = s1.os ∧ AllBare s'.gens) s1 := by
    intro T hO hS ok hT
    have free : ∀ {b : Addr} {o : Obj}, s1.heap.get? b = some o → (b = a → False) → T b = none := fun {b o} e ne => Classical.byContradiction fun z => ne (hT b z).1
    have inK : K.In (hidT s1.heap T) := fun b o e => hidT_get (kX b o e) (Classical.byContradiction fun z => by
      obtain ⟨e1, e2⟩ := hT b z
      rw [e1, e2] at e
      cases e)
    have ns' : ∀ {b : Addr} {m : Str → Option Value}, s1.heap.Ns b m → (hidT s1.heap T).Ns b m := by
      rintro b m ⟨o, es, ep, e, d, r⟩
      refine ⟨o, es, ep, hidT_get e (free e ?_), d, r⟩
      rintro rfl
      rw [ha] at e
      cases e
      cases d
    have md : Mod K mg (hidT s1.heap T) := ⟨inK, ns' n1, ⟨mb, ns' n2, n3⟩, by obtain ⟨mc, h1, h2⟩ := nl; exact ⟨mc, ns' h1, h2⟩⟩
    have nomem : ∀ {b : Addr}, b ∈ ([] : List Addr) → False := fun z => by cases z
    refine codeAny_mono ((F _ inK (ns' n1)).go callerA [] s1 T ⟨[.ref a], []⟩ [.ref a] [.ref a] _ _ rfl hr ⟨rfl, md, fun b o e => of_hidT e, Nat.le_of_eq (hidT_size _ _), trivial, fun b z => (nomem z).elim, ok, .of_eq ng⟩ (hb s1 (.ref a)) (.cons rfl .nil) (hsp T hO hS)) ?_
    intro r s' z
    match r, z with
    | .error e, z => exact (hC T e s' z).elim
    | .ok (.ret u), ⟨v, T', os, br, un, ok', rv, q⟩ =>
      cases q
      obtain rfl : u = Value.bool true := rv
      refine ⟨rfl, OldK.of_keep fun b o e => ?_, os, br⟩
      cases hb : T b with
      | none => exact un.keep b o e hb (fun z => nomem z) (by simp)
      | some u =>
        rcases hO b with z | ⟨ob, xs, z⟩
        · rw [hb] at z; cases z
        · have e1 := (ok b _ z).1
          have e2 := (ok' b _ (un.frzs b ob _ z)).1
          rw [e] at e1
          cases e1
          exact e2
  have rv := vals_ints hi
  rcases hK : K.lookup a with _ | o
  · refine main (fun b => if b = a then some (.frz { cls := .type "list", data := .seq vs.toArray } (.lst (ns.map V.int))) else none) (fun b => ?_) (.inl (.inr ⟨_, if_pos rfl⟩)) ?_ (fun b z => ⟨Classical.byContradiction fun ne => z (if_neg ne), hK⟩)
    · by_cases e : b = a
      · exact .inr ⟨_, _, if_pos e⟩
      · exact .inl (if_neg e)
    · intro b u z
      by_cases e : b = a
      · subst e
        have z2 := (if_pos rfl).symm.trans z
        cases z2
        exact ⟨ha, by rw [List.length_map]; exact hl, vs, _, rv, ha⟩
      · have z2 := (if_neg e).symm.trans z
        cases z2
  · have e := kX a o hK
    rw [ha] at e
    cases e
    exact main (fun _ => none) (fun _ => .inl rfl) (.inr ⟨_, vs.toArray, _, hK, rfl, rfl, rfl, by rw [List.size_toArray, hi.length]; exact hl, by simpa using rv⟩) (fun b u z => by cases z) fun b z => (z rfl).elim
theorem walk_ofG {l : PySem.W.OpenLaw} {n k : Nat} {q : Program} {loose : List Str} {XP : (Str → Option Value) → Heap → Prop} {YP : World → Heap → Prop} {d : DefRec} {K : Params → PySem.W.Frag} {CX : World → CXT} {sp : World → Sp} {x : Str} (hn : l.most = some n) (hn2 : n ≤ sizeLine) (hdf : d.params.defaults = []) (hr : Room k callerA)
    (hY : ∀ (w : World) (h : Heap), YP w h → (K w.params).In h) (F : ∀ (w : World) (mg : Str → Option Value) (fa : Addr) (h : Heap), (K w.params).In h → h.Ns mainGlobals mg → mg d.name = some (.ref fa) → ∃ fd : FuncData, (∀ (s : Shared) (u : Value), BindsTo s fd ⟨[u], []⟩ [(x, u)]) ∧ ∀ base : Heap, (K w.params).In base → base.Ns mainGlobals mg → FnG l.prog w (K w.params) mg base (CX w) k fa fd [x] (sp w))
    (hsp : ∀ (w : World) (H : Hp) (a : Addr) (ns : List Int), ns.length ≤ n → Only H → SqL (K w.params) H a (ns.map V.int) → sp w [.ref a] H (fun v _ => v = .bl true) fun _ _ _ => False) (hC : ∀ (w : World) (H : Hp) (s : Shared) (e : Value) (s' : Shared), CX w [] H s (fun _ _ _ => False) e s' → False) :
    PySem.W.WalkO q loose XP YP l.row.toRowW d [] (fun f vs => PySem.call f vs) := Att.attach_call hn hdf fun w s0 s1 mg mb fa o pm cd doc a vs ns G Y ho hd hcd hmg hobj hints hlen hgen => by
  obtain ⟨fd, hb, hF⟩ := F w mg fa _ (hY w _ Y) G.T.g hmg
  exact callG (hY w _ Y) G.T.g G.T.b G.T.builtins G.T.nolimit hgen hobj hints (Nat.le_trans hlen hn2) hr hF hb (fun T hO hS => hsp w T a ns hlen hO hS) fun T e s' => hC w T s1 e s'
/-! ### repr -/
def rRepr (S : Sta) : List V → Hp → VK → Prop := fun xs H Q => ∃ v d, xs = [v] ∧ DpS S H v d ∧ d.showable = true ∧ d.hasDict = false ∧ d.depth ≤ 20 ∧ d.shown.length ≤ sizeLine ∧ Q (.str d.shown) H
theorem c_repr {X : Cx} {S : Sta} (st : S = SK X.K) (gd : X.A.guards = some []) (hu : X.A.units + 64 < cLine) : CallR X (.builtin "repr") (rRepr S) := by
  intro pins s σ H xs us Q J rv h
  obtain ⟨v, d, e, dp, h1, h2, h3, h4, q⟩ := h
  subst e
  have dp1 := dp.dp st
  match us, rv with
  | [u], .cons ru .nil =>
    cases v with
    | ref a =>
      cases ru
      obtain ⟨as, rd⟩ := Dp.reads J d _ _ dp1 rfl
      refine repr_of_reads' rd h1 (fun z => by rw [h2] at z; cases z) gd (by omega) (fun _ _ z => z) (fun h' u tk hk => ?_) h4
      exact ⟨.str d.shown, H, J.kept hk, ⟨u, rfl⟩, q⟩
    | non =>
      cases dp1
      cases ru
      exact PySem.P.repr_of_none ⟨.str _, H, J.tok _, ⟨_, rfl⟩, by simpa only [PyData.shown] using q⟩
    | bl b =>
      cases dp1
      cases ru
      exact PySem.P.repr_of_bool ⟨.str _, H, J.tok _, ⟨_, rfl⟩, by simpa only [PyData.shown] using q⟩
    | int i =>
      cases dp1
      obtain ⟨t, rfl⟩ := ru
      exact PySem.P.repr_of_int (by simpa only [PyData.showable, decide_eq_true_eq] using h1) ⟨.str _, H, J.tok _, ⟨_, rfl⟩, by simpa only [PyData.shown] using q⟩
    | str z =>
      cases dp1
      obtain ⟨t, rfl⟩ := ru
      exact PySem.P.repr_of_str ⟨.str _, H, J.tok _, ⟨_, rfl⟩, by simpa only [PyData.shown] using q⟩ (by simpa only [PyData.shown] using h4)
    | _ => cases dp1
end Y

/-! tuples as targets; slices and sums of tuples. -/
namespace Y
open PySem PySem.Spec PyProof.Rows L2
section
variable {X : Cx} {S : Sta}
/-- a, b, .. = v -/
def gTupS (S : Sta) (n : Nat) (t : TGs) : TG := fun v σ H Q => ∃ a xs, v = .ref a ∧ RdS S H a (.tup xs) ∧ xs.length = n ∧ t xs σ H Q
theorem pg_tupS {es : List Expr} {k n : Nat} {t : TGs} {pos : Pos} (st : S = SK X.K) (hc : X.calm = true) (h : PGs X es t) (hn : (assignEach es X.env).length = n := by rfl) (hs : (assignEach es X.env).findIdx? (·.1) = none := by rfl) : PG X (.Tuple es k pos) (gTupS S n t) :=
  ⟨fun pins s σ H v u Q I r ⟨a, xs, e, hq, hl, hw⟩ => (pg_tup hc h hn hs).run pins s σ H v u Q I r ⟨a, xs, e, sqT st hq, hl, hw⟩⟩
/-- t[lo:hi], t a tuple -/
def rTSl (S : Sta) : V → Option Int → Option Int → Hp → VK → Prop := fun x lo hi H Q => ∃ a xs, x = .ref a ∧ RdS S H a (.tup xs) ∧ (cutV xs lo hi = xs → Q (.ref a) H) ∧ ∀ p, H p = none → Q (.ref p) (upd H p (.tup (cutV xs lo hi)))
theorem o_tsl (st : S = SK X.K) : SlR X (rTSl S) := fun pins s σ H x v vl vu lo hi sl Q I rx hs pl pu ⟨a, xs, e, hx, q1, q2⟩ => sl_tupA pins s σ H x v vl vu lo hi sl Q I rx hs pl pu ⟨a, xs, e, sqT st hx, fun w => q1 (by
  unfold cutV
  rw [w.1, w.2, List.drop_zero, Nat.sub_zero, List.take_length]), fun _ => q2⟩
/-- t + u, both tuples -/
def rTAdd (S : Sta) : R2 := fun x y H Q => ∃ a b xs ys, x = .ref a ∧ y = .ref b ∧ RdS S H a (.tup xs) ∧ RdS S H b (.tup ys) ∧ xs.length + ys.length ≤ sizeLine ∧ (xs = [] → Q (.ref b) H) ∧ (ys = [] → Q (.ref a) H) ∧ ∀ p, H p = none → Q (.ref p) (upd H p (.tup (xs ++ ys)))
theorem o_tadd (st : S = SK X.K) : OpR X (binaryOp .Add) (rTAdd S) := op_imp op_catA fun x y H Q ⟨a, b, xs, ys, e1, e2, h1, h2, z, q0, q1, q2⟩ => ⟨a, b, xs, ys, e1, e2, sqT st h1, sqT st h2, z, q0, fun _ => q1, fun _ _ => q2⟩
end
end Y

/-! Symbolic execution of readings: what is known of a heap (FH), one rule a construct. -/
namespace Y
open PySem PySem.Spec PyProof.Rows L2

/-! ### what is known of a heap -/
/-- tuples stay -/
def Per (H H' : Hp) : Prop := ∀ t xs, H t = some (.tup xs) → H' t = some (.tup xs)
theorem Per.refl (H : Hp) : Per H H := fun _ _ h => h
theorem per_new {H : Hp} {p : Addr} {o : HO} (h : H p = none) : Per H (upd H p o) := fun t xs e => (upd_ne (ne_of_none e h)).trans e
def NoTup : HO → Prop
  | .tup _ => False
  | _ => True
theorem per_put {H : Hp} {p : Addr} {o o' : HO} (h : H p = some o) (n : NoTup o) : Per H (upd H p o') := fun t xs e => by
  refine (upd_ne ?_).trans e
  intro z
  subst z
  rw [h] at e
  cases e
  exact n
/-- a statement of the object at an address and of the objects that it owns -/
structure Pr where
  s : Addr → Hp → List Addr → Prop
  loc : ∀ {p H H' ks}, s p H ks → (∀ a ∈ ks, H' a = H a) → Per H H' → s p H' ks
  liv : ∀ {p H ks}, s p H ks → ∀ a ∈ ks, H a ≠ none
  key : ∀ {p H ks}, s p H ks → p ∈ ks
abbrev Ent := Addr × Pr
inductive FHs (H : Hp) : List Ent → List Addr → Prop
  | nil : FHs H [] []
  | cons {p φ k L ks} (h : φ.s p H k) (r : FHs H L ks) (nd : k.Nodup) (dj : ∀ a ∈ k, a ∉ ks) : FHs H ((p, φ) :: L) (k ++ ks)
class FH (H : Hp) (L : outParam (List Ent)) : Prop where
  ex : ∃ ks, FHs H L ks
/-- of the object alone -/
def lift (φ : HO → Prop) : Pr where
  s := fun p H ks => ks = [p] ∧ ∃ o, H p = some o ∧ φ o
  loc := fun {p H H' ks} ⟨e, o, h, hφ⟩ k _ => ⟨e, o, (k p (by rw [e]; exact List.mem_cons_self)).trans h, hφ⟩
  liv := fun {p H ks} ⟨e, o, h, _⟩ a m => by
    rw [e] at m
    have e2 : a = p := by simpa using m
    rw [e2, h]
    simp
  key := fun {p H ks} ⟨e, _⟩ => by rw [e]; exact List.mem_cons_self
def Is (o : HO) : Pr := lift fun x => x = o
/-- a list that is read: tracked or locked -/
def IsR (xs : List V) : Pr := lift fun x => x = .lst xs ∨ ∃ o, x = .frz o (.lst xs)
inductive Put (p : Addr) (φ φ' : Pr) : List Ent → List Ent → Prop where
  | here {L} : Put p φ φ' ((p, φ) :: L) ((p, φ') :: L)
  | there {q L L'} (h : Put p φ φ' L L') : Put p φ φ' (q :: L) (q :: L')
section
variable {H H' : Hp} {L L' R : List Ent} {p q : Addr} {o o' : HO} {φ φ' : Pr} {xs : List V} {ks : List Addr} {x y : Ent}
theorem FHs.liv (F : FHs H L ks) : ∀ a ∈ ks, H a ≠ none := by
  induction F with
  | nil => intro a m; cases m
  | cons h r nd dj ih => exact fun a m => (List.mem_append.mp m).elim (Pr.liv _ h a) (ih a)
theorem FHs.keep (F : FHs H L ks) (k : ∀ a ∈ ks, H' a = H a) (e : Per H H') : FHs H' L ks := by
  induction F with
  | nil => exact .nil
  | cons h r nd dj ih => exact .cons (Pr.loc _ h (fun a m => k a (List.mem_append_left _ m)) e) (ih fun a m => k a (List.mem_append_right _ m)) nd dj
theorem FHs.nodup (F : FHs H L ks) : ks.Nodup := by
  induction F with
  | nil => exact List.nodup_nil
  | cons h r nd dj ih => exact List.nodup_append.mpr ⟨nd, ih, fun a m b m' e => dj a m (e ▸ m')⟩
theorem FHs.mem (F : FHs H L ks) (m : (p, φ) ∈ L) : ∃ k, φ.s p H k ∧ ∀ a ∈ k, a ∈ ks := by
  induction F with
  | nil => cases m
  | cons h r nd dj ih =>
    rcases List.mem_cons.mp m with e | m
    · cases e
      exact ⟨_, h, fun a m => List.mem_append_left _ m⟩
    · obtain ⟨k, h1, h2⟩ := ih m
      exact ⟨k, h1, fun a m => List.mem_append_right _ (h2 a m)⟩
theorem FHs.perm (F : FHs H L ks) (e : L.Perm L') : ∃ ks', FHs H L' ks' ∧ ks.Perm ks' := by
  induction e generalizing ks with
  | nil => exact ⟨_, F, List.Perm.refl _⟩
  | cons x _ ih =>
    cases F with
    | cons h r nd dj =>
      obtain ⟨ks', r', e'⟩ := ih r
      exact ⟨_, .cons h r' nd (fun a m m' => dj a m (e'.mem_iff.mpr m')), e'.append_left _⟩
  | swap x y l =>
    cases F with
    | cons h r nd dj =>
      cases r with
      | @cons p2 φ2 k2 L2 ks2 h2 r2 nd2 dj2 =>
        rename_i k1
        refine ⟨_, .cons h2 (.cons h r2 nd fun a m m' => dj a m (List.mem_append_right _ m')) nd2 fun a m m' => ?_, ?_⟩
        · rcases List.mem_append.mp m' with m' | m'
          · exact dj a m' (List.mem_append_left _ m)
          · exact dj2 a m m'
        · rw [← List.append_assoc, ← List.append_assoc]
          exact List.perm_append_comm.append_right _
  | trans _ _ ih1 ih2 =>
    obtain ⟨k1, F1, e1⟩ := ih1 F
    obtain ⟨k2, F2, e2⟩ := ih2 F1
    exact ⟨k2, F2, e1.trans e2⟩
theorem FHs.app {A B : List Ent} : ∀ {ks : List Addr}, FHs H (A ++ B) ks → ∃ k1 k2, FHs H A k1 ∧ FHs H B k2 ∧ ks = k1 ++ k2 := by
  induction A with
  | nil => exact fun {ks} F => ⟨[], ks, .nil, F, rfl⟩
  | cons x A ih =>
    intro ks F
    cases F with
    | cons h r nd dj =>
      obtain ⟨k1, k2, F1, F2, e⟩ := ih r
      subst e
      exact ⟨_, k2, .cons h F1 nd (fun a m m' => dj a m (List.mem_append_left _ m')), F2, (List.append_assoc _ _ _).symm⟩
theorem FHs.join {A B : List Ent} {k1 k2 : List Addr} (F1 : FHs H A k1) (F2 : FHs H B k2) (dj : ∀ a ∈ k1, a ∉ k2) : FHs H (A ++ B) (k1 ++ k2) := by
  induction F1 with
  | nil => exact F2
  | cons h r nd dj' ih =>
    rw [List.append_assoc]
    refine .cons h (ih fun a m => dj a (List.mem_append_right _ m)) nd fun a m m' => ?_
    rcases List.mem_append.mp m' with m' | m'
    · exact dj' a m m'
    · exact dj a (List.mem_append_left _ m) m'
theorem FHs.sub (F : FHs H L ks) (s : L'.Sublist L) : ∃ ks', FHs H L' ks' ∧ ks'.Sublist ks := by
  induction s generalizing ks with
  | slnil => exact ⟨_, F, List.Sublist.refl _⟩
  | cons x _ ih =>
    cases F with
    | cons h r nd dj =>
      obtain ⟨ks', r', e'⟩ := ih r
      exact ⟨ks', r', e'.trans (List.sublist_append_right _ _)⟩
  | cons_cons x _ ih =>
    cases F with
    | cons h r nd dj =>
      obtain ⟨ks', r', e'⟩ := ih r
      exact ⟨_, .cons h r' nd (fun a m m' => dj a m (e'.subset m')), (List.Sublist.refl _).append e'⟩
theorem FH.is (F : FH H L) {φ : HO → Prop} (m : (p, lift φ) ∈ L) : ∃ o, H p = some o ∧ φ o := by
  obtain ⟨ks, F⟩ := F.ex
  obtain ⟨k, ⟨_, h⟩, _⟩ := F.mem m
  exact h
theorem FH.get (F : FH H L) (m : (p, Is o) ∈ L) : H p = some o := by
  obtain ⟨o', h, e⟩ := F.is m
  exact h.trans (congrArg some e)
theorem FH.getR (F : FH H L) (m : (p, IsR xs) ∈ L) : Rd H p (.lst xs) := by
  obtain ⟨o', h, e | ⟨o, e⟩⟩ := F.is m
  · subst e; exact .inl h
  · subst e; exact .inr ⟨o, h⟩
theorem RdS.of {S : Sta} {u : HO} (h : Rd H p u) : RdS S H p u := .inl h
theorem FHs.other (F : FHs H L ks) (h : H p = none) : FHs (upd H p o) L ks := F.keep (fun a m => upd_ne fun e => F.liv a m (by rw [e]; exact h)) (per_new h)
theorem FH.other (F : FH H L) (h : H p = none) : FH (upd H p o) L := by
  obtain ⟨ks, F⟩ := F.ex
  exact ⟨ks, F.other h⟩
theorem FH.new (F : FH H L) (h : H p = none) : FH (upd H p o) ((p, Is o) :: L) := by
  obtain ⟨ks, F⟩ := F.ex
  refine ⟨[p] ++ ks, .cons ⟨rfl, o, upd_same, rfl⟩ (F.other h) (by simp) fun a m m' => ?_⟩
  have e : a = p := by simpa using m
  exact F.liv a m' (by rw [e]; exact h)
theorem Put.mem (m : Put p φ φ' L L') : (p, φ) ∈ L := by
  induction m with
  | here => exact List.mem_cons_self
  | there _ ih => exact List.mem_cons_of_mem _ ih
theorem Put.perm (m : Put p φ φ' L L') : ∃ R, L.Perm ((p, φ) :: R) ∧ L'.Perm ((p, φ') :: R) := by
  induction m with
  | @here L => exact ⟨L, List.Perm.refl _, List.Perm.refl _⟩
  | @there q _ _ _ ih =>
    obtain ⟨R, h1, h2⟩ := ih
    exact ⟨q :: R, (h1.cons _).trans (List.Perm.swap _ _ _), (h2.cons _).trans (List.Perm.swap _ _ _)⟩
theorem FHs.put (F : FHs H L ks) (m : Put p (Is o) (Is o') L L') (n : NoTup o) (h : H p = some o) : FHs (upd H p o') L' ks := by
  induction m generalizing ks with
  | here =>
    cases F with
    | cons h' r nd dj =>
      obtain ⟨e, _⟩ := h'
      subst e
      exact .cons ⟨rfl, o', upd_same, rfl⟩ (r.keep (fun a m => upd_ne fun e => dj a (by rw [e]; exact List.mem_cons_self) m) (per_put h n)) nd dj
  | there m ih =>
    cases F with
    | @cons p1 φ1 k1 L1 ks1 h' r nd dj =>
      have hp : p ∈ ks1 := by
        obtain ⟨k, hk, hs⟩ := r.mem m.mem
        exact hs p (Pr.key _ hk)
      exact .cons (Pr.loc _ h' (fun a m => upd_ne fun e => dj a m (by rw [e]; exact hp)) (per_put h n)) (ih r) nd dj
theorem FH.put (F : FH H L) (m : Put p (Is o) (Is o') L L') (n : NoTup o) : FH (upd H p o') L' := by
  have h := F.get m.mem
  obtain ⟨ks, F⟩ := F.ex
  exact ⟨ks, F.put m n h⟩
theorem FHs.weak (F : FHs H L ks) (m : Put p φ φ' L L') (i : ∀ k, φ.s p H k → φ'.s p H k) : FHs H L' ks := by
  induction m generalizing ks with
  | here =>
    cases F with
    | cons h' r nd dj => exact .cons (i _ h') r nd dj
  | there m ih =>
    cases F with
    | cons h' r nd dj => exact .cons h' (ih r) nd dj
/-- an entry says something else -/
theorem FH.weak (F : FH H L) (m : Put p φ φ' L L') (i : ∀ k, φ.s p H k → φ'.s p H k) : FH H L' := by
  obtain ⟨ks, F⟩ := F.ex
  exact ⟨ks, F.weak m i⟩
theorem FH.open_ {φ : HO → Prop} (F : FH H L) (m : (p, lift φ) ∈ L) : ∃ o, φ o ∧ ∀ L', Put p (lift φ) (Is o) L L' → FH H L' := by
  obtain ⟨o, h, hφ⟩ := F.is m
  exact ⟨o, hφ, fun L' pu => F.weak pu fun k ⟨e, _⟩ => ⟨e, o, h, rfl⟩⟩
theorem FH.close {φ : HO → Prop} (F : FH H L) (hφ : φ o) (pu : Put p (Is o) (lift φ) L L') : FH H L' := F.weak pu fun k ⟨e, o', h, e'⟩ => ⟨e, o', h, by rw [e']; exact hφ⟩
theorem FH.sub (F : FH H L) (s : L'.Sublist L) : FH H L' := by
  obtain ⟨ks, F⟩ := F.ex
  obtain ⟨ks', F', _⟩ := F.sub s
  exact ⟨ks', F'⟩
theorem FH.tail (F : FH H (x :: L)) : FH H L := F.sub (List.sublist_cons_self _ _)
theorem FH.one {x : Ent} (F : FH H L) (m : x ∈ L) : FH H [x] := F.sub (List.singleton_sublist.mpr m)
theorem FH.perm (F : FH H L) (e : L.Perm L') : FH H L' := by
  obtain ⟨ks, F⟩ := F.ex
  obtain ⟨ks', F', _⟩ := F.perm e
  exact ⟨ks', F'⟩
theorem FH.nil : FH H [] := ⟨[], .nil⟩
/-- an entry to the front -/
theorem pull (m : x ∈ L) : ∃ R, L.Perm (x :: R) := by
  obtain ⟨s, t, e⟩ := List.append_of_mem m
  subst e
  exact ⟨s ++ t, List.perm_middle⟩
theorem pull2 (m : x ∈ L) (m' : y ∈ L) (ne : x.1 ≠ y.1) : ∃ R, L.Perm (x :: y :: R) := by
  obtain ⟨R, h⟩ := pull m
  have m2 := h.mem_iff.mp m'
  rcases List.mem_cons.mp m2 with e | m2
  · exact absurd (congrArg Prod.fst e).symm ne
  · obtain ⟨R', h'⟩ := pull m2
    exact ⟨R', h.trans (h'.cons _)⟩
theorem FH.diff {φ ψ : HO → Prop} (F : FH H L) (m : (p, lift φ) ∈ L) (m' : (q, lift ψ) ∈ L) (h : ∀ o, φ o → ψ o → False) : p ≠ q := by
  intro e
  subst e
  obtain ⟨o, h1, ho⟩ := F.is m
  obtain ⟨o', h2, ho'⟩ := F.is m'
  rw [h1] at h2
  cases h2
  exact h o ho ho'
/-! a thing of several objects -/
def comp {α : Type} (E : Addr → α → List Ent) (P : α → Prop) : Pr where
  s := fun p H ks => p ∈ ks ∧ ∃ a, P a ∧ FHs H (E p a) ks
  loc := fun {p H H' ks} ⟨m, a, h, F⟩ k e => ⟨m, a, h, F.keep k e⟩
  liv := fun {p H ks} ⟨m, a, h, F⟩ => F.liv
  key := fun {p H ks} ⟨m, _⟩ => m
theorem FH.unfold {α : Type} {E : Addr → α → List Ent} {P : α → Prop} (F : FH H ((p, comp E P) :: L)) : ∃ a, P a ∧ FH H (E p a ++ L) := by
  obtain ⟨ks, F⟩ := F.ex
  cases F with
  | cons h r nd dj =>
    obtain ⟨m, a, hp, F'⟩ := h
    exact ⟨a, hp, _, F'.join r dj⟩
theorem FH.fold {α : Type} {E : Addr → α → List Ent} {P : α → Prop} (a : α) (hp : P a) (F : FH H (E p a ++ L)) (m : p ∈ (E p a).map (·.1)) : FH H ((p, comp E P) :: L) := by
  obtain ⟨ks, F⟩ := F.ex
  obtain ⟨k1, k2, F1, F2, e⟩ := F.app
  subst e
  have nd := List.nodup_append.mp (F1.join F2 (fun a m m' => (List.nodup_append.mp F.nodup).2.2 a m a m' rfl)).nodup
  obtain ⟨x, hx, ex⟩ := List.mem_map.mp m
  obtain ⟨k, hk, hs⟩ := F1.mem (p := x.1) (φ := x.2) hx
  exact ⟨k1 ++ k2, .cons ⟨by rw [← ex]; exact hs _ (Pr.key _ hk), a, hp, F1⟩ F2 nd.1 fun a m m' => nd.2.2 a m a m' rfl⟩
end
/-- x is taken out of L -/
inductive Take (x : Ent) : List Ent → List Ent → Prop where
  | here {L} : Take x (x :: L) L
  | there {y L L'} (h : Take x L L') : Take x (y :: L) (y :: L')
/-- some of L, in any order -/
inductive Sel : List Ent → List Ent → Prop where
  | nil {L} : Sel [] L
  | all {L} : Sel L L
  | cons {x R L L'} (h : Take x L L') (s : Sel R L') : Sel (x :: R) L
  | drop {x R L} (s : Sel R L) : Sel R (x :: L)
theorem Take.perm {x : Ent} {L L' : List Ent} (h : Take x L L') : L.Perm (x :: L') := by
  induction h with
  | here => exact List.Perm.refl _
  | there _ ih => exact (ih.cons _).trans (List.Perm.swap _ _ _)
theorem Sel.ok {R L : List Ent} (s : Sel R L) : ∃ M, L.Perm (R ++ M) := by
  induction s with
  | nil => exact ⟨_, List.Perm.refl _⟩
  | all => exact ⟨[], by rw [List.append_nil]⟩
  | cons h _ ih =>
    obtain ⟨M, e⟩ := ih
    exact ⟨M, h.perm.trans (e.cons _)⟩
  | @drop x _ _ _ ih =>
    obtain ⟨M, e⟩ := ih
    exact ⟨x :: M, (e.cons x).trans List.perm_middle.symm⟩
theorem FH.sel {H : Hp} {L R : List Ent} (F : FH H L) (s : Sel R L) : FH H R := by
  obtain ⟨M, e⟩ := s.ok
  exact (F.perm e).sub (List.sublist_append_left _ _)

/-! ### one rule a construct -/
abbrev K0 := L2.St → Hp → Prop
section
variable {σ : L2.St} {H H' : Hp} {Q : VK} {QB : Bool → Hp → Prop} {QL : List V → Hp → Prop} {QO : Option Int → Hp → Prop} {QS : L2.St → Hp → Prop} {te ta tb tc : TE} {t u : TT} {tl : TA} {r r' : R2} {rc : List V → Hp → VK → Prop} {s1 s2 : TS} {nx bk ct : K0} {rt : VK} {v x y : V} {g : TG} {i j : Int} {b : Bool} {E : XK} {sp : Sp} {C : Addr} {P : Prop} [Decidable P] {A B : Prop} {S : Sta}
theorem is_var {n : Nat} (h : tVar n σ H Q) : tVar n σ H Q := h
theorem is_g {n : Nat} (h : gName n v σ H QS) : gName n v σ H QS := h
theorem is_au {n : Nat} {te : TE} {ti : TIp} {D : Ends} (h : tAug n te ti D σ H) : tAug n te ti D σ H := h
theorem is_ml {n : Nat} {D : List V} (h : eMakeL n C sp D E tl σ H Q) : eMakeL n C sp D E tl σ H Q := h
theorem is_isi {l : List V} (h : rIsI l H Q) : rIsI l H Q := h
theorem is_pow (h : rPow x y H Q) : rPow x y H Q := h
theorem is_ix (h : rIx S x y H Q) : rIx S x y H Q := h
theorem is_len {l : List V} (h : rLen S l H Q) : rLen S l H Q := h
theorem is_sl {x : V} {lo hi : Option Int} (h : rSl S x lo hi H Q) : rSl S x lo hi H Q := h
theorem is_eq (h : rEq x y H Q) : rEq x y H Q := h
theorem is_ne (h : rNe x y H Q) : rNe x y H Q := h
theorem is_is (h : rIs x y H Q) : rIs x y H Q := h
theorem is_isn (h : rIsNot x y H Q) : rIsNot x y H Q := h
theorem x_c (h : Q v H) : tC v σ H Q := h
theorem x_con (h : Q v H) : eCon v σ H Q := h
theorem x_op (h : ta σ H fun x H1 => tb σ H1 fun y H2 => r x y H2 Q) : tOp r ta tb σ H Q := h
theorem x_un {ru : V → Hp → VK → Prop} (h : ta σ H fun x H1 => ru x H1 Q) : tUn ru ta σ H Q := h
theorem x_add (h : Q (.int (i + j)) H) : rAdd (.int i) (.int j) H Q := .inl ⟨i, j, rfl, rfl, h⟩
theorem x_sub (h : Q (.int (i - j)) H) : rSub (.int i) (.int j) H Q := ⟨i, j, rfl, rfl, h⟩
theorem x_mul (c : CMul i j) (h : Q (.int (i * j)) H) : rMul (.int i) (.int j) H Q := ⟨i, j, rfl, rfl, c, h⟩
theorem x_fdiv (c : CDivW i j) (h : Q (.int (i / j)) H) : rFdiv (.int i) (.int j) H Q := ⟨i, j, rfl, rfl, c, h⟩
theorem x_mod (c : 0 < j) (h : Q (.int (i % j)) H) : rMod (.int i) (.int j) H Q := ⟨i, j, rfl, rfl, c, h⟩
theorem x_pow (c : CPow i j) (h : Q (.int (i ^ j.toNat)) H) : rPow (.int i) (.int j) H Q := ⟨i, j, rfl, rfl, c, h⟩
theorem x_shl (c : CPow i j) (h : Q (.int (i * 2 ^ j.toNat)) H) : rShl (.int i) (.int j) H Q := ⟨i, j, rfl, rfl, c, h⟩
theorem x_band (h : Q (.int (Builtin.bitAnd i j)) H) : rAnd (.int i) (.int j) H Q := ⟨i, j, rfl, rfl, h⟩
theorem x_neg (h : Q (.int (-i)) H) : rNeg (.int i) H Q := ⟨i, rfl, h⟩
theorem x_lt (h : Q (.bl (decide (i < j))) H) : rLt (.int i) (.int j) H Q := ⟨i, j, rfl, rfl, h⟩
theorem x_le (h : Q (.bl (decide (i ≤ j))) H) : rLe (.int i) (.int j) H Q := ⟨i, j, rfl, rfl, h⟩
theorem x_gt (h : Q (.bl (decide (j < i))) H) : rGt (.int i) (.int j) H Q := ⟨i, j, rfl, rfl, h⟩
theorem x_ge (h : Q (.bl (decide (j ≤ i))) H) : rGe (.int i) (.int j) H Q := ⟨i, j, rfl, rfl, h⟩
theorem x_eqI (h : Q (.bl (decide (i = j))) H) : rEq (.int i) (.int j) H Q := ⟨rfl, by rw [show decide (V.int i = V.int j) = decide (i = j) by rw [Bool.eq_iff_iff]; simp]; exact h⟩
theorem x_neI (h : Q (.bl (decide (i ≠ j))) H) : rNe (.int i) (.int j) H Q := ⟨rfl, by rw [show (!decide (V.int i = V.int j)) = decide (i ≠ j) by rw [Bool.eq_iff_iff]; simp]; exact h⟩
theorem x_eqB {a b : Bool} (h : Q (.bl (decide (a = b))) H) : rEq (.bl a) (.bl b) H Q := ⟨rfl, by rw [show decide (V.bl a = V.bl b) = decide (a = b) by rw [Bool.eq_iff_iff]; simp]; exact h⟩
theorem x_neB {a b : Bool} (h : Q (.bl (decide (a ≠ b))) H) : rNe (.bl a) (.bl b) H Q := ⟨rfl, by rw [show (!decide (V.bl a = V.bl b)) = decide (a ≠ b) by rw [Bool.eq_iff_iff]; simp]; exact h⟩
theorem x_eqS {a b : Str} (h : Q (.bl (decide (a = b))) H) : rEq (.str a) (.str b) H Q := ⟨rfl, by rw [show decide (V.str a = V.str b) = decide (a = b) by rw [Bool.eq_iff_iff]; simp]; exact h⟩
theorem x_neS {a b : Str} (h : Q (.bl (decide (a ≠ b))) H) : rNe (.str a) (.str b) H Q := ⟨rfl, by rw [show (!decide (V.str a = V.str b)) = decide (a ≠ b) by rw [Bool.eq_iff_iff]; simp]; exact h⟩
theorem x_isN (h : Q (.bl true) H) : rIs .non .non H Q := ⟨rfl, h⟩
theorem x_isnN (h : Q (.bl false) H) : rIsNot .non .non H Q := ⟨rfl, h⟩
theorem x_isI (h : Q (.bl false) H) : rIs (.int i) .non H Q := ⟨rfl, h⟩
theorem x_isnI (h : Q (.bl true) H) : rIsNot (.int i) .non H Q := ⟨rfl, h⟩
theorem x_isR (h : Q (.bl false) H) : rIs (.ref C) .non H Q := ⟨rfl, h⟩
theorem x_isnR (h : Q (.bl true) H) : rIsNot (.ref C) .non H Q := ⟨rfl, h⟩
theorem x_isB (h : Q (.bl false) H) : rIs (.bl b) .non H Q := ⟨rfl, h⟩
theorem x_isnB (h : Q (.bl true) H) : rIsNot (.bl b) .non H Q := ⟨rfl, h⟩
/-! tests -/
theorem x_test (h : te σ H fun x H' => ∃ k, x = .bl k ∧ QB k H') : tTest te σ H QB := h
theorem x_tB (h : te σ H fun x H' => ∃ k, x = .bl k ∧ QB k H') : tB te σ H QB := h
theorem x_bl {QK : Bool → Prop} (h : QK b) : ∃ k, V.bl b = .bl k ∧ QK k := ⟨b, rfl, h⟩
theorem x_not (h : t σ H fun c H1 => QB (!c) H1) : tNot t σ H QB := h
theorem x_and (h : t σ H fun c H1 => if c = true then u σ H1 QB else QB false H1) : tAnd t u σ H QB := h
theorem x_or (h : t σ H fun c H1 => if c = true then QB true H1 else u σ H1 QB) : tOr t u σ H QB := h
theorem x_andV (h : ta σ H fun x H1 => ∃ c, x = .bl c ∧ if c = true then tb σ H1 Q else Q (.bl false) H1) : tAndV ta tb σ H Q := h
theorem x_orV (h : ta σ H fun x H1 => ∃ c, x = .bl c ∧ if c = true then Q (.bl true) H1 else tb σ H1 Q) : tOrV ta tb σ H Q := h
theorem x_notV (h : ta σ H fun x H1 => ∃ c, x = .bl c ∧ Q (.bl (!c)) H1) : tNotV ta σ H Q := h
theorem x_tIf (h : t σ H fun c H1 => if c = true then ta σ H1 Q else tb σ H1 Q) : tIf t ta tb σ H Q := h
theorem x_chain (h : ta σ H fun x H1 => tb σ H1 fun y H2 => r x y H2 fun z H3 => ∃ k, z = .bl k ∧ (if k = true then tc σ H3 fun w' H4 => r' y w' H4 Q else Q (.bl false) H3)) : tChain r r' ta tb tc σ H Q := h
/-! decisions -/
theorem x_ite (h1 : P → A) (h2 : ¬ P → B) : if decide P = true then A else B := by
  by_cases h : P
  · rw [if_pos (decide_eq_true h)]; exact h1 h
  · rw [if_neg (by rw [decide_eq_false h]; exact Bool.false_ne_true)]; exact h2 h
theorem x_niteP (h1 : ¬ P → A) (h2 : P → B) : if (!decide P) = true then A else B := by
  by_cases h : P
  · rw [decide_eq_true h, if_neg (by simp)]; exact h2 h
  · rw [decide_eq_false h, if_pos (by simp)]; exact h1 h
theorem x_iteT (h : A) : if true = true then A else B := by rw [if_pos rfl]; exact h
theorem x_iteF (h : B) : if false = true then A else B := by rw [if_neg Bool.false_ne_true]; exact h
theorem x_niteT (h : B) : if (!true) = true then A else B := x_iteF h
theorem x_niteF (h : A) : if (!false) = true then A else B := x_iteT h
theorem x_itec (h1 : b = true → A) (h2 : b = false → B) : if b = true then A else B := by
  cases b with
  | true => exact x_iteT (h1 rfl)
  | false => exact x_iteF (h2 rfl)
theorem x_nitec (h1 : b = false → A) (h2 : b = true → B) : if (!b) = true then A else B := by
  cases b with
  | true => exact x_iteF (h2 rfl)
  | false => exact x_iteT (h1 rfl)
/-! statements -/
theorem x_seq (h : s1 ⟨s2 ⟨nx, rt, bk, ct⟩, rt, bk, ct⟩ σ H) : tSeq s1 s2 ⟨nx, rt, bk, ct⟩ σ H := h
theorem x_next (h : nx σ H) : tNext ⟨nx, rt, bk, ct⟩ σ H := h
theorem x_brk (h : bk σ H) : tBreak ⟨nx, rt, bk, ct⟩ σ H := h
theorem x_cont (h : ct σ H) : tCont ⟨nx, rt, bk, ct⟩ σ H := h
theorem x_drop (h : te σ H fun _ H1 => nx σ H1) : tDrop te ⟨nx, rt, bk, ct⟩ σ H := h
theorem x_ret (h : te σ H rt) : tRet te ⟨nx, rt, bk, ct⟩ σ H := h
theorem x_retN (h : rt .non H) : tRetN ⟨nx, rt, bk, ct⟩ σ H := h
theorem x_ifS (h : t σ H fun b H1 => if b = true then s1 ⟨nx, rt, bk, ct⟩ σ H1 else s2 ⟨nx, rt, bk, ct⟩ σ H1) : tIfS t s1 s2 ⟨nx, rt, bk, ct⟩ σ H := h
theorem x_asg (h : te σ H fun x H1 => g x σ H1 nx) : tAsg te g ⟨nx, rt, bk, ct⟩ σ H := h
theorem x_augA (h : Q (.int (i + j)) H) : rAug (.int i) (.int j) H Q := ⟨i, j, rfl, rfl, h⟩
theorem x_augS (h : Q (.int (i - j)) H) : rAugS (.int i) (.int j) H Q := ⟨i, j, rfl, rfl, h⟩
/-! calls, displays -/
theorem x_nil (h : QL [] H) : tNil σ H QL := h
theorem x_cons (h : ta σ H fun x H1 => tl σ H1 fun xs H2 => QL (x :: xs) H2) : tCons ta tl σ H QL := h
theorem x_cb (h : tl σ H fun vs H1 => rc vs H1 Q) : tCB rc tl σ H Q := h
theorem x_call (h : tl σ H fun vs H1 => sp (vs ++ []) H1 Q E) : tCall sp [] E tl σ H Q := h
theorem x_chn {tl : TC} (h : ta σ H fun x H1 => tl σ x H1 Q) : tChn ta tl σ H Q := h
theorem x_clast (h : tb σ H fun y H1 => r x y H1 Q) : cLast r tb σ x H Q := h
theorem x_clink {tl : TC} (h : tb σ H fun y H1 => r x y H1 fun z H2 => ∃ k, z = .bl k ∧ (if k = true then tl σ y H2 Q else Q (.bl false) H2)) : cLink r tb tl σ x H Q := h
theorem x_bits (h : Q (.int (Builtin.Int.intBits i : Nat)) H) : rBits (.int i) H Q := ⟨i, rfl, h⟩
theorem x_app {vs : List V} (h : sp vs H Q E) : sp (vs ++ []) H Q E := by rw [List.append_nil]; exact h
theorem x_app' {vs : List V} (h : sp (x :: vs) H Q E) : sp (x :: (vs ++ [])) H Q E := by rw [List.append_nil]; exact h
theorem x_raw {vs : List V} (h : sp vs H Q E) : spRaw sp vs H Q E := by unfold spRaw; rw [List.append_nil]; exact h
theorem x_cmeth (h : tl σ H fun vs H2 => sp (.ref C :: vs) H2 Q E) : ClX.tCMeth C sp E (eCon (.ref C)) tl σ H Q := ⟨rfl, h⟩
def Kmake (C : Addr) (sp : Sp) (vs : List V) (H1 : Hp) (Q : VK) (E : XK) : Prop := ∀ x dx, H1 x = none → H1 dx = none → dx ≠ x → sp (.ref x :: (vs ++ [])) (upd (upd H1 dx (.own x)) x (.ins C dx [])) (fun v H2 => v = .non ∧ Q (.ref x) H2) E
theorem x_make (h : tl σ H fun vs H1 => Kmake C sp vs H1 Q E) : tMake C sp [] E tl σ H Q := h
theorem x_meth {m : Str} (h : ta σ H fun x H1 => ∃ a dx fs, x = .ref a ∧ H1 a = some (.ins C dx fs) ∧ fs.lookup m = none ∧ tl σ H1 fun vs H2 => sp (x :: (vs ++ [])) H2 Q E) : tMeth C m sp [] E ta tl σ H Q := h
def Klst (xs : List V) (H1 : Hp) (Q : VK) : Prop := xs.length ≤ sizeLine ∧ ∀ p, H1 p = none → Q (.ref p) (upd H1 p (.lst xs))
theorem x_lst (h : tl σ H fun xs H1 => Klst xs H1 Q) : tLst tl σ H Q := h
def Ktup (xs : List V) (H1 : Hp) (Q : VK) : Prop := xs.length ≤ sizeLine ∧ ∀ p, H1 p = none → Q (.ref p) (upd H1 p (.tup xs))
theorem x_tup (h : tl σ H fun xs H1 => Ktup xs H1 Q) : tTup tl σ H Q := h
theorem x_intI (h : Q (.int i) H) : rInt [.int i] H Q := .inl ⟨i, rfl, h⟩
theorem x_intB (h : Q (.int (if b then 1 else 0)) H) : rInt [.bl b] H Q := .inr ⟨b, rfl, h⟩
theorem isi_of {n t : String} {bb : Bool} (ty : TyN H x t) (k : kitB t n = some bb) (e : isA t n = bb) (h : Q (.bl bb) H) : rIsI [x, .ty n] H Q := ⟨x, n, t, rfl, ty, by rw [e]; exact k, by rw [e]; exact h⟩

theorem kit_int_int : kitB "int" "int" = some true := by decide +kernel
theorem x_isi_int_int (h : Q (.bl true) H) : rIsI [.int i, .ty "int"] H Q := isi_of (.int i) kit_int_int rfl h
theorem kit_int_bool : kitB "int" "bool" = some false := by decide +kernel
theorem x_isi_int_bool (h : Q (.bl false) H) : rIsI [.int i, .ty "bool"] H Q := isi_of (.int i) kit_int_bool rfl h
theorem kit_int_str : kitB "int" "str" = some false := by decide +kernel
theorem x_isi_int_str (h : Q (.bl false) H) : rIsI [.int i, .ty "str"] H Q := isi_of (.int i) kit_int_str rfl h
theorem kit_int_list : kitB "int" "list" = some false := by decide +kernel
theorem x_isi_int_list (h : Q (.bl false) H) : rIsI [.int i, .ty "list"] H Q := isi_of (.int i) kit_int_list rfl h
theorem kit_int_tuple : kitB "int" "tuple" = some false := by decide +kernel
theorem x_isi_int_tuple (h : Q (.bl false) H) : rIsI [.int i, .ty "tuple"] H Q := isi_of (.int i) kit_int_tuple rfl h
theorem kit_int_dict : kitB "int" "dict" = some false := by decide +kernel
theorem x_isi_int_dict (h : Q (.bl false) H) : rIsI [.int i, .ty "dict"] H Q := isi_of (.int i) kit_int_dict rfl h
theorem kit_bool_int : kitB "bool" "int" = some true := by decide +kernel
theorem x_isi_bool_int (h : Q (.bl true) H) : rIsI [.bl b, .ty "int"] H Q := isi_of (.bl b) kit_bool_int rfl h
theorem kit_bool_bool : kitB "bool" "bool" = some true := by decide +kernel
theorem x_isi_bool_bool (h : Q (.bl true) H) : rIsI [.bl b, .ty "bool"] H Q := isi_of (.bl b) kit_bool_bool rfl h
theorem kit_bool_str : kitB "bool" "str" = some false := by decide +kernel
theorem x_isi_bool_str (h : Q (.bl false) H) : rIsI [.bl b, .ty "str"] H Q := isi_of (.bl b) kit_bool_str rfl h
theorem kit_bool_list : kitB "bool" "list" = some false := by decide +kernel
theorem x_isi_bool_list (h : Q (.bl false) H) : rIsI [.bl b, .ty "list"] H Q := isi_of (.bl b) kit_bool_list rfl h
theorem kit_bool_tuple : kitB "bool" "tuple" = some false := by decide +kernel
theorem x_isi_bool_tuple (h : Q (.bl false) H) : rIsI [.bl b, .ty "tuple"] H Q := isi_of (.bl b) kit_bool_tuple rfl h
theorem kit_bool_dict : kitB "bool" "dict" = some false := by decide +kernel
theorem x_isi_bool_dict (h : Q (.bl false) H) : rIsI [.bl b, .ty "dict"] H Q := isi_of (.bl b) kit_bool_dict rfl h
theorem kit_str_int : kitB "str" "int" = some false := by decide +kernel
theorem x_isi_str_int {zs : Str} (h : Q (.bl false) H) : rIsI [.str zs, .ty "int"] H Q := isi_of (.str zs) kit_str_int rfl h
theorem kit_str_bool : kitB "str" "bool" = some false := by decide +kernel
theorem x_isi_str_bool {zs : Str} (h : Q (.bl false) H) : rIsI [.str zs, .ty "bool"] H Q := isi_of (.str zs) kit_str_bool rfl h
theorem kit_str_str : kitB "str" "str" = some true := by decide +kernel
theorem x_isi_str_str {zs : Str} (h : Q (.bl true) H) : rIsI [.str zs, .ty "str"] H Q := isi_of (.str zs) kit_str_str rfl h
theorem kit_str_list : kitB "str" "list" = some false := by decide +kernel
theorem x_isi_str_list {zs : Str} (h : Q (.bl false) H) : rIsI [.str zs, .ty "list"] H Q := isi_of (.str zs) kit_str_list rfl h
theorem kit_str_tuple : kitB "str" "tuple" = some false := by decide +kernel
theorem x_isi_str_tuple {zs : Str} (h : Q (.bl false) H) : rIsI [.str zs, .ty "tuple"] H Q := isi_of (.str zs) kit_str_tuple rfl h
theorem kit_str_dict : kitB "str" "dict" = some false := by decide +kernel
theorem x_isi_str_dict {zs : Str} (h : Q (.bl false) H) : rIsI [.str zs, .ty "dict"] H Q := isi_of (.str zs) kit_str_dict rfl h
theorem kit_NoneType_int : kitB "NoneType" "int" = some false := by decide +kernel
theorem x_isi_NoneType_int (h : Q (.bl false) H) : rIsI [.non, .ty "int"] H Q := isi_of (.non) kit_NoneType_int rfl h
theorem kit_NoneType_bool : kitB "NoneType" "bool" = some false := by decide +kernel
theorem x_isi_NoneType_bool (h : Q (.bl false) H) : rIsI [.non, .ty "bool"] H Q := isi_of (.non) kit_NoneType_bool rfl h
theorem kit_NoneType_str : kitB "NoneType" "str" = some false := by decide +kernel
theorem x_isi_NoneType_str (h : Q (.bl false) H) : rIsI [.non, .ty "str"] H Q := isi_of (.non) kit_NoneType_str rfl h
theorem kit_NoneType_list : kitB "NoneType" "list" = some false := by decide +kernel
theorem x_isi_NoneType_list (h : Q (.bl false) H) : rIsI [.non, .ty "list"] H Q := isi_of (.non) kit_NoneType_list rfl h
theorem kit_NoneType_tuple : kitB "NoneType" "tuple" = some false := by decide +kernel
theorem x_isi_NoneType_tuple (h : Q (.bl false) H) : rIsI [.non, .ty "tuple"] H Q := isi_of (.non) kit_NoneType_tuple rfl h
theorem kit_NoneType_dict : kitB "NoneType" "dict" = some false := by decide +kernel
theorem x_isi_NoneType_dict (h : Q (.bl false) H) : rIsI [.non, .ty "dict"] H Q := isi_of (.non) kit_NoneType_dict rfl h
theorem kit_list_int : kitB "list" "int" = some false := by decide +kernel
theorem kit_list_bool : kitB "list" "bool" = some false := by decide +kernel
theorem kit_list_str : kitB "list" "str" = some false := by decide +kernel
theorem kit_list_list : kitB "list" "list" = some true := by decide +kernel
theorem kit_list_tuple : kitB "list" "tuple" = some false := by decide +kernel
theorem kit_list_dict : kitB "list" "dict" = some false := by decide +kernel
theorem kit_tuple_int : kitB "tuple" "int" = some false := by decide +kernel
theorem kit_tuple_bool : kitB "tuple" "bool" = some false := by decide +kernel
theorem kit_tuple_str : kitB "tuple" "str" = some false := by decide +kernel
theorem kit_tuple_list : kitB "tuple" "list" = some false := by decide +kernel
theorem kit_tuple_tuple : kitB "tuple" "tuple" = some true := by decide +kernel
theorem kit_tuple_dict : kitB "tuple" "dict" = some false := by decide +kernel
theorem kit_dict_int : kitB "dict" "int" = some false := by decide +kernel
theorem kit_dict_bool : kitB "dict" "bool" = some false := by decide +kernel
theorem kit_dict_str : kitB "dict" "str" = some false := by decide +kernel
theorem kit_dict_list : kitB "dict" "list" = some false := by decide +kernel
theorem kit_dict_tuple : kitB "dict" "tuple" = some false := by decide +kernel
theorem kit_dict_dict : kitB "dict" "dict" = some true := by decide +kernel

/-! the heap -/
variable {L L' : List Ent} {p q : Addr} {xs : List V} {f : Str} {dx : Addr} {fs : List (Str × V)} {lo hi : Option Int}
theorem x_ixL (F : FH H L) (m : (p, Is (.lst xs)) ∈ L) (a : atI xs i = some v) (h : Q v H) : rIx S (.ref p) (.int i) H Q := .inl ⟨p, xs, i, v, rfl, rfl, .inl (.inl (.inl (F.get m))), a, h⟩
theorem x_ixT (F : FH H L) (m : (p, Is (.tup xs)) ∈ L) (a : atI xs i = some v) (h : Q v H) : rIx S (.ref p) (.int i) H Q := .inl ⟨p, xs, i, v, rfl, rfl, .inr (.inl (.inl (F.get m))), a, h⟩
theorem x_ixR (F : FH H L) (m : (p, IsR xs) ∈ L) (a : atI xs i = some v) (h : Q v H) : rIx S (.ref p) (.int i) H Q := .inl ⟨p, xs, i, v, rfl, rfl, .inl (.inl (F.getR m)), a, h⟩
theorem x_lenL (F : FH H L) (m : (p, Is (.lst xs)) ∈ L) (h : Q (.int (xs.length : Int)) H) : rLen S [.ref p] H Q := .inl ⟨p, xs, rfl, .inl (.inl (.inl (F.get m))), h⟩
theorem x_lenT (F : FH H L) (m : (p, Is (.tup xs)) ∈ L) (h : Q (.int (xs.length : Int)) H) : rLen S [.ref p] H Q := .inl ⟨p, xs, rfl, .inr (.inl (.inl (F.get m))), h⟩
theorem x_lenR (F : FH H L) (m : (p, IsR xs) ∈ L) (h : Q (.int (xs.length : Int)) H) : rLen S [.ref p] H Q := .inl ⟨p, xs, rfl, .inl (.inl (F.getR m)), h⟩
theorem x_fld (h : te σ H fun x H1 => ∃ a dx fs v, x = .ref a ∧ H1 a = some (.ins C dx fs) ∧ fs.lookup f = some v ∧ Q v H1) : eFld C f te σ H Q := h
theorem x_fldG {QV : V → Prop} (F : FH H L) (m : (p, Is (.ins C dx fs)) ∈ L) (l : fs.lookup f = some v) (h : QV v) : ∃ a dx fs v, V.ref p = .ref a ∧ H a = some (.ins C dx fs) ∧ fs.lookup f = some v ∧ QV v := ⟨p, dx, fs, v, rfl, F.get m, l, h⟩
theorem x_methG {m : Str} {B : Prop} (F : FH H L) (hm : (p, Is (.ins C dx fs)) ∈ L) (l : fs.lookup m = none) (h : B) : ∃ a dx fs, V.ref p = .ref a ∧ H a = some (.ins C dx fs) ∧ fs.lookup m = none ∧ B := ⟨p, dx, fs, rfl, F.get hm, l, h⟩
theorem x_inOwnF (F : FH H L) (m : (p, Is (.ins C dx fs)) ∈ L) (h : sp [.ref p, y] H (fun v H' => ∃ b, v = .bl b ∧ Q (.bl b) H') E) : rInOwn C false sp E y (.ref p) H Q := ⟨p, dx, fs, rfl, F.get m, h⟩
theorem x_inOwnT (F : FH H L) (m : (p, Is (.ins C dx fs)) ∈ L) (h : sp [.ref p, y] H (fun v H' => ∃ b, v = .bl b ∧ Q (.bl (!b)) H') E) : rInOwn C true sp E y (.ref p) H Q := ⟨p, dx, fs, rfl, F.get m, h⟩
theorem x_setF (h : tb σ H fun y H1 => te σ H1 fun x H2 => ∃ a dx fs, x = .ref a ∧ H2 a = some (.ins C dx fs) ∧ fs.length < 1000 ∧ nx σ (upd H2 a (.ins C dx (putF f y fs)))) : sSetF C f te tb ⟨nx, rt, bk, ct⟩ σ H := h
theorem x_setFG {QH : Hp → Prop} {fs' : List (Str × V)} (F : FH H L) (m : (p, Is (.ins C dx fs)) ∈ L) (hl : fs.length < 1000) (e : putF f y fs = fs') (pu : Put p (Is (.ins C dx fs)) (Is (.ins C dx fs')) L L') (h : ∀ H', FH H' L' → QH H') : ∃ a dx fs, V.ref p = .ref a ∧ H a = some (.ins C dx fs) ∧ fs.length < 1000 ∧ QH (upd H a (.ins C dx (putF f y fs))) :=
  ⟨p, dx, fs, rfl, F.get m, hl, by rw [e]; exact h _ (F.put pu trivial)⟩
theorem x_gsub {to ti : TE} {ts : TSet} (h : to σ H fun o H1 => ti σ H1 fun i H2 => ts o i v H2 fun H3 => QS σ H3) : gSub to ti ts v σ H QS := h
theorem x_setL {k : Nat} {QH : Hp → Prop} (F : FH H L) (m : (p, Is (.lst xs)) ∈ L) (a : ixN xs.length i = some k) (pu : Put p (Is (.lst xs)) (Is (.lst (xs.set k v))) L L') (h : ∀ H', FH H' L' → QH H') : rSetL (.ref p) (.int i) v H QH :=
  ⟨p, xs, i, k, rfl, rfl, F.get m, a, h _ (F.put pu trivial)⟩
theorem x_apd (h : te σ H fun x H1 => ∃ l, x = .ref l ∧ (∃ xs, H1 l = some (.lst xs)) ∧ tl σ H1 fun vs H2 => rAppend x vs H2 Q) : eApp te tl σ H Q := h
theorem x_apdG {B : Prop} (F : FH H L) (m : (p, Is (.lst xs)) ∈ L) (h : B) : ∃ l, V.ref p = .ref l ∧ (∃ xs, H l = some (.lst xs)) ∧ B := ⟨p, rfl, ⟨xs, F.get m⟩, h⟩
theorem x_append (F : FH H L) (m : (p, Is (.lst xs)) ∈ L) (z : xs.length < sizeLine) (pu : Put p (Is (.lst xs)) (Is (.lst (xs ++ [v]))) L L') (h : ∀ H', FH H' L' → Q .non H') : rAppend (.ref p) [v] H Q :=
  ⟨p, xs, v, rfl, rfl, F.get m, z, h _ (F.put pu trivial)⟩
theorem x_lstG {xs : List V} (F : FH H L) (z : xs.length ≤ sizeLine) (h : ∀ p H', H p = none → FH H' ((p, Is (.lst xs)) :: L) → Q (.ref p) H') : Klst xs H Q := ⟨z, fun p hp => h p _ hp (F.new hp)⟩
theorem x_tupG {xs : List V} (F : FH H L) (z : xs.length ≤ sizeLine) (h : ∀ p H', H p = none → FH H' ((p, Is (.tup xs)) :: L) → Q (.ref p) H') : Ktup xs H Q := ⟨z, fun p hp => h p _ hp (F.new hp)⟩
theorem x_makeG {C : Addr} {vs : List V} (F : FH H L) (h : ∀ x dx H', FH H' ((x, Is (.ins C dx [])) :: L) → sp (.ref x :: vs) H' (fun v H2 => v = .non ∧ Q (.ref x) H2) E) :
    Kmake C sp vs H Q E := fun x dx hx hd ne => by
  rw [List.append_nil]
  exact h x dx _ ((F.other hd).new (by rw [upd_ne (Ne.symm ne)]; exact hx))
theorem x_sl {tlo thi : TO} {rs : V → Option Int → Option Int → Hp → VK → Prop} (h : te σ H fun x H1 => tlo σ H1 fun l H2 => thi σ H2 fun u H3 => rs x l u H3 Q) : L2.tSl rs te tlo thi σ H Q := h
theorem x_nopart (h : QO none H) : tNoPart σ H QO := h
theorem x_part (h : te σ H fun x H1 => ∃ i, x = .int i ∧ QO (some i) H1) : tPart te σ H QO := h
theorem cutV_tail {x : V} : cutV (x :: xs) (some 1) none = xs := by
  unfold cutV
  rw [HT.sIx_none, show (1 : Int) = ((1 : Nat) : Int) from rfl, HT.sIx_nat]
  rw [show min 1 (x :: xs).length = 1 by rw [List.length_cons]; omega]
  show xs.take _ = xs
  rw [List.length_cons, show xs.length + 1 - 1 = xs.length by omega, List.take_length]
theorem x_slL (F : FH H L) (m : (p, Is (.lst xs)) ∈ L) (h : ∀ q H', H q = none → FH H' ((q, Is (.lst (cutV xs lo hi))) :: L) → Q (.ref q) H') : rSl S (.ref p) lo hi H Q := ⟨p, xs, rfl, .inl (.inl (F.get m)), fun q hq => h q _ hq (F.new hq)⟩
theorem x_sl1 {v : V} (F : FH H L) (m : (p, Is (.lst (v :: xs))) ∈ L) (h : ∀ q H', H q = none → FH H' ((q, Is (.lst xs)) :: L) → Q (.ref q) H') : rSl S (.ref p) (some 1) none H Q := ⟨p, _, rfl, .inl (.inl (F.get m)), fun q hq => h q _ hq (by rw [show cutV (v :: xs) (some 1) none = xs from cutV_tail]; exact F.new hq)⟩
theorem cutV_pre {n : Nat} {ys zs : List V} (e : ys.length = n) : cutV (ys ++ zs) none (some (n : Int)) = ys := by
  unfold cutV
  rw [HT.sIx_none, HT.sIx_nat, List.drop_zero, Nat.sub_zero, Nat.min_eq_left (by rw [List.length_append]; omega), ← e, List.take_left]
theorem x_slp1 {v0 : V} (F : FH H L) (m : (p, Is (.lst (v0 :: xs))) ∈ L) (h : ∀ q H', H q = none → FH H' ((q, Is (.lst [v0])) :: L) → Q (.ref q) H') : rSl S (.ref p) none (some 1) H Q := ⟨p, _, rfl, .inl (.inl (F.get m)), fun q hq => h q _ hq (by rw [show cutV (v0 :: xs) none (some 1) = [v0] from cutV_pre (ys := [v0]) (n := 1) rfl]; exact F.new hq)⟩
theorem x_slp2 {v0 v1 : V} (F : FH H L) (m : (p, Is (.lst (v0 :: v1 :: xs))) ∈ L) (h : ∀ q H', H q = none → FH H' ((q, Is (.lst [v0, v1])) :: L) → Q (.ref q) H') : rSl S (.ref p) none (some 2) H Q := ⟨p, _, rfl, .inl (.inl (F.get m)), fun q hq => h q _ hq (by rw [show cutV (v0 :: v1 :: xs) none (some 2) = [v0, v1] from cutV_pre (ys := [v0, v1]) (n := 2) rfl]; exact F.new hq)⟩
theorem x_slp3 {v0 v1 v2 : V} (F : FH H L) (m : (p, Is (.lst (v0 :: v1 :: v2 :: xs))) ∈ L) (h : ∀ q H', H q = none → FH H' ((q, Is (.lst [v0, v1, v2])) :: L) → Q (.ref q) H') : rSl S (.ref p) none (some 3) H Q := ⟨p, _, rfl, .inl (.inl (F.get m)), fun q hq => h q _ hq (by rw [show cutV (v0 :: v1 :: v2 :: xs) none (some 3) = [v0, v1, v2] from cutV_pre (ys := [v0, v1, v2]) (n := 3) rfl]; exact F.new hq)⟩
theorem x_slp4 {v0 v1 v2 v3 : V} (F : FH H L) (m : (p, Is (.lst (v0 :: v1 :: v2 :: v3 :: xs))) ∈ L) (h : ∀ q H', H q = none → FH H' ((q, Is (.lst [v0, v1, v2, v3])) :: L) → Q (.ref q) H') : rSl S (.ref p) none (some 4) H Q := ⟨p, _, rfl, .inl (.inl (F.get m)), fun q hq => h q _ hq (by rw [show cutV (v0 :: v1 :: v2 :: v3 :: xs) none (some 4) = [v0, v1, v2, v3] from cutV_pre (ys := [v0, v1, v2, v3]) (n := 4) rfl]; exact F.new hq)⟩
theorem x_slp5 {v0 v1 v2 v3 v4 : V} (F : FH H L) (m : (p, Is (.lst (v0 :: v1 :: v2 :: v3 :: v4 :: xs))) ∈ L) (h : ∀ q H', H q = none → FH H' ((q, Is (.lst [v0, v1, v2, v3, v4])) :: L) → Q (.ref q) H') : rSl S (.ref p) none (some 5) H Q := ⟨p, _, rfl, .inl (.inl (F.get m)), fun q hq => h q _ hq (by rw [show cutV (v0 :: v1 :: v2 :: v3 :: v4 :: xs) none (some 5) = [v0, v1, v2, v3, v4] from cutV_pre (ys := [v0, v1, v2, v3, v4]) (n := 5) rfl]; exact F.new hq)⟩
theorem x_slp6 {v0 v1 v2 v3 v4 v5 : V} (F : FH H L) (m : (p, Is (.lst (v0 :: v1 :: v2 :: v3 :: v4 :: v5 :: xs))) ∈ L) (h : ∀ q H', H q = none → FH H' ((q, Is (.lst [v0, v1, v2, v3, v4, v5])) :: L) → Q (.ref q) H') : rSl S (.ref p) none (some 6) H Q := ⟨p, _, rfl, .inl (.inl (F.get m)), fun q hq => h q _ hq (by rw [show cutV (v0 :: v1 :: v2 :: v3 :: v4 :: v5 :: xs) none (some 6) = [v0, v1, v2, v3, v4, v5] from cutV_pre (ys := [v0, v1, v2, v3, v4, v5]) (n := 6) rfl]; exact F.new hq)⟩
theorem x_slp7 {v0 v1 v2 v3 v4 v5 v6 : V} (F : FH H L) (m : (p, Is (.lst (v0 :: v1 :: v2 :: v3 :: v4 :: v5 :: v6 :: xs))) ∈ L) (h : ∀ q H', H q = none → FH H' ((q, Is (.lst [v0, v1, v2, v3, v4, v5, v6])) :: L) → Q (.ref q) H') : rSl S (.ref p) none (some 7) H Q := ⟨p, _, rfl, .inl (.inl (F.get m)), fun q hq => h q _ hq (by rw [show cutV (v0 :: v1 :: v2 :: v3 :: v4 :: v5 :: v6 :: xs) none (some 7) = [v0, v1, v2, v3, v4, v5, v6] from cutV_pre (ys := [v0, v1, v2, v3, v4, v5, v6]) (n := 7) rfl]; exact F.new hq)⟩
theorem x_slp8 {v0 v1 v2 v3 v4 v5 v6 v7 : V} (F : FH H L) (m : (p, Is (.lst (v0 :: v1 :: v2 :: v3 :: v4 :: v5 :: v6 :: v7 :: xs))) ∈ L) (h : ∀ q H', H q = none → FH H' ((q, Is (.lst [v0, v1, v2, v3, v4, v5, v6, v7])) :: L) → Q (.ref q) H') : rSl S (.ref p) none (some 8) H Q := ⟨p, _, rfl, .inl (.inl (F.get m)), fun q hq => h q _ hq (by rw [show cutV (v0 :: v1 :: v2 :: v3 :: v4 :: v5 :: v6 :: v7 :: xs) none (some 8) = [v0, v1, v2, v3, v4, v5, v6, v7] from cutV_pre (ys := [v0, v1, v2, v3, v4, v5, v6, v7]) (n := 8) rfl]; exact F.new hq)⟩
theorem x_slR (F : FH H L) (m : (p, IsR xs) ∈ L) (h : ∀ q H', H q = none → FH H' ((q, Is (.lst (cutV xs lo hi))) :: L) → Q (.ref q) H') : rSl S (.ref p) lo hi H Q := ⟨p, xs, rfl, .inl (F.getR m), fun q hq => h q _ hq (F.new hq)⟩
theorem x_slS (F : FH H L) (m : S p (.lst xs)) (h : ∀ q H', H q = none → FH H' ((q, Is (.lst (cutV xs lo hi))) :: L) → Q (.ref q) H') : rSl S (.ref p) lo hi H Q := ⟨p, xs, rfl, .inr m, fun q hq => h q _ hq (F.new hq)⟩
theorem x_ixS (m : S p (.lst xs)) (a : atI xs i = some v) (h : Q v H) : rIx S (.ref p) (.int i) H Q := .inl ⟨p, xs, i, v, rfl, rfl, .inl (.inr m), a, h⟩
theorem x_lenS (m : S p (.lst xs)) (h : Q (.int (xs.length : Int)) H) : rLen S [.ref p] H Q := .inl ⟨p, xs, rfl, .inl (.inr m), h⟩
theorem x_none (h : v = .non → Q v H) : v = .non → Q v H := h
theorem x_initEnd {B : Prop} (h : B) : V.non = .non ∧ B := ⟨rfl, h⟩
/-! loops -/
def ForR (g : TG) (s1 : TS) (nx : K0) (rt : VK) (lo hi : Int) (σ : L2.St) (H : Hp) : Prop := (-(2 ^ 62) ≤ lo ∧ lo < 2 ^ 62 ∧ -(2 ^ 62) ≤ hi ∧ hi < 2 ^ 62) ∧ ∃ Pv : Nat → L2.St → Hp → Prop, Pv 0 σ H ∧
    (∀ (i : Nat) σ H, lo + i < hi → Pv i σ H → g (.int (lo + i)) σ H fun σ' H' => s1 ⟨Pv (i + 1), rt, nx, Pv (i + 1)⟩ σ' H') ∧ ∀ σ H, Pv (hi - lo).toNat σ H → nx σ H
theorem x_forR1 (h : te σ H fun y H1 => ∃ j, y = .int j ∧ ForR g s1 nx rt 0 j σ H1) : sForR none te g s1 ⟨nx, rt, bk, ct⟩ σ H := h
theorem x_forR2 (h : ta σ H fun x H1 => tb σ H1 fun y H2 => ∃ i j, x = .int i ∧ y = .int j ∧ ForR g s1 nx rt i j σ H2) : sForR (some ta) tb g s1 ⟨nx, rt, bk, ct⟩ σ H := h
theorem x_int1 {QK : Int → Prop} (h : QK i) : ∃ k, V.int i = .int k ∧ QK k := ⟨i, rfl, h⟩
theorem x_int2 {QK : Int → Int → Prop} (h : QK i j) : ∃ k l, V.int i = .int k ∧ V.int j = .int l ∧ QK k l := ⟨i, j, rfl, rfl, h⟩
/-- a range from 0 by an invariant -/
theorem forG (Pv : Nat → L2.St → Hp → Prop) (h2 : j < 4611686018427387904) (h1 : -4611686018427387904 ≤ j) (h0 : Pv 0 σ H)
    (hs : ∀ (i : Nat) σ H, (i : Int) < j → Pv i σ H → g (.int (i : Int)) σ H fun σ' H' => s1 ⟨Pv (i + 1), rt, nx, Pv (i + 1)⟩ σ' H') (hd : ∀ σ H, Pv j.toNat σ H → nx σ H) : ForR g s1 nx rt 0 j σ H :=
  ⟨⟨by decide, by decide, h1, h2⟩, Pv, h0, fun i σ H h p => by rw [Int.zero_add] at h ⊢; exact hs i σ H h p, fun σ H p => hd σ H (by rw [Int.sub_zero] at p; exact p)⟩
theorem forG2 (Pv : Nat → L2.St → Hp → Prop) (h : -4611686018427387904 ≤ i ∧ i < 4611686018427387904 ∧ -4611686018427387904 ≤ j ∧ j < 4611686018427387904) (h0 : Pv 0 σ H)
    (hs : ∀ (n : Nat) σ H, i + n < j → Pv n σ H → g (.int (i + n)) σ H fun σ' H' => s1 ⟨Pv (n + 1), rt, nx, Pv (n + 1)⟩ σ' H') (hd : ∀ σ H, Pv (j - i).toNat σ H → nx σ H) : ForR g s1 nx rt i j σ H := ⟨h, Pv, h0, hs, hd⟩
/-- a while by a measure -/
def WhB (W : Nat → L2.St → Hp → Prop) (m : Nat) (s1 : TS) (nx : K0) (rt : VK) (σ : L2.St) (H1 : Hp) : Prop := ∃ N : L2.St → Hp → Prop, (∀ σ' H', N σ' H' → ∃ m', m' < m ∧ W m' σ' H') ∧ s1 ⟨N, rt, nx, N⟩ σ H1
def WhN (W : Nat → L2.St → Hp → Prop) (m : Nat) : K0 := fun σ' H' => ∃ m', m' < m ∧ W m' σ' H'
theorem x_whB {W : Nat → L2.St → Hp → Prop} {m : Nat} (h : s1 ⟨WhN W m, rt, nx, WhN W m⟩ σ H) : WhB W m s1 nx rt σ H := ⟨_, fun _ _ h => h, h⟩
theorem whileG (W : Nat → L2.St → Hp → Prop) (m0 : Nat) (h0 : W m0 σ H) (hs : ∀ m σ H, W m σ H → t σ H fun b H1 => if b = true then WhB W m s1 nx rt σ H1 else nx σ H1) : tWhile t s1 ⟨nx, rt, bk, ct⟩ σ H := ⟨W, ⟨m0, h0⟩, hs⟩
/-- the turns one by one: n turns from lo on; P behind them, bk behind a break -/
def forK (g : TG) (s1 : TS) (P bk : K0) (rt : VK) : Nat → Int → L2.St → Hp → Prop
  | 0, _, σ, H => P σ H
  | n + 1, lo, σ, H => g (.int lo) σ H fun σ' H' => s1 ⟨forK g s1 P bk rt n (lo + 1), rt, bk, forK g s1 P bk rt n (lo + 1)⟩ σ' H'
theorem forUC (n : Nat) (Post : L2.St → Hp → Prop) (e : j = (n : Int)) (h2 : j < 4611686018427387904) (h : forK g s1 Post nx rt n 0 σ H) (hd : ∀ σ H, Post σ H → nx σ H) : ForR g s1 nx rt 0 j σ H := by
  refine forG (fun i σ H => i ≤ n ∧ forK g s1 Post nx rt (n - i) (i : Int) σ H) h2 (by omega) ⟨Nat.zero_le _, h⟩ (fun i σ H hi p => ?_) fun σ H p => ?_
  · obtain ⟨q1, q2⟩ := p
    have e1 : n - i = (n - (i + 1)) + 1 := by omega
    rw [e1] at q2
    have e2 : ((i + 1 : Nat) : Int) = (i : Int) + 1 := by omega
    have e3 : (fun σ H => i + 1 ≤ n ∧ forK g s1 Post nx rt (n - (i + 1)) ((i + 1 : Nat) : Int) σ H) = forK g s1 Post nx rt (n - (i + 1)) ((i : Int) + 1) := by
      funext σ H
      rw [e2]
      exact propext ⟨fun h => h.2, fun h => ⟨by omega, h⟩⟩
    show g (.int (i : Int)) σ H fun σ' H' => s1 ⟨fun σ H => i + 1 ≤ n ∧ forK g s1 Post nx rt (n - (i + 1)) ((i + 1 : Nat) : Int) σ H, rt, nx, fun σ H => i + 1 ≤ n ∧ forK g s1 Post nx rt (n - (i + 1)) ((i + 1 : Nat) : Int) σ H⟩ σ' H'
    rw [e3]
    exact q2
  · obtain ⟨_, q⟩ := p
    have e4 : n - j.toNat = 0 := by omega
    rw [e4] at q
    exact hd _ _ q
theorem forU (n : Nat) (e : j = (n : Int)) (h2 : j < 4611686018427387904) (h : forK g s1 nx nx rt n 0 σ H) : ForR g s1 nx rt 0 j σ H := forUC n nx e h2 h fun _ _ h => h
theorem x_forK {n : Nat} (h : g (.int i) σ H fun σ' H' => s1 ⟨forK g s1 nx bk rt n (i + 1), rt, bk, forK g s1 nx bk rt n (i + 1)⟩ σ' H') : forK g s1 nx bk rt (n + 1) i σ H := h
theorem x_forK0 (h : nx σ H) : forK g s1 nx bk rt 0 i σ H := h
/-- where a list is read -/
inductive Src (S : Sta) (L : List Ent) (p : Addr) (xs : List V) : Prop where
  | is (m : (p, Is (.lst xs)) ∈ L)
  | rd (m : (p, IsR xs) ∈ L)
  | st (m : S p (.lst xs))
theorem Src.rdS {L : List Ent} (m : Src S L p xs) (F : FH H L) : RdS S H p (.lst xs) := by
  cases m with
  | is m => exact .inl (.inl (F.get m))
  | rd m => exact .inl (F.getR m)
  | st m => exact .inr m
theorem src_of {K : PySem.W.Frag} (st : S = SK K) (h : SqL K H p xs) : ∃ L, FH H L ∧ Src S L p xs := by
  subst st
  rcases h with h | h
  · refine ⟨[(p, IsR xs)], ⟨[p] ++ [], .cons (p := p) (φ := IsR xs) (k := [p]) ⟨rfl, ?_⟩ .nil (by simp) (fun a _ m => by cases m)⟩, .rd (List.Mem.head _)⟩
    rcases h with h | ⟨o, h⟩
    · exact ⟨_, h, .inl rfl⟩
    · exact ⟨_, h, .inr ⟨o, rfl⟩⟩
  · exact ⟨[], .nil, .st h⟩
def ForS (S : Sta) (g : TG) (s1 : TS) (nx : K0) (rt : VK) (x : V) (σ : L2.St) (H : Hp) : Prop := ∃ a xs, x = .ref a ∧ ∃ Pv : Nat → L2.St → Hp → Prop, Pv 0 σ H ∧ Stays S a xs (fun i H => ∃ σ, Pv i σ H) ∧
  (∀ i y σ H, xs[i]? = some y → Pv i σ H → g y σ H fun σ' H' => s1 ⟨Pv (i + 1), rt, nx, Pv (i + 1)⟩ σ' H') ∧ ∀ σ H, Pv xs.length σ H → nx σ H
theorem x_forE (h : te σ H fun x H1 => ForS S g s1 nx rt x σ H1) : sFor S te g s1 ⟨nx, rt, bk, ct⟩ σ H := h
/-- a list by an invariant -/
theorem forS (Pv : Nat → L2.St → Hp → Prop) (h0 : Pv 0 σ H) (hst : ∀ i σ H, i ≤ xs.length → Pv i σ H → RdS S H p (.lst xs))
    (hs : ∀ i y σ H, xs[i]? = some y → Pv i σ H → g y σ H fun σ' H' => s1 ⟨Pv (i + 1), rt, nx, Pv (i + 1)⟩ σ' H') (hd : ∀ σ H, Pv xs.length σ H → nx σ H) : ForS S g s1 nx rt (.ref p) σ H :=
  ⟨p, xs, rfl, Pv, h0, .inl fun i H hi ⟨σ, q⟩ => hst i σ H hi q, hs, hd⟩
/-- a list that stands: what is known of the heap is the same at each turn -/
theorem forL (Pv : Nat → L2.St → Prop) (F : FH H L) (m : Src S L p xs) (h0 : Pv 0 σ)
    (hs : ∀ i y σ H, xs[i]? = some y → Pv i σ → FH H L → g y σ H fun σ' H' => s1 ⟨fun σ H => Pv (i + 1) σ ∧ FH H L, rt, nx, fun σ H => Pv (i + 1) σ ∧ FH H L⟩ σ' H') (hd : ∀ σ H, Pv xs.length σ → FH H L → nx σ H) : ForS S g s1 nx rt (.ref p) σ H :=
  forS (fun i σ H => Pv i σ ∧ FH H L) ⟨h0, F⟩ (fun i σ H _ q => m.rdS q.2) (fun i y σ H e q => hs i y σ H e q.1 q.2) fun σ H q => hd σ H q.1 q.2
/-- the turns one by one over a known tuple -/
def forKS (S : Sta) (a : Addr) (u : HO) (g : TG) (s1 : TS) (P bk : K0) (rt : VK) : List V → L2.St → Hp → Prop
  | [], σ, H => P σ H
  | x :: xs, σ, H => g x σ H fun σ' H' => s1 ⟨fun σ H => RdS S H a u ∧ forKS S a u g s1 P bk rt xs σ H, rt, bk, fun σ H => RdS S H a u ∧ forKS S a u g s1 P bk rt xs σ H⟩ σ' H'
theorem forSU {k : Bool} (rd : RdS S H p (if k then .lst xs else .tup xs)) (Post : K0) (h : forKS S p (if k then .lst xs else .tup xs) g s1 Post nx rt xs σ H) (hp : ∀ σ H, Post σ H → nx σ H) : ForS S g s1 nx rt (.ref p) σ H := by
  refine ⟨p, xs, rfl, fun i σ H => RdS S H p (if k then .lst xs else .tup xs) ∧ forKS S p (if k then .lst xs else .tup xs) g s1 Post nx rt (xs.drop i) σ H, ⟨rd, by rw [List.drop_zero]; exact h⟩, ?_, fun i y σ H e q => ?_, fun σ H q => ?_⟩
  · cases k with
    | true => exact .inl fun i H _ ⟨σ, q, _⟩ => q
    | false => exact .inr fun i H _ ⟨σ, q, _⟩ => q
  · obtain ⟨_, q⟩ := q
    have hi := (List.getElem?_eq_some_iff.mp e)
    rw [List.drop_eq_getElem_cons hi.1, hi.2] at q
    exact q
  · obtain ⟨_, q⟩ := q
    rw [List.drop_length] at q
    exact hp σ H q
theorem forTU (F : FH H L) (m : (p, Is (.tup xs)) ∈ L) (h : forKS S p (.tup xs) g s1 nx nx rt xs σ H) : ForS S g s1 nx rt (.ref p) σ H := forSU (k := false) (.inl (.inl (F.get m))) nx h fun _ _ h => h
theorem forLU (F : FH H L) (m : (p, Is (.lst xs)) ∈ L) (h : forKS S p (.lst xs) g s1 nx nx rt xs σ H) : ForS S g s1 nx rt (.ref p) σ H := forSU (k := true) (.inl (.inl (F.get m))) nx h fun _ _ h => h
theorem x_forKS {a : Addr} {u : HO} (h : g x σ H fun σ' H' => s1 ⟨fun σ H => RdS S H a u ∧ forKS S a u g s1 nx bk rt xs σ H, rt, bk, fun σ H => RdS S H a u ∧ forKS S a u g s1 nx bk rt xs σ H⟩ σ' H') : forKS S a u g s1 nx bk rt (x :: xs) σ H := h
theorem x_forKS0 {a : Addr} {u : HO} (h : nx σ H) : forKS S a u g s1 nx bk rt [] σ H := h
theorem x_rdT (F : FH H L) (m : (p, Is (.tup xs)) ∈ L) (h : A) : RdS S H p (.tup xs) ∧ A := ⟨.inl (.inl (F.get m)), h⟩
theorem x_rdL (F : FH H L) (m : (p, Is (.lst xs)) ∈ L) (h : A) : RdS S H p (.lst xs) ∧ A := ⟨.inl (.inl (F.get m)), h⟩
/-! comprehensions -/
def LcS (S : Sta) (g : TG) (tt : TT) (tel : TE) (vs : List Nat) (Q : VK) (x : V) (σ : L2.St) (H1 : Hp) : Prop := ∃ a xs, x = .ref a ∧ ∃ k : Bool, RdS S H1 a (if k then .lst xs else .tup xs) ∧ ∀ D, H1 D = none → ∃ Pv : Nat → Hp → Prop, Pv 0 (upd H1 D (.lst [])) ∧ (∀ i H, i ≤ xs.length → Pv i H → RdS S H a (if k then .lst xs else .tup xs)) ∧
  (∀ i y H, xs[i]? = some y → Pv i H → g y (wipe σ vs) H fun σ2 H2 => wipe σ2 vs = wipe σ vs ∧ tt σ2 H2 fun b H3 => if b = true then tel σ2 H3 fun z H4 => ∃ acc, H4 D = some (.lst acc) ∧ acc.length < sizeLine ∧ Pv (i + 1) (upd H4 D (.lst (acc ++ [z]))) else Pv (i + 1) H3) ∧
  ∀ H, Pv xs.length H → Q (.ref D) H
theorem x_lcE {tt : TT} {tel : TE} {vs : List Nat} (h : te σ H fun x H1 => LcS S g tt tel vs Q x σ H1) : eLc S te g tt tel vs σ H Q := h
theorem x_wipe {σ2 σw : L2.St} {vs : List Nat} (e : wipe σ2 vs = σw) (h : A) : wipe σ2 vs = σw ∧ A := ⟨e, h⟩
theorem x_yes (h : QB true H) : tYes σ H QB := h
/-- a comprehension over a list that stands, whose element leaves the heap as it is -/
theorem lcFM {tt : TT} {tel : TE} {vs : List Nat} {σw : L2.St} (f : V → V) (keep : V → Bool) (F : FH H L) (m : Src S L p xs) (z : xs.length < 16777216) (ew : wipe σ vs = σw)
    (hs : ∀ y H (QX : V → Hp → Prop) (A : Hp → Prop), y ∈ xs → FH H L → (keep y = true → QX (f y) H) → (keep y = false → A H) → g y σw H fun σ2 H2 => wipe σ2 vs = σw ∧ tt σ2 H2 fun b H3 => if b = true then tel σ2 H3 QX else A H3)
    (hd : ∀ D H', FH H' ((D, Is (.lst ((xs.filter keep).map f))) :: L) → Q (.ref D) H') : LcS S g tt tel vs Q (.ref p) σ H := by
  have rd : ∀ H, FH H L → RdS S H p (.lst xs) := fun H F => m.rdS F
  subst ew
  refine ⟨p, xs, rfl, true, rd H F, fun D hD => ⟨fun i H => FH H ((D, Is (.lst (((xs.take i).filter keep).map f))) :: L), F.new hD, fun i H _ q => rd H q.tail, fun i y H e q => ?_, fun H q => hd D H ?_⟩⟩
  · have hi : i < xs.length := (List.getElem?_eq_some_iff.mp e).1
    have et : xs.take (i + 1) = xs.take i ++ [y] := by rw [List.take_add_one, e]; rfl
    refine hs y H _ _ (List.mem_of_getElem? e) q.tail (fun k => ⟨_, q.get (List.Mem.head _), ?_, ?_⟩) fun k => ?_
    · have h1 : (((xs.take i).filter keep).map f).length ≤ i := by
        rw [List.length_map]
        exact Nat.le_trans (List.length_filter_le _ _) (by rw [List.length_take]; exact Nat.min_le_left _ _)
      rw [sizeLine_eq]; omega
    · show FH _ ((D, Is (.lst (((xs.take (i + 1)).filter keep).map f))) :: L)
      rw [et, List.filter_append, List.map_append]
      have e1 : ([y].filter keep).map f = [f y] := by simp [k]
      rw [e1]
      exact q.put .here trivial
    · show FH _ ((D, Is (.lst (((xs.take (i + 1)).filter keep).map f))) :: L)
      rw [et, List.filter_append, List.map_append]
      have e1 : ([y].filter keep).map f = [] := by simp [k]
      rw [e1, List.append_nil]
      exact q
  · have q : FH H ((D, Is (.lst (((xs.take xs.length).filter keep).map f))) :: L) := q
    rw [List.take_length] at q
    exact q
/-- .. of ints by a map of ints -/
theorem lcII {ns : List Int} {tel : TE} {vs : List Nat} {σw : L2.St} (f : Int → Int) (F : FH H L) (m : Src S L p (ns.map V.int)) (z : ns.length < 16777216) (ew : wipe σ vs = σw)
    (hs : ∀ y H (QX : V → Hp → Prop), y ∈ ns → FH H L → QX (.int (f y)) H → g (.int y) σw H fun σ2 H2 => wipe σ2 vs = σw ∧ tel σ2 H2 QX)
    (hd : ∀ D H', FH H' ((D, Is (.lst ((ns.map f).map V.int))) :: L) → Q (.ref D) H') : LcS S g tYes tel vs Q (.ref p) σ H := by
  refine lcFM (xs := ns.map V.int) (fun v => match v with | .int i => .int (f i) | v => v) (fun _ => true) F m (by rw [List.length_map]; exact z) ew (fun y H QX A hy F' hk hA => ?_) fun D H' F' => hd D H' ?_
  · obtain ⟨n, hn, e⟩ := List.mem_map.mp hy
    subst e
    exact hs n H QX hn F' (hk rfl)
  · have e : ((ns.map V.int).filter fun _ => true).map (fun v => match v with | .int i => V.int (f i) | v => v) = (ns.map f).map V.int := by
      rw [List.filter_eq_self.mpr (fun _ _ => rfl), List.map_map, List.map_map]
      rfl
    rw [e] at F'
    exact F'
/-- .. of ints, with a test -/
theorem lcIK {ns : List Int} {tt : TT} {tel : TE} {vs : List Nat} {σw : L2.St} (f : Int → Int) (keep : Int → Bool) (F : FH H L) (m : Src S L p (ns.map V.int)) (z : ns.length < 16777216) (ew : wipe σ vs = σw)
    (hs : ∀ y H (QX : V → Hp → Prop) (A : Hp → Prop), y ∈ ns → FH H L → (keep y = true → QX (.int (f y)) H) → (keep y = false → A H) → g (.int y) σw H fun σ2 H2 => wipe σ2 vs = σw ∧ tt σ2 H2 fun b H3 => if b = true then tel σ2 H3 QX else A H3)
    (hd : ∀ D H', FH H' ((D, Is (.lst (((ns.filter keep).map f).map V.int))) :: L) → Q (.ref D) H') : LcS S g tt tel vs Q (.ref p) σ H := by
  refine lcFM (xs := ns.map V.int) (fun v => match v with | .int i => .int (f i) | v => v) (fun v => match v with | .int i => keep i | _ => false) F m (by rw [List.length_map]; exact z) ew (fun y H QX A hy F' hk hA => ?_) fun D H' F' => hd D H' ?_
  · obtain ⟨n, hn, e⟩ := List.mem_map.mp hy
    subst e
    exact hs n H QX A hn F' hk hA
  · have e : ((ns.map V.int).filter fun v => match v with | .int i => keep i | _ => false).map (fun v => match v with | .int i => V.int (f i) | v => v) = ((ns.filter keep).map f).map V.int := by
      rw [List.filter_map, List.map_map, List.map_map]
      rfl
    rw [e] at F'
    exact F'
/-- a known list, the turns one by one -/
def lcPut (D : Addr) (z : V) (k : Hp → Prop) (H : Hp) : Prop := ∃ acc, H D = some (.lst acc) ∧ acc.length < sizeLine ∧ k (upd H D (.lst (acc ++ [z])))
theorem x_lcPut {D : Addr} {z : V} {acc : List V} {k : Hp → Prop} {L' : List Ent} (F : FH H L) (pu : Put D (Is (.lst acc)) (Is (.lst (acc ++ [z]))) L L') (sz : acc.length < 16777216) (h : ∀ H', FH H' L' → k H') : lcPut D z k H :=
  ⟨acc, F.get pu.mem, by rw [sizeLine_eq]; exact sz, h _ (F.put pu trivial)⟩
def lcKS (S : Sta) (a : Addr) (u : HO) (g : TG) (tt : TT) (tel : TE) (vs : List Nat) (σw : L2.St) (D : Addr) (Q : VK) : List V → Hp → Prop
  | [], H => Q (.ref D) H
  | x :: xs, H => g x σw H fun σ2 H2 => wipe σ2 vs = σw ∧ tt σ2 H2 fun b H3 => if b = true then tel σ2 H3 fun z H4 => lcPut D z (fun H => RdS S H a u ∧ lcKS S a u g tt tel vs σw D Q xs H) H4 else RdS S H3 a u ∧ lcKS S a u g tt tel vs σw D Q xs H3
theorem lcLU {tt : TT} {tel : TE} {vs : List Nat} {σw : L2.St} (F : FH H L) (m : (p, Is (.lst xs)) ∈ L) (ew : wipe σ vs = σw) (h : ∀ D H', FH H' ((D, Is (.lst [])) :: L) → lcKS S p (.lst xs) g tt tel vs σw D Q xs H') : LcS S g tt tel vs Q (.ref p) σ H := by
  subst ew
  refine ⟨p, xs, rfl, true, .inl (.inl (F.get m)), fun D hD => ⟨fun i H => RdS S H p (.lst xs) ∧ lcKS S p (.lst xs) g tt tel vs (wipe σ vs) D Q (xs.drop i) H, ⟨.inl (.inl ((F.new hD).get (List.mem_cons_of_mem _ m))), by rw [List.drop_zero]; exact h D _ (F.new hD)⟩, fun i H _ q => q.1, fun i y H e q => ?_, fun H q => ?_⟩⟩
  · obtain ⟨_, q⟩ := q
    have hi := (List.getElem?_eq_some_iff.mp e)
    rw [List.drop_eq_getElem_cons hi.1, hi.2] at q
    exact q
  · obtain ⟨_, q⟩ := q
    rw [List.drop_length] at q
    exact q
theorem x_lcKS {a D : Addr} {u : HO} {tt : TT} {tel : TE} {vs : List Nat} {σw : L2.St} (h : g x σw H fun σ2 H2 => wipe σ2 vs = σw ∧ tt σ2 H2 fun b H3 => if b = true then tel σ2 H3 fun z H4 => lcPut D z (fun H => RdS S H a u ∧ lcKS S a u g tt tel vs σw D Q xs H) H4 else RdS S H3 a u ∧ lcKS S a u g tt tel vs σw D Q xs H3) : lcKS S a u g tt tel vs σw D Q (x :: xs) H := h
theorem x_lcKS0 {a D : Addr} {u : HO} {tt : TT} {tel : TE} {vs : List Nat} {σw : L2.St} (h : Q (.ref D) H) : lcKS S a u g tt tel vs σw D Q [] H := h
/-- over a range, the turns one by one -/
def LcR (g : TG) (tt : TT) (tel : TE) (vs : List Nat) (Q : VK) (y : V) (σ : L2.St) (H1 : Hp) : Prop := ∃ j, y = .int j ∧ ((-(2 ^ 62) ≤ (0 : Int) ∧ (0 : Int) < 2 ^ 62 ∧ -(2 ^ 62) ≤ j ∧ j < 2 ^ 62) ∧ ∀ D, H1 D = none → ∃ Pv : Nat → Hp → Prop, Pv 0 (upd H1 D (.lst [])) ∧
    (∀ (i : Nat) H, 0 + (i : Int) < j → Pv i H → g (.int (0 + (i : Int))) (wipe σ vs) H fun σ2 H2 => wipe σ2 vs = wipe σ vs ∧ tt σ2 H2 fun b H3 => if b = true then tel σ2 H3 fun z H4 => ∃ acc, H4 D = some (.lst acc) ∧ acc.length < sizeLine ∧ Pv (i + 1) (upd H4 D (.lst (acc ++ [z]))) else Pv (i + 1) H3) ∧
    ∀ H, Pv (j - 0).toNat H → Q (.ref D) H)
theorem x_lcR {tt : TT} {tel : TE} {vs : List Nat} (h : te σ H fun y H1 => LcR g tt tel vs Q y σ H1) : eLcR none te g tt tel vs σ H Q := h
def lcKR (g : TG) (tt : TT) (tel : TE) (vs : List Nat) (σw : L2.St) (D : Addr) (Q : VK) : List V → Hp → Prop
  | [], H => Q (.ref D) H
  | x :: xs, H => g x σw H fun σ2 H2 => wipe σ2 vs = σw ∧ tt σ2 H2 fun b H3 => if b = true then tel σ2 H3 fun z H4 => lcPut D z (fun H => lcKR g tt tel vs σw D Q xs H) H4 else lcKR g tt tel vs σw D Q xs H3
theorem lcRU {tt : TT} {tel : TE} {vs : List Nat} {σw : L2.St} (n : Nat) (ej : j = (n : Int)) (hn : (n : Int) < 4611686018427387904) (exs : (List.range n).map (fun (i : Nat) => V.int (0 + (i : Int))) = xs) (F : FH H L) (ew : wipe σ vs = σw) (h : ∀ D H', FH H' ((D, Is (.lst [])) :: L) → lcKR g tt tel vs σw D Q xs H') : LcR g tt tel vs Q (.int j) σ H := by
  subst ew ej exs
  have e62 : (2 : Int) ^ 62 = 4611686018427387904 := by decide
  refine ⟨_, rfl, ⟨by rw [e62]; decide, by rw [e62]; decide, by rw [e62]; omega, by rw [e62]; exact hn⟩, fun D hD => ⟨fun i H => lcKR g tt tel vs (wipe σ vs) D Q (((List.range n).map (fun (i : Nat) => V.int (0 + (i : Int)))).drop i) H, by (dsimp only; rw [List.drop_zero]; exact h D _ (F.new hD)), fun i H hi q => ?_, fun H q => ?_⟩⟩
  · dsimp only at q
    have hl : i < ((List.range n).map (fun (i : Nat) => V.int (0 + (i : Int)))).length := by rw [List.length_map, List.length_range]; omega
    rw [List.drop_eq_getElem_cons hl] at q
    rw [List.getElem_map, List.getElem_range] at q
    exact q
  · have e1 : ((n : Int) - 0).toNat = n := by omega
    dsimp only at q
    rw [e1, List.drop_of_length_le (by rw [List.length_map, List.length_range]; exact Nat.le_refl _)] at q
    exact q
theorem x_lcKR {D : Addr} {tt : TT} {tel : TE} {vs : List Nat} {σw : L2.St} (h : g x σw H fun σ2 H2 => wipe σ2 vs = σw ∧ tt σ2 H2 fun b H3 => if b = true then tel σ2 H3 fun z H4 => lcPut D z (fun H => lcKR g tt tel vs σw D Q xs H) H4 else lcKR g tt tel vs σw D Q xs H3) : lcKR g tt tel vs σw D Q (x :: xs) H := h
theorem x_lcKR0 {D : Addr} {tt : TT} {tel : TE} {vs : List Nat} {σw : L2.St} (h : Q (.ref D) H) : lcKR g tt tel vs σw D Q [] H := h
theorem x_listL (F : FH H L) (m : (p, Is (.lst xs)) ∈ L) (h : ∀ r H', H r = none → FH H' ((r, Is (.lst xs)) :: L) → Q (.ref r) H') : rListOf S [.ref p] H Q := ⟨p, xs, rfl, .inl (RdS.of (.inl (F.get m))), fun r hr => h r _ hr (F.new hr)⟩
theorem x_listT (F : FH H L) (m : (p, Is (.tup xs)) ∈ L) (h : ∀ r H', H r = none → FH H' ((r, Is (.lst xs)) :: L) → Q (.ref r) H') : rListOf S [.ref p] H Q := ⟨p, xs, rfl, .inr (RdS.of (.inl (F.get m))), fun r hr => h r _ hr (F.new hr)⟩
theorem x_tupleL (F : FH H L) (m : (p, Is (.lst xs)) ∈ L) (h : ∀ r H', H r = none → FH H' ((r, Is (.tup xs)) :: L) → Q (.ref r) H') : rTupleOf S [.ref p] H Q := ⟨p, xs, rfl, .inl ⟨RdS.of (.inl (F.get m)), fun r hr => h r _ hr (F.new hr)⟩⟩
theorem x_tupleT (F : FH H L) (m : (p, Is (.tup xs)) ∈ L) (h : Q (.ref p) H) : rTupleOf S [.ref p] H Q := ⟨p, xs, rfl, .inr ⟨RdS.of (.inl (F.get m)), h⟩⟩
/-- all are True -/
def AllT : Pr := lift fun o => ∃ bs : List Bool, o = .lst (bs.map V.bl) ∧ bs.all id = true
theorem lcT {tel : TE} {vs : List Nat} {σw : L2.St} (F : FH H L) (m : Src S L p xs) (z : xs.length < 16777216) (ew : wipe σ vs = σw)
    (hs : ∀ y H (QX : V → Hp → Prop), y ∈ xs → FH H L → QX (.bl true) H → g y σw H fun σ2 H2 => wipe σ2 vs = σw ∧ tel σ2 H2 QX)
    (hd : ∀ D H', FH H' ((D, AllT) :: L) → Q (.ref D) H') : LcS S g tYes tel vs Q (.ref p) σ H := by
  refine lcFM (fun _ => .bl true) (fun _ => true) F m z ew (fun y H QX A hy F' hk hA => hs y H QX hy F' (hk rfl)) fun D H' F' => hd D H' (F'.close (φ := fun o => ∃ bs : List Bool, o = .lst (bs.map V.bl) ∧ bs.all id = true) ⟨List.replicate xs.length true, ?_, ?_⟩ .here)
  · rw [List.filter_eq_self.mpr (fun _ _ => rfl)]
    congr 1
    clear m z hs F'
    induction xs with
    | nil => rfl
    | cons x xs ih => rw [List.map_cons, List.length_cons, List.replicate_succ, List.map_cons, ih]
  · generalize xs.length = n
    induction n with
    | zero => rfl
    | succ n ih => rw [List.replicate_succ, List.all_cons, ih]; rfl
theorem x_allT (F : FH H L) (m : (p, AllT) ∈ L) (h : Q (.bl true) H) : rAll S [.ref p] H Q := by
  obtain ⟨o, ho, bs, e, hb⟩ := F.is m
  subst e
  exact ⟨p, bs, rfl, .inl (.inl ho), by rw [hb]; exact h⟩
theorem Src.cons {L : List Ent} {x : Ent} (m : Src S L p xs) : Src S (x :: L) p xs := by
  cases m with
  | is m => exact .is (List.mem_cons_of_mem _ m)
  | rd m => exact .rd (List.mem_cons_of_mem _ m)
  | st m => exact .st m
theorem cutV_take {n : Nat} (h : xs.length ≤ n) : cutV xs none (some (n : Int)) = xs := by
  unfold cutV
  rw [HT.sIx_none, HT.sIx_nat, List.drop_zero, Nat.sub_zero, Nat.min_eq_right h, List.take_length]
/-! fields -/
theorem look_hit {f : Str} {v : V} {t : List (Str × V)} : List.lookup f ((f, v) :: t) = some v := by simp [List.lookup]
theorem look_nil {f : Str} : List.lookup f ([] : List (Str × V)) = none := rfl
theorem look_miss {f g : Str} {v : V} {r : Option V} {t : List (Str × V)} (h : ¬ f = g) (e : List.lookup f t = r) : List.lookup f ((g, v) :: t) = r := by
  have h' : (f == g) = false := by simpa using h
  simp only [List.lookup, h']
  exact e
theorem put_nil {f : Str} {v : V} : putF f v [] = [(f, v)] := rfl
theorem put_hit {f : Str} {v w : V} {t : List (Str × V)} : putF f v ((f, w) :: t) = (f, v) :: t := by
  show (if f = f then _ else _) = _
  rw [if_pos rfl]
theorem put_miss {f g : Str} {v w : V} {t t' : List (Str × V)} (h : ¬ g = f) (e : putF f v t = t') : putF f v ((g, w) :: t) = (g, w) :: t' := by
  show (if g = f then _ else _) = _
  rw [if_neg h, e]
/-! == of flat lists and tuples -/
def flatOk : V → Bool
  | .non => true
  | .bl _ => true
  | .int _ => true
  | .str s => PyData.canLay0 (.str s)
  | _ => false
def flatD : V → PyData
  | .bl b => .bool b
  | .int i => .int i
  | .str s => .str s
  | _ => .none
def eqvF (xs ys : List V) : Bool := PyData.eqvAll (xs.map flatD) (ys.map flatD)
theorem dp_flat {v : V} (h : flatOk v = true) : DpS S H v (flatD v) := by
  cases v with
  | non => exact .non
  | bl b => exact .bl b
  | int i => exact .int i
  | str s => exact .str s
  | _ => cases h
theorem dps_flat : ∀ {xs : List V}, xs.all flatOk = true → DpSs S H xs (xs.map flatD)
  | [], _ => .nil
  | x :: xs, h => by
    rw [List.all_cons, Bool.and_eq_true] at h
    exact .cons (dp_flat h.1) (dps_flat h.2)
theorem lay_flat : ∀ {xs : List V}, xs.all flatOk = true → PyData.canLayAll0 (xs.map flatD) = true ∧ PyData.depthAll (xs.map flatD) = 0
  | [], _ => ⟨rfl, rfl⟩
  | x :: xs, h => by
    rw [List.all_cons, Bool.and_eq_true] at h
    obtain ⟨h1, h2⟩ := lay_flat h.2
    rw [List.map_cons]
    have e : PyData.canLay0 (flatD x) = true ∧ PyData.depth (flatD x) = 0 := by
      cases x with
      | non => exact ⟨rfl, rfl⟩
      | bl b => exact ⟨rfl, rfl⟩
      | int i => exact ⟨rfl, rfl⟩
      | str s => exact ⟨h.1, rfl⟩
      | _ => cases h.1
    constructor
    · rw [PyData.canLayAll0, e.1, h1]; rfl
    · rw [PyData.depthAll, e.2, h2]; rfl
theorem shaped_flatL {xs : List V} (h : xs.all flatOk = true) : SeqAt.shaped (.list (xs.map flatD)) = true := by
  obtain ⟨h1, h2⟩ := lay_flat h
  unfold SeqAt.shaped
  rw [PyData.canLay0, h1, PyData.depth, h2]
  rfl
theorem shaped_flatT {xs : List V} (h : xs.all flatOk = true) : SeqAt.shaped (.tuple (xs.map flatD)) = true := by
  obtain ⟨h1, h2⟩ := lay_flat h
  unfold SeqAt.shaped
  rw [PyData.canLay0, h1, PyData.depth, h2]
  rfl
theorem eqv_nil : eqvF [] [] = true := rfl
theorem eqv_nc {x : V} {xs : List V} : eqvF [] (x :: xs) = false := rfl
theorem eqv_cn {x : V} {xs : List V} : eqvF (x :: xs) [] = false := rfl
theorem eqv_int {i j : Int} {xs ys : List V} : eqvF (.int i :: xs) (.int j :: ys) = (decide (i = j) && eqvF xs ys) := by
  show (i == j && _) = _
  rfl
theorem eqv_bl {i j : Bool} {xs ys : List V} : eqvF (.bl i :: xs) (.bl j :: ys) = (decide (i = j) && eqvF xs ys) := by
  show (i == j && _) = _
  cases i <;> cases j <;> rfl
theorem eqv_str {i j : Str} {xs ys : List V} : eqvF (.str i :: xs) (.str j :: ys) = (decide (i = j) && eqvF xs ys) := by
  show (i == j && _) = _
  congr 1
theorem eqv_ints : ∀ {ns ms : List Int}, eqvF (ns.map V.int) (ms.map V.int) = decide (ns = ms)
  | [], [] => rfl
  | [], _ :: _ => rfl
  | _ :: _, [] => rfl
  | n :: ns, m :: ms => by
    rw [List.map_cons, List.map_cons, eqv_int, eqv_ints, Bool.eq_iff_iff]
    simp only [Bool.and_eq_true, decide_eq_true_eq, List.cons.injEq]
theorem flat_ints : ∀ {ns : List Int}, (ns.map V.int).all flatOk = true
  | [] => rfl
  | _ :: ns => by rw [List.map_cons, List.all_cons, flat_ints]; rfl
theorem x_eqPL (F : FH H L) {q : Addr} {ys : List V} {b : Bool} (m : (p, Is (.lst xs)) ∈ L) (n : (q, Is (.lst ys)) ∈ L) (f1 : xs.all flatOk = true) (f2 : ys.all flatOk = true) (e : eqvF xs ys = b) (h : Q (.bl b) H) : rEqP S (.ref p) (.ref q) H Q :=
  .inr ⟨_, _, .lst (.inl (.inl (F.get m))) (dps_flat f1), .lst (.inl (.inl (F.get n))) (dps_flat f2), shaped_flatL f1, shaped_flatL f2, by
    show Q (.bl (eqvF xs ys)) H
    rw [e]; exact h⟩
theorem x_nePL (F : FH H L) {q : Addr} {ys : List V} {b : Bool} (m : (p, Is (.lst xs)) ∈ L) (n : (q, Is (.lst ys)) ∈ L) (f1 : xs.all flatOk = true) (f2 : ys.all flatOk = true) (e : eqvF xs ys = b) (h : Q (.bl (!b)) H) : rNeP S (.ref p) (.ref q) H Q :=
  .inr ⟨_, _, .lst (.inl (.inl (F.get m))) (dps_flat f1), .lst (.inl (.inl (F.get n))) (dps_flat f2), shaped_flatL f1, shaped_flatL f2, by
    show Q (.bl (!eqvF xs ys)) H
    rw [e]; exact h⟩
theorem x_eqPT (F : FH H L) {q : Addr} {ys : List V} {b : Bool} (m : (p, Is (.tup xs)) ∈ L) (n : (q, Is (.tup ys)) ∈ L) (f1 : xs.all flatOk = true) (f2 : ys.all flatOk = true) (e : eqvF xs ys = b) (h : Q (.bl b) H) : rEqP S (.ref p) (.ref q) H Q :=
  .inr ⟨_, _, .tup (.inl (.inl (F.get m))) (dps_flat f1), .tup (.inl (.inl (F.get n))) (dps_flat f2), shaped_flatT f1, shaped_flatT f2, by
    show Q (.bl (eqvF xs ys)) H
    rw [e]; exact h⟩
theorem x_nePT (F : FH H L) {q : Addr} {ys : List V} {b : Bool} (m : (p, Is (.tup xs)) ∈ L) (n : (q, Is (.tup ys)) ∈ L) (f1 : xs.all flatOk = true) (f2 : ys.all flatOk = true) (e : eqvF xs ys = b) (h : Q (.bl (!b)) H) : rNeP S (.ref p) (.ref q) H Q :=
  .inr ⟨_, _, .tup (.inl (.inl (F.get m))) (dps_flat f1), .tup (.inl (.inl (F.get n))) (dps_flat f2), shaped_flatT f1, shaped_flatT f2, by
    show Q (.bl (!eqvF xs ys)) H
    rw [e]; exact h⟩
theorem eqv_strS {s : Str} {xs ys : List V} : eqvF (.str s :: xs) (.str s :: ys) = eqvF xs ys := by rw [eqv_str, decide_eq_true rfl, Bool.true_and]
theorem eqv_strD {s t : Str} {xs ys : List V} (h : s ≠ t) : eqvF (.str s :: xs) (.str t :: ys) = false := by rw [eqv_str, decide_eq_false h, Bool.false_and]
theorem flat_cons {x : V} {xs : List V} (h : flatOk x = true) (t : xs.all flatOk = true) : (x :: xs).all flatOk = true := by rw [List.all_cons, h, t]; rfl
theorem x_eqPSs {a : Str} (h : Q (.bl true) H) : rEqP S (.str a) (.str a) H Q := .inl (x_eqS (by rw [decide_eq_true rfl]; exact h))
theorem x_nePSs {a : Str} (h : Q (.bl false) H) : rNeP S (.str a) (.str a) H Q := .inl (x_neS (by rw [decide_eq_false (fun z => z rfl)]; exact h))
theorem x_eqPSd {a b : Str} (ne : a ≠ b) (h : Q (.bl false) H) : rEqP S (.str a) (.str b) H Q := .inl (x_eqS (by rw [decide_eq_false ne]; exact h))
theorem x_nePSd {a b : Str} (ne : a ≠ b) (h : Q (.bl true) H) : rNeP S (.str a) (.str b) H Q := .inl (x_neS (by rw [decide_eq_true ne]; exact h))
theorem eqv_nn {xs ys : List V} : eqvF (.non :: xs) (.non :: ys) = eqvF xs ys := by show (true && _) = _; rw [Bool.true_and]; rfl
theorem eqv_ni {i : Int} {xs ys : List V} : eqvF (.non :: xs) (.int i :: ys) = false := rfl
theorem eqv_in {i : Int} {xs ys : List V} : eqvF (.int i :: xs) (.non :: ys) = false := rfl
theorem eqv_ns {s : Str} {xs ys : List V} : eqvF (.non :: xs) (.str s :: ys) = false := rfl
theorem eqv_sn {s : Str} {xs ys : List V} : eqvF (.str s :: xs) (.non :: ys) = false := rfl
theorem eqv_si {s : Str} {i : Int} {xs ys : List V} : eqvF (.str s :: xs) (.int i :: ys) = false := rfl
theorem eqv_is {s : Str} {i : Int} {xs ys : List V} : eqvF (.int i :: xs) (.str s :: ys) = false := rfl
theorem sc_of {x y : V} {b : Bool} (s : scal x y = true) (e : decide (x = y) = b) (h : Q (.bl b) H) : rEqP S x y H Q := .inl ⟨s, by rw [e]; exact h⟩
theorem sn_of {x y : V} {b : Bool} (s : scal x y = true) (e : decide (x = y) = b) (h : Q (.bl (!b)) H) : rNeP S x y H Q := .inl ⟨s, by rw [e]; exact h⟩
theorem x_eqP_nn (h : Q (.bl true) H) : rEqP S (.non) (.non) H Q := sc_of rfl (decide_eq_true rfl) h
theorem x_neP_nn (h : Q (.bl (!true)) H) : rNeP S (.non) (.non) H Q := sn_of rfl (decide_eq_true rfl) h
theorem x_eqP_ni (h : Q (.bl false) H) : rEqP S (.non) (.int i) H Q := sc_of rfl (decide_eq_false (by simp)) h
theorem x_neP_ni (h : Q (.bl (!false)) H) : rNeP S (.non) (.int i) H Q := sn_of rfl (decide_eq_false (by simp)) h
theorem x_eqP_in (h : Q (.bl false) H) : rEqP S (.int i) (.non) H Q := sc_of rfl (decide_eq_false (by simp)) h
theorem x_neP_in (h : Q (.bl (!false)) H) : rNeP S (.int i) (.non) H Q := sn_of rfl (decide_eq_false (by simp)) h
theorem x_eqP_nb (h : Q (.bl false) H) : rEqP S (.non) (.bl b) H Q := sc_of rfl (decide_eq_false (by simp)) h
theorem x_neP_nb (h : Q (.bl (!false)) H) : rNeP S (.non) (.bl b) H Q := sn_of rfl (decide_eq_false (by simp)) h
theorem x_eqP_bn (h : Q (.bl false) H) : rEqP S (.bl b) (.non) H Q := sc_of rfl (decide_eq_false (by simp)) h
theorem x_neP_bn (h : Q (.bl (!false)) H) : rNeP S (.bl b) (.non) H Q := sn_of rfl (decide_eq_false (by simp)) h
theorem x_eqP_ns {z : Str} (h : Q (.bl false) H) : rEqP S (.non) (.str z) H Q := sc_of rfl (decide_eq_false (by simp)) h
theorem x_neP_ns {z : Str} (h : Q (.bl (!false)) H) : rNeP S (.non) (.str z) H Q := sn_of rfl (decide_eq_false (by simp)) h
theorem x_eqP_sn {z : Str} (h : Q (.bl false) H) : rEqP S (.str z) (.non) H Q := sc_of rfl (decide_eq_false (by simp)) h
theorem x_neP_sn {z : Str} (h : Q (.bl (!false)) H) : rNeP S (.str z) (.non) H Q := sn_of rfl (decide_eq_false (by simp)) h
theorem x_eqP_is {z : Str} (h : Q (.bl false) H) : rEqP S (.int i) (.str z) H Q := sc_of rfl (decide_eq_false (by simp)) h
theorem x_neP_is {z : Str} (h : Q (.bl (!false)) H) : rNeP S (.int i) (.str z) H Q := sn_of rfl (decide_eq_false (by simp)) h
theorem x_eqP_si {z : Str} (h : Q (.bl false) H) : rEqP S (.str z) (.int i) H Q := sc_of rfl (decide_eq_false (by simp)) h
theorem x_neP_si {z : Str} (h : Q (.bl (!false)) H) : rNeP S (.str z) (.int i) H Q := sn_of rfl (decide_eq_false (by simp)) h
theorem x_eqP_bs {z : Str} (h : Q (.bl false) H) : rEqP S (.bl b) (.str z) H Q := sc_of rfl (decide_eq_false (by simp)) h
theorem x_neP_bs {z : Str} (h : Q (.bl (!false)) H) : rNeP S (.bl b) (.str z) H Q := sn_of rfl (decide_eq_false (by simp)) h
theorem x_eqP_sb {z : Str} (h : Q (.bl false) H) : rEqP S (.str z) (.bl b) H Q := sc_of rfl (decide_eq_false (by simp)) h
theorem x_neP_sb {z : Str} (h : Q (.bl (!false)) H) : rNeP S (.str z) (.bl b) H Q := sn_of rfl (decide_eq_false (by simp)) h
theorem x_isr_list_int (F : FH H L) (m : (p, Is (.lst xs)) ∈ L) (h : Q (.bl false) H) : rIsI [.ref p, .ty "int"] H Q := isi_of (.lst (.inl (F.get m))) kit_list_int rfl h
theorem x_isr_list_bool (F : FH H L) (m : (p, Is (.lst xs)) ∈ L) (h : Q (.bl false) H) : rIsI [.ref p, .ty "bool"] H Q := isi_of (.lst (.inl (F.get m))) kit_list_bool rfl h
theorem x_isr_list_str (F : FH H L) (m : (p, Is (.lst xs)) ∈ L) (h : Q (.bl false) H) : rIsI [.ref p, .ty "str"] H Q := isi_of (.lst (.inl (F.get m))) kit_list_str rfl h
theorem x_isr_list_list (F : FH H L) (m : (p, Is (.lst xs)) ∈ L) (h : Q (.bl true) H) : rIsI [.ref p, .ty "list"] H Q := isi_of (.lst (.inl (F.get m))) kit_list_list rfl h
theorem x_isr_list_tuple (F : FH H L) (m : (p, Is (.lst xs)) ∈ L) (h : Q (.bl false) H) : rIsI [.ref p, .ty "tuple"] H Q := isi_of (.lst (.inl (F.get m))) kit_list_tuple rfl h
theorem x_isr_list_dict (F : FH H L) (m : (p, Is (.lst xs)) ∈ L) (h : Q (.bl false) H) : rIsI [.ref p, .ty "dict"] H Q := isi_of (.lst (.inl (F.get m))) kit_list_dict rfl h
theorem x_isr_tuple_int (F : FH H L) (m : (p, Is (.tup xs)) ∈ L) (h : Q (.bl false) H) : rIsI [.ref p, .ty "int"] H Q := isi_of (.tup (.inl (F.get m))) kit_tuple_int rfl h
theorem x_isr_tuple_bool (F : FH H L) (m : (p, Is (.tup xs)) ∈ L) (h : Q (.bl false) H) : rIsI [.ref p, .ty "bool"] H Q := isi_of (.tup (.inl (F.get m))) kit_tuple_bool rfl h
theorem x_isr_tuple_str (F : FH H L) (m : (p, Is (.tup xs)) ∈ L) (h : Q (.bl false) H) : rIsI [.ref p, .ty "str"] H Q := isi_of (.tup (.inl (F.get m))) kit_tuple_str rfl h
theorem x_isr_tuple_list (F : FH H L) (m : (p, Is (.tup xs)) ∈ L) (h : Q (.bl false) H) : rIsI [.ref p, .ty "list"] H Q := isi_of (.tup (.inl (F.get m))) kit_tuple_list rfl h
theorem x_isr_tuple_tuple (F : FH H L) (m : (p, Is (.tup xs)) ∈ L) (h : Q (.bl true) H) : rIsI [.ref p, .ty "tuple"] H Q := isi_of (.tup (.inl (F.get m))) kit_tuple_tuple rfl h
theorem x_isr_tuple_dict (F : FH H L) (m : (p, Is (.tup xs)) ∈ L) (h : Q (.bl false) H) : rIsI [.ref p, .ty "dict"] H Q := isi_of (.tup (.inl (F.get m))) kit_tuple_dict rfl h
theorem is_eqP (h : rEqP S x y H Q) : rEqP S x y H Q := h
theorem is_neP (h : rNeP S x y H Q) : rNeP S x y H Q := h
theorem x_eqPI (h : Q (.bl (decide (i = j))) H) : rEqP S (.int i) (.int j) H Q := .inl (x_eqI h)
theorem x_nePI (h : Q (.bl (decide (i ≠ j))) H) : rNeP S (.int i) (.int j) H Q := .inl (x_neI h)
theorem x_eqPB {a b : Bool} (h : Q (.bl (decide (a = b))) H) : rEqP S (.bl a) (.bl b) H Q := .inl (x_eqB h)
theorem x_nePB {a b : Bool} (h : Q (.bl (decide (a ≠ b))) H) : rNeP S (.bl a) (.bl b) H Q := .inl (x_neB h)
theorem x_eqPS {a b : Str} (h : Q (.bl (decide (a = b))) H) : rEqP S (.str a) (.str b) H Q := .inl (x_eqS h)
theorem x_nePS {a b : Str} (h : Q (.bl (decide (a ≠ b))) H) : rNeP S (.str a) (.str b) H Q := .inl (x_neS h)
/-! small built-ins -/
theorem x_abs (h : Q (.int (if i < 0 then -i else i)) H) : rAbs [.int i] H Q := ⟨i, rfl, h⟩
theorem x_inL {bb : Bool} (F : FH H L) (m : (p, Is (.lst xs)) ∈ L) (f : flatV x = true) (fs : xs.all flatV = true) (e : inV x xs = bb) (h : Q (.bl bb) H) : rInA S false x (.ref p) H Q := .inl ⟨p, xs, rfl, .inl (.inl (.inl (F.get m))), f, fs, by rw [e]; exact h⟩
theorem x_inT {bb : Bool} (F : FH H L) (m : (p, Is (.tup xs)) ∈ L) (f : flatV x = true) (fs : xs.all flatV = true) (e : inV x xs = bb) (h : Q (.bl bb) H) : rInA S false x (.ref p) H Q := .inl ⟨p, xs, rfl, .inr (.inl (.inl (F.get m))), f, fs, by rw [e]; exact h⟩
theorem x_ninL {bb : Bool} (F : FH H L) (m : (p, Is (.lst xs)) ∈ L) (f : flatV x = true) (fs : xs.all flatV = true) (e : inV x xs = bb) (h : Q (.bl (!bb)) H) : rInA S true x (.ref p) H Q := .inl ⟨p, xs, rfl, .inl (.inl (.inl (F.get m))), f, fs, by rw [e]; exact h⟩
theorem x_ninT {bb : Bool} (F : FH H L) (m : (p, Is (.tup xs)) ∈ L) (f : flatV x = true) (fs : xs.all flatV = true) (e : inV x xs = bb) (h : Q (.bl (!bb)) H) : rInA S true x (.ref p) H Q := .inl ⟨p, xs, rfl, .inr (.inl (.inl (F.get m))), f, fs, by rw [e]; exact h⟩
theorem x_min3 {k : Int} (h : Q (.int (min (min i j) k)) H) : rMin3 [.int i, .int j, .int k] H Q := ⟨i, j, k, rfl, h⟩
theorem x_min2 (h : Q (.int (min i j)) H) : rMin2 [.int i, .int j] H Q := ⟨i, j, rfl, by rw [show (if j < i then j else i) = min i j by omega]; exact h⟩
theorem x_max2 (h : Q (.int (max i j)) H) : rMax2 [.int i, .int j] H Q := ⟨i, j, rfl, by rw [show (if j > i then j else i) = max i j by omega]; exact h⟩
theorem x_sumL {ns : List Int} (F : FH H L) (m : (p, Is (.lst (ns.map V.int))) ∈ L) (h : Q (.int ns.sum) H) : rSum S [.ref p] H Q := ⟨p, ns, rfl, .inl (.inl (F.get m)), h⟩
theorem x_allL {bs : List Bool} (F : FH H L) (m : (p, Is (.lst xs)) ∈ L) (e : xs = bs.map V.bl) (h : Q (.bl (bs.all id)) H) : rAll S [.ref p] H Q := ⟨p, bs, rfl, .inl (.inl (by rw [← e]; exact F.get m)), h⟩
theorem x_cat (F : FH H L) {q : Addr} {ys : List V} (m : (p, Is (.lst xs)) ∈ L) (n : (q, Is (.lst ys)) ∈ L) (z : (xs ++ ys).length ≤ sizeLine) (h : ∀ r H', H r = none → FH H' ((r, Is (.lst (xs ++ ys))) :: L) → Q (.ref r) H') : rAdd (.ref p) (.ref q) H Q :=
  .inr (.inr ⟨p, q, xs, ys, rfl, rfl, F.get m, F.get n, by rw [← List.length_append]; exact z, fun r hr => h r _ hr (F.new hr)⟩)
theorem x_prop {C : Addr} (h : te σ H fun x H1 => ∃ a dx fs, x = .ref a ∧ H1 a = some (.ins C dx fs) ∧ sp [.ref a] H1 Q E0) : eProp C sp te σ H Q := h
theorem x_propG {C : Addr} {B : Addr → Prop} (F : FH H L) (m : (p, Is (.ins C dx fs)) ∈ L) (h : B p) : ∃ a dx fs, V.ref p = .ref a ∧ H a = some (.ins C dx fs) ∧ B a := ⟨p, dx, fs, rfl, F.get m, h⟩
theorem x_augF {C : Addr} {rd : V → V → Hp → VK → Prop} (h : te σ H fun x H1 => ∃ a dx fs v, x = .ref a ∧ H1 a = some (.ins C dx fs) ∧ fs.lookup f = some v ∧
  tb σ H1 fun y H2 => rd v y H2 fun z H3 => ∃ dx' fs', H3 a = some (.ins C dx' fs') ∧ fs'.length < 1000 ∧ nx σ (upd H3 a (.ins C dx' (putF f z fs')))) : sAugF C f te tb rd ⟨nx, rt, bk, ct⟩ σ H := h
theorem x_augFG {C : Addr} {QAV : Addr → V → Prop} (F : FH H L) (m : (p, Is (.ins C dx fs)) ∈ L) (l : fs.lookup f = some v) (h : QAV p v) : ∃ a dx fs v, V.ref p = .ref a ∧ H a = some (.ins C dx fs) ∧ fs.lookup f = some v ∧ QAV a v := ⟨p, dx, fs, v, rfl, F.get m, l, h⟩
theorem x_augFS {C : Addr} {z : V} {QH : Hp → Prop} {fs' : List (Str × V)} (F : FH H L) (m : (p, Is (.ins C dx fs)) ∈ L) (hl : fs.length < 1000) (e : putF f z fs = fs') (pu : Put p (Is (.ins C dx fs)) (Is (.ins C dx fs')) L L') (h : ∀ H', FH H' L' → QH H') : ∃ dx' fs', H p = some (.ins C dx' fs') ∧ fs'.length < 1000 ∧ QH (upd H p (.ins C dx' (putF f z fs'))) :=
  ⟨dx, fs, F.get m, hl, by rw [e]; exact h _ (F.put pu trivial)⟩
theorem x_inAdd (h : Q (.int (i + j)) H) : rInAdd (.int i) (.int j) H Q := ⟨i, j, rfl, rfl, h⟩
theorem x_inSub (h : Q (.int (i - j)) H) : rInSub (.int i) (.int j) H Q := ⟨i, j, rfl, rfl, h⟩
/-! objects of several classes -/
variable {Cs : List Addr} {ls : List (Addr × Sp)}
theorem x_mD {ES : L2.St → XK} {m : Str} (h : ta σ H fun x H1 => ∃ a C dx fs sp, x = .ref a ∧ H1 a = some (.ins C dx fs) ∧ (C, sp) ∈ ls ∧ fs.lookup m = none ∧ tl σ H1 fun vs H2 => sp (x :: vs) H2 Q (ES σ)) : tMD ls m ES ta tl σ H Q := h
theorem x_mDG {C : Addr} {m : Str} {B : Sp → Prop} {sp1 : Sp} (F : FH H L) (hm : (p, Is (.ins C dx fs)) ∈ L) (mt : (C, sp1) ∈ ls) (l : fs.lookup m = none) (h : B sp1) : ∃ a C dx fs sp, V.ref p = .ref a ∧ H a = some (.ins C dx fs) ∧ (C, sp) ∈ ls ∧ fs.lookup m = none ∧ B sp := ⟨p, C, dx, fs, sp1, rfl, F.get hm, mt, l, h⟩
theorem x_fldD (h : te σ H fun x H1 => ∃ a C dx fs v, x = .ref a ∧ H1 a = some (.ins C dx fs) ∧ C ∈ Cs ∧ fs.lookup f = some v ∧ Q v H1) : eFldD Cs f te σ H Q := h
theorem x_fldDG {C : Addr} {QV : V → Prop} (F : FH H L) (m : (p, Is (.ins C dx fs)) ∈ L) (mt : C ∈ Cs) (l : fs.lookup f = some v) (h : QV v) : ∃ a C dx fs v, V.ref p = .ref a ∧ H a = some (.ins C dx fs) ∧ C ∈ Cs ∧ fs.lookup f = some v ∧ QV v := ⟨p, C, dx, fs, v, rfl, F.get m, mt, l, h⟩
theorem x_setFD (h : tb σ H fun y H1 => te σ H1 fun x H2 => ∃ a C dx fs, x = .ref a ∧ H2 a = some (.ins C dx fs) ∧ C ∈ Cs ∧ fs.length < 1000 ∧ nx σ (upd H2 a (.ins C dx (putF f y fs)))) : sSetFD Cs f te tb ⟨nx, rt, bk, ct⟩ σ H := h
theorem x_setFDG {C : Addr} {QH : Hp → Prop} {fs' : List (Str × V)} (F : FH H L) (m : (p, Is (.ins C dx fs)) ∈ L) (mt : C ∈ Cs) (z : fs.length < 1000) (e : putF f y fs = fs') (pu : Put p (Is (.ins C dx fs)) (Is (.ins C dx fs')) L L') (h : ∀ H', FH H' L' → QH H') :
    ∃ a C dx fs, V.ref p = .ref a ∧ H a = some (.ins C dx fs) ∧ C ∈ Cs ∧ fs.length < 1000 ∧ QH (upd H a (.ins C dx (putF f y fs))) := ⟨p, C, dx, fs, rfl, F.get m, mt, z, by rw [e]; exact h _ (F.put pu trivial)⟩
theorem x_augFD {rd : V → V → Hp → VK → Prop} (h : te σ H fun x H1 => ∃ a C dx fs v, x = .ref a ∧ H1 a = some (.ins C dx fs) ∧ C ∈ Cs ∧ fs.lookup f = some v ∧
  tb σ H1 fun y H2 => rd v y H2 fun z H3 => ∃ dx' fs', H3 a = some (.ins C dx' fs') ∧ fs'.length < 1000 ∧ nx σ (upd H3 a (.ins C dx' (putF f z fs')))) : sAugFD Cs f te tb rd ⟨nx, rt, bk, ct⟩ σ H := h
theorem x_augFDG {C : Addr} {QAV : Addr → Addr → V → Prop} (F : FH H L) (m : (p, Is (.ins C dx fs)) ∈ L) (mt : C ∈ Cs) (l : fs.lookup f = some v) (h : QAV p C v) : ∃ a C dx fs v, V.ref p = .ref a ∧ H a = some (.ins C dx fs) ∧ C ∈ Cs ∧ fs.lookup f = some v ∧ QAV a C v := ⟨p, C, dx, fs, v, rfl, F.get m, mt, l, h⟩
theorem x_propD (h : te σ H fun x H1 => ∃ a C dx fs sp, x = .ref a ∧ H1 a = some (.ins C dx fs) ∧ (C, sp) ∈ ls ∧ sp [.ref a] H1 Q E0) : ePropD ls te σ H Q := h
theorem x_propDG {C : Addr} {sp1 : Sp} {B : Addr → Sp → Prop} (F : FH H L) (m : (p, Is (.ins C dx fs)) ∈ L) (mt : (C, sp1) ∈ ls) (h : B p sp1) : ∃ a C dx fs sp, V.ref p = .ref a ∧ H a = some (.ins C dx fs) ∧ (C, sp) ∈ ls ∧ B a sp := ⟨p, C, dx, fs, sp1, rfl, F.get m, mt, h⟩
theorem x_supM {C : Addr} {σ : L2.St} (F : FH H L) (m : (p, Is (.ins C dx fs)) ∈ L) (mt : C ∈ Cs) (h : tl (some (.ref p) :: σ) H fun vs H1 => sp (.ref p :: vs) H1 Q E) : tSupM Cs sp E tl (some (.ref p) :: σ) H Q := ⟨p, C, dx, fs, rfl, F.get m, mt, h⟩
theorem x_augSub {to ti : TE} {tg : V → V → Hp → VK → Prop} {tp : TIp} {ts : TSet} (h : to σ H fun o H1 => ti σ H1 fun i H2 => tg o i H2 fun x H3 => te σ H3 fun y H4 => tp x y H4 fun z H5 => ts o i z H5 fun H6 => nx σ H6) : tAugS to ti te tg tp ts ⟨nx, rt, bk, ct⟩ σ H := h
theorem x_getL (F : FH H L) (m : (p, Is (.lst xs)) ∈ L) (a : atI xs i = some v) (h : Q v H) : rGetL (.ref p) (.int i) H Q := ⟨p, xs, i, v, rfl, rfl, F.get m, a, h⟩
def KmakeD (C : Addr) (sp : Sp) (vs : List V) (H1 : Hp) (Q : VK) (E : XK) : Prop := ∀ x dx, H1 x = none → H1 dx = none → dx ≠ x → sp (.ref x :: vs) (upd (upd H1 dx (.own x)) x (.ins C dx [])) (fun v H2 => v = .non ∧ Q (.ref x) H2) E
theorem x_makeD {C : Addr} {d : V} {ds : List V} (h : tl σ H fun vs H1 => KmakeD C sp (vs ++ d :: ds) H1 Q E) : tMake C sp (d :: ds) E tl σ H Q := h
theorem app0 {α : Type} {ws : List α} : [] ++ ws = ws := rfl
theorem app1 {α : Type} {x : α} {ws : List α} : [x] ++ ws = x :: ws := rfl
theorem app2 {α : Type} {x y : α} {ws : List α} : [x, y] ++ ws = x :: y :: ws := rfl
theorem app3 {α : Type} {x y z : α} {ws : List α} : [x, y, z] ++ ws = x :: y :: z :: ws := rfl
theorem x_makeDG {C : Addr} {vs ws : List V} (F : FH H L) (ap : vs = ws) (h : ∀ x dx H', FH H' ((x, Is (.ins C dx [])) :: L) → sp (.ref x :: ws) H' (fun v H2 => v = .non ∧ Q (.ref x) H2) E) :
    KmakeD C sp vs H Q E := fun x dx hx hd ne => by
  rw [ap]
  exact h x dx _ ((F.other hd).new (by rw [upd_ne (Ne.symm ne)]; exact hx))
/-! errors -/
def KmkC (C : Addr) (fs : List Str) (E : XK) (vs : List V) (H1 : Hp) : Prop := vs.length = fs.length ∧ ∀ d, H1 d = none → E (.ref C) (some d) (upd H1 d (.xd (exFs fs vs)))
theorem x_raise {C : Addr} {fs : List Str} {D : Ends} (h : tl σ H fun vs H1 => KmkC C fs E vs H1) : sRaise E (tMkC C fs tl) D σ H := h
theorem x_raiseS {C : Addr} {fs : List Str} {D : Ends} {W : WX} (h : tl σ H fun vs H1 => KmkC C fs (WE W σ) vs H1) : sRaiseS W (tMkC C fs tl) D σ H := h
theorem x_mkC1 {C : Addr} {f : Str} (F : FH H L) (h : ∀ d H', FH H' ((d, Is (.xd [(f, v)])) :: L) → E (.ref C) (some d) H') : KmkC C [f] E [v] H := ⟨rfl, fun d hd => h d _ (F.new hd)⟩
theorem x_mkC2 {C : Addr} {f g : Str} {w : V} (F : FH H L) (h : ∀ d H', FH H' ((d, Is (.xd [(g, w), (f, v)])) :: L) → E (.ref C) (some d) H') : KmkC C [f, g] E [v, w] H := ⟨rfl, fun d hd => h d _ (F.new hd)⟩
theorem x_try {tab : List (Value × Nat)} {cl : List Sui} {tw : WX → TS} (h : tw (wT tab cl ⟨nx, rt, bk, ct⟩) ⟨nx, rt, bk, ct⟩ σ H) : sTry tab cl tw ⟨nx, rt, bk, ct⟩ σ H := h
theorem x_cS {ES : L2.St → XK} (h : tl σ H fun vs H1 => sp vs H1 Q (ES σ)) : tCS sp ES tl σ H Q := h
theorem x_mS {ES : L2.St → XK} {m : Str} (h : ta σ H fun x H1 => ∃ a dx fs, x = .ref a ∧ H1 a = some (.ins C dx fs) ∧ fs.lookup m = none ∧ tl σ H1 fun vs H2 => sp (x :: vs) H2 Q (ES σ)) : tMS C m sp ES ta tl σ H Q := h
def KnewS (C : Addr) (sp : Sp) (vs : List V) (H1 : Hp) (Q : VK) (E : XK) : Prop := ∀ x dx, H1 x = none → H1 dx = none → dx ≠ x → sp (.ref x :: vs) (upd (upd H1 dx (.own x)) x (.ins C dx [])) (fun v H2 => v = .non ∧ Q (.ref x) H2) E
theorem x_newS {ES : L2.St → XK} (h : tl σ H fun vs H1 => KnewS C sp vs H1 Q (ES σ)) : tNewS C sp ES tl σ H Q := h
theorem x_newSG {C : Addr} {vs : List V} (F : FH H L) (h : ∀ x dx H', FH H' ((x, Is (.ins C dx [])) :: L) → sp (.ref x :: vs) H' (fun v H2 => v = .non ∧ Q (.ref x) H2) E) : KnewS C sp vs H Q E := fun x dx hx hd ne =>
  h x dx _ ((F.other hd).new (by rw [upd_ne (Ne.symm ne)]; exact hx))
def gDel (i : Nat) (σ : L2.St) (H : Hp) (k : K0) : Prop := k (σ.set i none) H
theorem is_d {n : Nat} {k : K0} (h : gDel n σ H k) : gDel n σ H k := h
theorem x_wTs {tab : List (Value × Nat)} {cl : List Sui} {k i : Nat} {ts : Addr → Value → Option Addr → TS} {cls : Value} {d : Option Addr} (mt : (cls, k) ∈ tab) (rf : cl[k]? = some (some i, ts)) (h : ∀ a, gName i (.ref a) σ H fun σ' H' => ts a cls d ⟨fun σ' H' => gDel i σ' H' nx, rt, fun σ' H' => gDel i σ' H' bk, fun σ' H' => gDel i σ' H' ct⟩ σ' H') :
    wT tab cl ⟨nx, rt, bk, ct⟩ cls d σ H := ⟨k, some i, ts, mt, rf, fun a _ => h a⟩
theorem x_wTn {tab : List (Value × Nat)} {cl : List Sui} {k : Nat} {ts : Addr → Value → Option Addr → TS} {cls : Value} {d : Option Addr} (mt : (cls, k) ∈ tab) (rf : cl[k]? = some (none, ts)) (h : ∀ a, ts a cls d ⟨nx, rt, bk, ct⟩ σ H) :
    wT tab cl ⟨nx, rt, bk, ct⟩ cls d σ H := ⟨k, none, ts, mt, rf, fun a _ => h a⟩
theorem x_xf {b : Addr} {cls : Value} {d : Option Addr} {Cs : List Addr} {f : Str} (h : te σ H fun x H1 => x = .ref b ∧ ∃ C, C ∈ Cs ∧ cls = .ref C ∧ ∃ (dd : Addr) (fs : List (Str × V)) (v : V), d = some dd ∧ H1 dd = some (.xd fs) ∧ fs.lookup f = some v ∧ Q v H1) : eXf b cls d Cs f te σ H Q := h
theorem x_xfG {b C : Addr} {Cs : List Addr} {f : Str} {QV : V → Prop} {fs : List (Str × V)} (F : FH H L) (m : (p, Is (.xd fs)) ∈ L) (mt : C ∈ Cs) (l : fs.lookup f = some v) (h : QV v) :
    V.ref b = .ref b ∧ ∃ C', C' ∈ Cs ∧ Value.ref C = .ref C' ∧ ∃ (dd : Addr) (fs : List (Str × V)) (v : V), some p = some dd ∧ H dd = some (.xd fs) ∧ fs.lookup f = some v ∧ QV v := ⟨rfl, C, mt, rfl, p, fs, v, rfl, F.get m, l, h⟩
theorem x_isX {b C : Addr} {tbl : List (Value × V × Bool)} {c : V} {k : Bool} {fs : List (Str × V)} (F : FH H L) (m : (p, Is (.xd fs)) ∈ L) (mt : (Value.ref C, c, k) ∈ tbl) (h : Q (.bl k) H) : rIsX tbl b (.ref C) (some p) [.ref b, c] H Q := .inl ⟨c, k, rfl, mt, ⟨p, fs, rfl, F.get m⟩, h⟩
theorem x_isXi {b : Addr} {tbl : List (Value × V × Bool)} {cls : Value} {d : Option Addr} {xs : List V} (h : rIsI xs H Q) : rIsX tbl b cls d xs H Q := .inr h
theorem x_strI (h1 : -18446744073709551616 < i ∧ i < 18446744073709551616) (h : Q (.str (toString i)) H) : rStrI [.int i] H Q := ⟨i, rfl, by
  by_cases e : i.natAbs = 0
  · rw [e]; decide
  · have h2 := Nat.log2_self_le e
    have h3 : 2 ^ i.natAbs.log2 < 2 ^ 64 := by
      have : (2 : Nat) ^ 64 = 18446744073709551616 := by decide
      omega
    have := (Nat.pow_lt_pow_iff_right (by decide : 1 < 2)).mp h3
    omega, h⟩
/-! places -/
theorem atI_at {α : Type} {xs : List α} {j : Nat} {v : α} (e : i = (j : Int)) (h : xs[j]? = some v) : atI xs i = some v := by subst e; exact atI_nat h
theorem ixN_at {n j : Nat} (e : i = (j : Int)) (h : j < n) : ixN n i = some j := by
  subst e
  unfold ixN
  rw [if_pos (by omega), if_pos (by omega)]
  simp
theorem atI_ints {ns : List Int} (h0 : 0 ≤ i) (h1 : i < ((ns.map V.int).length : Int)) : atI (ns.map V.int) i = some (.int (ns.getD i.toNat 0)) := by
  have hl : i.toNat < ns.length := by rw [List.length_map] at h1; omega
  refine atI_at (j := i.toNat) (by omega) ?_
  rw [List.getElem?_map, List.getElem?_eq_getElem hl, List.getD_eq_getElem?_getD, List.getElem?_eq_getElem hl]
  rfl
theorem getD_nn {ns : List Int} (h : ∀ n ∈ ns, 0 ≤ n) (k : Nat) : 0 ≤ ns.getD k 0 := by
  rw [List.getD_eq_getElem?_getD]
  cases e : ns[k]? with
  | none => exact Int.le_refl 0
  | some z => exact h z (List.mem_of_getElem? e)
theorem ixN_b {n j : Nat} (e : i = (j : Int)) (h : Nat.blt j n = true) : ixN n i = some j := ixN_at e (by simpa [Nat.blt_eq] using h)
theorem ixN_i {n : Nat} (h0 : 0 ≤ i) (h1 : i < (n : Int)) : ixN n i = some i.toNat := by
  unfold ixN
  rw [if_pos h0, if_pos h1]
theorem len_leB {xs : List V} (h : Nat.ble xs.length 16777216 = true) : xs.length ≤ sizeLine := by rw [sizeLine_eq]; exact Nat.le_of_ble_eq_true h
theorem len_ltB {xs : List V} (h : Nat.blt xs.length 16777216 = true) : xs.length < sizeLine := by rw [sizeLine_eq]; simpa [Nat.blt_eq] using h
theorem f_lt {fs : List (Str × V)} (h : Nat.blt fs.length 1000 = true) : fs.length < 1000 := by simpa [Nat.blt_eq] using h
theorem len_leN {xs : List V} (h : xs.length ≤ 16777216) : xs.length ≤ sizeLine := by rw [sizeLine_eq]; exact h
theorem len_ltN {xs : List V} (h : xs.length < 16777216) : xs.length < sizeLine := by rw [sizeLine_eq]; exact h
theorem len_le {xs : List V} {n : Nat} (e : xs.length = n) (h : n ≤ 16777216) : xs.length ≤ sizeLine := by rw [e, sizeLine_eq]; exact h
theorem len_lt {xs : List V} {n : Nat} (e : xs.length = n) (h : n < 16777216) : xs.length < sizeLine := by rw [e, sizeLine_eq]; exact h
theorem div_small (h1 : 0 < j) (h2 : j < 18446744073709551616) : CDivW i j := wide_div (b := 64) h1 (by omega) (by decide) (by decide)
theorem mulL (h1 : -18446744073709551616 < i) (h2 : i < 18446744073709551616) : CMul i j := .inl ⟨h1, h2⟩
theorem mulR (h1 : -18446744073709551616 < j) (h2 : j < 18446744073709551616) : CMul i j := .inr ⟨h1, h2⟩

theorem x_pw10_1 (h : Q (.int 10) H) : rPow (.int 10) (.int 1) H Q := x_pow ⟨by decide, by decide, by decide⟩ (by rw [show (10 : Int) ^ (Int.toNat 1) = 10 by decide]; exact h)
theorem x_pw10_2 (h : Q (.int 100) H) : rPow (.int 10) (.int 2) H Q := x_pow ⟨by decide, by decide, by decide⟩ (by rw [show (10 : Int) ^ (Int.toNat 2) = 100 by decide]; exact h)
theorem x_pw10_3 (h : Q (.int 1000) H) : rPow (.int 10) (.int 3) H Q := x_pow ⟨by decide, by decide, by decide⟩ (by rw [show (10 : Int) ^ (Int.toNat 3) = 1000 by decide]; exact h)
theorem x_pw10_4 (h : Q (.int 10000) H) : rPow (.int 10) (.int 4) H Q := x_pow ⟨by decide, by decide, by decide⟩ (by rw [show (10 : Int) ^ (Int.toNat 4) = 10000 by decide]; exact h)
theorem x_pw10_5 (h : Q (.int 100000) H) : rPow (.int 10) (.int 5) H Q := x_pow ⟨by decide, by decide, by decide⟩ (by rw [show (10 : Int) ^ (Int.toNat 5) = 100000 by decide]; exact h)
theorem x_pw10_6 (h : Q (.int 1000000) H) : rPow (.int 10) (.int 6) H Q := x_pow ⟨by decide, by decide, by decide⟩ (by rw [show (10 : Int) ^ (Int.toNat 6) = 1000000 by decide]; exact h)
theorem x_pw10_7 (h : Q (.int 10000000) H) : rPow (.int 10) (.int 7) H Q := x_pow ⟨by decide, by decide, by decide⟩ (by rw [show (10 : Int) ^ (Int.toNat 7) = 10000000 by decide]; exact h)
theorem x_pw10_8 (h : Q (.int 100000000) H) : rPow (.int 10) (.int 8) H Q := x_pow ⟨by decide, by decide, by decide⟩ (by rw [show (10 : Int) ^ (Int.toNat 8) = 100000000 by decide]; exact h)
theorem x_pw10_9 (h : Q (.int 1000000000) H) : rPow (.int 10) (.int 9) H Q := x_pow ⟨by decide, by decide, by decide⟩ (by rw [show (10 : Int) ^ (Int.toNat 9) = 1000000000 by decide]; exact h)
theorem x_pw10_10 (h : Q (.int 10000000000) H) : rPow (.int 10) (.int 10) H Q := x_pow ⟨by decide, by decide, by decide⟩ (by rw [show (10 : Int) ^ (Int.toNat 10) = 10000000000 by decide]; exact h)
theorem x_pw10_11 (h : Q (.int 100000000000) H) : rPow (.int 10) (.int 11) H Q := x_pow ⟨by decide, by decide, by decide⟩ (by rw [show (10 : Int) ^ (Int.toNat 11) = 100000000000 by decide]; exact h)
theorem x_pw10_12 (h : Q (.int 1000000000000) H) : rPow (.int 10) (.int 12) H Q := x_pow ⟨by decide, by decide, by decide⟩ (by rw [show (10 : Int) ^ (Int.toNat 12) = 1000000000000 by decide]; exact h)
theorem x_pw10_13 (h : Q (.int 10000000000000) H) : rPow (.int 10) (.int 13) H Q := x_pow ⟨by decide, by decide, by decide⟩ (by rw [show (10 : Int) ^ (Int.toNat 13) = 10000000000000 by decide]; exact h)
theorem x_pw10_14 (h : Q (.int 100000000000000) H) : rPow (.int 10) (.int 14) H Q := x_pow ⟨by decide, by decide, by decide⟩ (by rw [show (10 : Int) ^ (Int.toNat 14) = 100000000000000 by decide]; exact h)
theorem x_pw10_15 (h : Q (.int 1000000000000000) H) : rPow (.int 10) (.int 15) H Q := x_pow ⟨by decide, by decide, by decide⟩ (by rw [show (10 : Int) ^ (Int.toNat 15) = 1000000000000000 by decide]; exact h)
theorem x_pw10_16 (h : Q (.int 10000000000000000) H) : rPow (.int 10) (.int 16) H Q := x_pow ⟨by decide, by decide, by decide⟩ (by rw [show (10 : Int) ^ (Int.toNat 16) = 10000000000000000 by decide]; exact h)
theorem x_pw10_17 (h : Q (.int 100000000000000000) H) : rPow (.int 10) (.int 17) H Q := x_pow ⟨by decide, by decide, by decide⟩ (by rw [show (10 : Int) ^ (Int.toNat 17) = 100000000000000000 by decide]; exact h)
theorem x_pw10_18 (h : Q (.int 1000000000000000000) H) : rPow (.int 10) (.int 18) H Q := x_pow ⟨by decide, by decide, by decide⟩ (by rw [show (10 : Int) ^ (Int.toNat 18) = 1000000000000000000 by decide]; exact h)
theorem x_pw10_19 (h : Q (.int 10000000000000000000) H) : rPow (.int 10) (.int 19) H Q := x_pow ⟨by decide, by decide, by decide⟩ (by rw [show (10 : Int) ^ (Int.toNat 19) = 10000000000000000000 by decide]; exact h)
theorem x_pw10_20 (h : Q (.int 100000000000000000000) H) : rPow (.int 10) (.int 20) H Q := x_pow ⟨by decide, by decide, by decide⟩ (by rw [show (10 : Int) ^ (Int.toNat 20) = 100000000000000000000 by decide]; exact h)
theorem x_pw10_21 (h : Q (.int 1000000000000000000000) H) : rPow (.int 10) (.int 21) H Q := x_pow ⟨by decide, by decide, by decide⟩ (by rw [show (10 : Int) ^ (Int.toNat 21) = 1000000000000000000000 by decide]; exact h)
theorem x_pw10_22 (h : Q (.int 10000000000000000000000) H) : rPow (.int 10) (.int 22) H Q := x_pow ⟨by decide, by decide, by decide⟩ (by rw [show (10 : Int) ^ (Int.toNat 22) = 10000000000000000000000 by decide]; exact h)
theorem x_pw10_23 (h : Q (.int 100000000000000000000000) H) : rPow (.int 10) (.int 23) H Q := x_pow ⟨by decide, by decide, by decide⟩ (by rw [show (10 : Int) ^ (Int.toNat 23) = 100000000000000000000000 by decide]; exact h)
theorem x_pw10_24 (h : Q (.int 1000000000000000000000000) H) : rPow (.int 10) (.int 24) H Q := x_pow ⟨by decide, by decide, by decide⟩ (by rw [show (10 : Int) ^ (Int.toNat 24) = 1000000000000000000000000 by decide]; exact h)
theorem x_pw2_6 (h : Q (.int 64) H) : rPow (.int 2) (.int 6) H Q := x_pow ⟨by decide, by decide, by decide⟩ (by rw [show (2 : Int) ^ (Int.toNat 6) = 64 by decide]; exact h)
theorem x_pw2_10 (h : Q (.int 1024) H) : rPow (.int 2) (.int 10) H Q := x_pow ⟨by decide, by decide, by decide⟩ (by rw [show (2 : Int) ^ (Int.toNat 10) = 1024 by decide]; exact h)
theorem x_pw2_16 (h : Q (.int 65536) H) : rPow (.int 2) (.int 16) H Q := x_pow ⟨by decide, by decide, by decide⟩ (by rw [show (2 : Int) ^ (Int.toNat 16) = 65536 by decide]; exact h)
theorem x_pw2_20 (h : Q (.int 1048576) H) : rPow (.int 2) (.int 20) H Q := x_pow ⟨by decide, by decide, by decide⟩ (by rw [show (2 : Int) ^ (Int.toNat 20) = 1048576 by decide]; exact h)
theorem x_pw2_30 (h : Q (.int 1073741824) H) : rPow (.int 2) (.int 30) H Q := x_pow ⟨by decide, by decide, by decide⟩ (by rw [show (2 : Int) ^ (Int.toNat 30) = 1073741824 by decide]; exact h)
theorem x_pw2_31 (h : Q (.int 2147483648) H) : rPow (.int 2) (.int 31) H Q := x_pow ⟨by decide, by decide, by decide⟩ (by rw [show (2 : Int) ^ (Int.toNat 31) = 2147483648 by decide]; exact h)
theorem x_pw2_32 (h : Q (.int 4294967296) H) : rPow (.int 2) (.int 32) H Q := x_pow ⟨by decide, by decide, by decide⟩ (by rw [show (2 : Int) ^ (Int.toNat 32) = 4294967296 by decide]; exact h)
theorem x_pw2_40 (h : Q (.int 1099511627776) H) : rPow (.int 2) (.int 40) H Q := x_pow ⟨by decide, by decide, by decide⟩ (by rw [show (2 : Int) ^ (Int.toNat 40) = 1099511627776 by decide]; exact h)
theorem x_pw2_48 (h : Q (.int 281474976710656) H) : rPow (.int 2) (.int 48) H Q := x_pow ⟨by decide, by decide, by decide⟩ (by rw [show (2 : Int) ^ (Int.toNat 48) = 281474976710656 by decide]; exact h)
theorem x_pw2_60 (h : Q (.int 1152921504606846976) H) : rPow (.int 2) (.int 60) H Q := x_pow ⟨by decide, by decide, by decide⟩ (by rw [show (2 : Int) ^ (Int.toNat 60) = 1152921504606846976 by decide]; exact h)
theorem x_pw2_62 (h : Q (.int 4611686018427387904) H) : rPow (.int 2) (.int 62) H Q := x_pow ⟨by decide, by decide, by decide⟩ (by rw [show (2 : Int) ^ (Int.toNat 62) = 4611686018427387904 by decide]; exact h)
theorem x_pw2_63 (h : Q (.int 9223372036854775808) H) : rPow (.int 2) (.int 63) H Q := x_pow ⟨by decide, by decide, by decide⟩ (by rw [show (2 : Int) ^ (Int.toNat 63) = 9223372036854775808 by decide]; exact h)
theorem x_pw2_64 (h : Q (.int 18446744073709551616) H) : rPow (.int 2) (.int 64) H Q := x_pow ⟨by decide, by decide, by decide⟩ (by rw [show (2 : Int) ^ (Int.toNat 64) = 18446744073709551616 by decide]; exact h)
theorem x_v0 {σ : L2.St} (h : Q v H) : tVar 0 (some v :: σ) H Q := ⟨v, rfl, h⟩
theorem x_g0 {x : Option V} {σ : L2.St} (h : QS (some v :: σ) H) : gName 0 v (x :: σ) H QS := h
theorem x_d0 {x : Option V} {σ : L2.St} {k : K0} (h : k (none :: σ) H) : gDel 0 (x :: σ) H k := h
theorem x_ml0 {σ : L2.St} (h : tMake C sp [] E tl (some (.ref C) :: σ) H Q) : eMakeL 0 C sp [] E tl (some (.ref C) :: σ) H Q := ⟨rfl, h⟩
theorem x_au0 {te : TE} {ti : TIp} {σ : L2.St} (h : te (some x :: σ) H fun y H1 => ti x y H1 fun z H2 => nx (some z :: σ) H2) : tAug 0 te ti ⟨nx, rt, bk, ct⟩ (some x :: σ) H := ⟨x, rfl, h⟩
theorem x_v1 {a0 : Option V} {σ : L2.St} (h : Q v H) : tVar 1 (a0 :: some v :: σ) H Q := ⟨v, rfl, h⟩
theorem x_g1 {a0 : Option V} {x : Option V} {σ : L2.St} (h : QS (a0 :: some v :: σ) H) : gName 1 v (a0 :: x :: σ) H QS := h
theorem x_d1 {a0 : Option V} {x : Option V} {σ : L2.St} {k : K0} (h : k (a0 :: none :: σ) H) : gDel 1 (a0 :: x :: σ) H k := h
theorem x_ml1 {a0 : Option V} {σ : L2.St} (h : tMake C sp [] E tl (a0 :: some (.ref C) :: σ) H Q) : eMakeL 1 C sp [] E tl (a0 :: some (.ref C) :: σ) H Q := ⟨rfl, h⟩
theorem x_au1 {te : TE} {ti : TIp} {a0 : Option V} {σ : L2.St} (h : te (a0 :: some x :: σ) H fun y H1 => ti x y H1 fun z H2 => nx (a0 :: some z :: σ) H2) : tAug 1 te ti ⟨nx, rt, bk, ct⟩ (a0 :: some x :: σ) H := ⟨x, rfl, h⟩
theorem x_v2 {a0 a1 : Option V} {σ : L2.St} (h : Q v H) : tVar 2 (a0 :: a1 :: some v :: σ) H Q := ⟨v, rfl, h⟩
theorem x_g2 {a0 a1 : Option V} {x : Option V} {σ : L2.St} (h : QS (a0 :: a1 :: some v :: σ) H) : gName 2 v (a0 :: a1 :: x :: σ) H QS := h
theorem x_d2 {a0 a1 : Option V} {x : Option V} {σ : L2.St} {k : K0} (h : k (a0 :: a1 :: none :: σ) H) : gDel 2 (a0 :: a1 :: x :: σ) H k := h
theorem x_ml2 {a0 a1 : Option V} {σ : L2.St} (h : tMake C sp [] E tl (a0 :: a1 :: some (.ref C) :: σ) H Q) : eMakeL 2 C sp [] E tl (a0 :: a1 :: some (.ref C) :: σ) H Q := ⟨rfl, h⟩
theorem x_au2 {te : TE} {ti : TIp} {a0 a1 : Option V} {σ : L2.St} (h : te (a0 :: a1 :: some x :: σ) H fun y H1 => ti x y H1 fun z H2 => nx (a0 :: a1 :: some z :: σ) H2) : tAug 2 te ti ⟨nx, rt, bk, ct⟩ (a0 :: a1 :: some x :: σ) H := ⟨x, rfl, h⟩
theorem x_v3 {a0 a1 a2 : Option V} {σ : L2.St} (h : Q v H) : tVar 3 (a0 :: a1 :: a2 :: some v :: σ) H Q := ⟨v, rfl, h⟩
theorem x_g3 {a0 a1 a2 : Option V} {x : Option V} {σ : L2.St} (h : QS (a0 :: a1 :: a2 :: some v :: σ) H) : gName 3 v (a0 :: a1 :: a2 :: x :: σ) H QS := h
theorem x_d3 {a0 a1 a2 : Option V} {x : Option V} {σ : L2.St} {k : K0} (h : k (a0 :: a1 :: a2 :: none :: σ) H) : gDel 3 (a0 :: a1 :: a2 :: x :: σ) H k := h
theorem x_ml3 {a0 a1 a2 : Option V} {σ : L2.St} (h : tMake C sp [] E tl (a0 :: a1 :: a2 :: some (.ref C) :: σ) H Q) : eMakeL 3 C sp [] E tl (a0 :: a1 :: a2 :: some (.ref C) :: σ) H Q := ⟨rfl, h⟩
theorem x_au3 {te : TE} {ti : TIp} {a0 a1 a2 : Option V} {σ : L2.St} (h : te (a0 :: a1 :: a2 :: some x :: σ) H fun y H1 => ti x y H1 fun z H2 => nx (a0 :: a1 :: a2 :: some z :: σ) H2) : tAug 3 te ti ⟨nx, rt, bk, ct⟩ (a0 :: a1 :: a2 :: some x :: σ) H := ⟨x, rfl, h⟩
theorem x_v4 {a0 a1 a2 a3 : Option V} {σ : L2.St} (h : Q v H) : tVar 4 (a0 :: a1 :: a2 :: a3 :: some v :: σ) H Q := ⟨v, rfl, h⟩
theorem x_g4 {a0 a1 a2 a3 : Option V} {x : Option V} {σ : L2.St} (h : QS (a0 :: a1 :: a2 :: a3 :: some v :: σ) H) : gName 4 v (a0 :: a1 :: a2 :: a3 :: x :: σ) H QS := h
theorem x_d4 {a0 a1 a2 a3 : Option V} {x : Option V} {σ : L2.St} {k : K0} (h : k (a0 :: a1 :: a2 :: a3 :: none :: σ) H) : gDel 4 (a0 :: a1 :: a2 :: a3 :: x :: σ) H k := h
theorem x_ml4 {a0 a1 a2 a3 : Option V} {σ : L2.St} (h : tMake C sp [] E tl (a0 :: a1 :: a2 :: a3 :: some (.ref C) :: σ) H Q) : eMakeL 4 C sp [] E tl (a0 :: a1 :: a2 :: a3 :: some (.ref C) :: σ) H Q := ⟨rfl, h⟩
theorem x_au4 {te : TE} {ti : TIp} {a0 a1 a2 a3 : Option V} {σ : L2.St} (h : te (a0 :: a1 :: a2 :: a3 :: some x :: σ) H fun y H1 => ti x y H1 fun z H2 => nx (a0 :: a1 :: a2 :: a3 :: some z :: σ) H2) : tAug 4 te ti ⟨nx, rt, bk, ct⟩ (a0 :: a1 :: a2 :: a3 :: some x :: σ) H := ⟨x, rfl, h⟩
theorem x_v5 {a0 a1 a2 a3 a4 : Option V} {σ : L2.St} (h : Q v H) : tVar 5 (a0 :: a1 :: a2 :: a3 :: a4 :: some v :: σ) H Q := ⟨v, rfl, h⟩
theorem x_g5 {a0 a1 a2 a3 a4 : Option V} {x : Option V} {σ : L2.St} (h : QS (a0 :: a1 :: a2 :: a3 :: a4 :: some v :: σ) H) : gName 5 v (a0 :: a1 :: a2 :: a3 :: a4 :: x :: σ) H QS := h
theorem x_d5 {a0 a1 a2 a3 a4 : Option V} {x : Option V} {σ : L2.St} {k : K0} (h : k (a0 :: a1 :: a2 :: a3 :: a4 :: none :: σ) H) : gDel 5 (a0 :: a1 :: a2 :: a3 :: a4 :: x :: σ) H k := h
theorem x_ml5 {a0 a1 a2 a3 a4 : Option V} {σ : L2.St} (h : tMake C sp [] E tl (a0 :: a1 :: a2 :: a3 :: a4 :: some (.ref C) :: σ) H Q) : eMakeL 5 C sp [] E tl (a0 :: a1 :: a2 :: a3 :: a4 :: some (.ref C) :: σ) H Q := ⟨rfl, h⟩
theorem x_au5 {te : TE} {ti : TIp} {a0 a1 a2 a3 a4 : Option V} {σ : L2.St} (h : te (a0 :: a1 :: a2 :: a3 :: a4 :: some x :: σ) H fun y H1 => ti x y H1 fun z H2 => nx (a0 :: a1 :: a2 :: a3 :: a4 :: some z :: σ) H2) : tAug 5 te ti ⟨nx, rt, bk, ct⟩ (a0 :: a1 :: a2 :: a3 :: a4 :: some x :: σ) H := ⟨x, rfl, h⟩
theorem x_v6 {a0 a1 a2 a3 a4 a5 : Option V} {σ : L2.St} (h : Q v H) : tVar 6 (a0 :: a1 :: a2 :: a3 :: a4 :: a5 :: some v :: σ) H Q := ⟨v, rfl, h⟩
theorem x_g6 {a0 a1 a2 a3 a4 a5 : Option V} {x : Option V} {σ : L2.St} (h : QS (a0 :: a1 :: a2 :: a3 :: a4 :: a5 :: some v :: σ) H) : gName 6 v (a0 :: a1 :: a2 :: a3 :: a4 :: a5 :: x :: σ) H QS := h
theorem x_d6 {a0 a1 a2 a3 a4 a5 : Option V} {x : Option V} {σ : L2.St} {k : K0} (h : k (a0 :: a1 :: a2 :: a3 :: a4 :: a5 :: none :: σ) H) : gDel 6 (a0 :: a1 :: a2 :: a3 :: a4 :: a5 :: x :: σ) H k := h
theorem x_ml6 {a0 a1 a2 a3 a4 a5 : Option V} {σ : L2.St} (h : tMake C sp [] E tl (a0 :: a1 :: a2 :: a3 :: a4 :: a5 :: some (.ref C) :: σ) H Q) : eMakeL 6 C sp [] E tl (a0 :: a1 :: a2 :: a3 :: a4 :: a5 :: some (.ref C) :: σ) H Q := ⟨rfl, h⟩
theorem x_au6 {te : TE} {ti : TIp} {a0 a1 a2 a3 a4 a5 : Option V} {σ : L2.St} (h : te (a0 :: a1 :: a2 :: a3 :: a4 :: a5 :: some x :: σ) H fun y H1 => ti x y H1 fun z H2 => nx (a0 :: a1 :: a2 :: a3 :: a4 :: a5 :: some z :: σ) H2) : tAug 6 te ti ⟨nx, rt, bk, ct⟩ (a0 :: a1 :: a2 :: a3 :: a4 :: a5 :: some x :: σ) H := ⟨x, rfl, h⟩
theorem x_v7 {a0 a1 a2 a3 a4 a5 a6 : Option V} {σ : L2.St} (h : Q v H) : tVar 7 (a0 :: a1 :: a2 :: a3 :: a4 :: a5 :: a6 :: some v :: σ) H Q := ⟨v, rfl, h⟩
theorem x_g7 {a0 a1 a2 a3 a4 a5 a6 : Option V} {x : Option V} {σ : L2.St} (h : QS (a0 :: a1 :: a2 :: a3 :: a4 :: a5 :: a6 :: some v :: σ) H) : gName 7 v (a0 :: a1 :: a2 :: a3 :: a4 :: a5 :: a6 :: x :: σ) H QS := h
theorem x_d7 {a0 a1 a2 a3 a4 a5 a6 : Option V} {x : Option V} {σ : L2.St} {k : K0} (h : k (a0 :: a1 :: a2 :: a3 :: a4 :: a5 :: a6 :: none :: σ) H) : gDel 7 (a0 :: a1 :: a2 :: a3 :: a4 :: a5 :: a6 :: x :: σ) H k := h
theorem x_ml7 {a0 a1 a2 a3 a4 a5 a6 : Option V} {σ : L2.St} (h : tMake C sp [] E tl (a0 :: a1 :: a2 :: a3 :: a4 :: a5 :: a6 :: some (.ref C) :: σ) H Q) : eMakeL 7 C sp [] E tl (a0 :: a1 :: a2 :: a3 :: a4 :: a5 :: a6 :: some (.ref C) :: σ) H Q := ⟨rfl, h⟩
theorem x_au7 {te : TE} {ti : TIp} {a0 a1 a2 a3 a4 a5 a6 : Option V} {σ : L2.St} (h : te (a0 :: a1 :: a2 :: a3 :: a4 :: a5 :: a6 :: some x :: σ) H fun y H1 => ti x y H1 fun z H2 => nx (a0 :: a1 :: a2 :: a3 :: a4 :: a5 :: a6 :: some z :: σ) H2) : tAug 7 te ti ⟨nx, rt, bk, ct⟩ (a0 :: a1 :: a2 :: a3 :: a4 :: a5 :: a6 :: some x :: σ) H := ⟨x, rfl, h⟩
theorem x_v8 {a0 a1 a2 a3 a4 a5 a6 a7 : Option V} {σ : L2.St} (h : Q v H) : tVar 8 (a0 :: a1 :: a2 :: a3 :: a4 :: a5 :: a6 :: a7 :: some v :: σ) H Q := ⟨v, rfl, h⟩
theorem x_g8 {a0 a1 a2 a3 a4 a5 a6 a7 : Option V} {x : Option V} {σ : L2.St} (h : QS (a0 :: a1 :: a2 :: a3 :: a4 :: a5 :: a6 :: a7 :: some v :: σ) H) : gName 8 v (a0 :: a1 :: a2 :: a3 :: a4 :: a5 :: a6 :: a7 :: x :: σ) H QS := h
theorem x_d8 {a0 a1 a2 a3 a4 a5 a6 a7 : Option V} {x : Option V} {σ : L2.St} {k : K0} (h : k (a0 :: a1 :: a2 :: a3 :: a4 :: a5 :: a6 :: a7 :: none :: σ) H) : gDel 8 (a0 :: a1 :: a2 :: a3 :: a4 :: a5 :: a6 :: a7 :: x :: σ) H k := h
theorem x_ml8 {a0 a1 a2 a3 a4 a5 a6 a7 : Option V} {σ : L2.St} (h : tMake C sp [] E tl (a0 :: a1 :: a2 :: a3 :: a4 :: a5 :: a6 :: a7 :: some (.ref C) :: σ) H Q) : eMakeL 8 C sp [] E tl (a0 :: a1 :: a2 :: a3 :: a4 :: a5 :: a6 :: a7 :: some (.ref C) :: σ) H Q := ⟨rfl, h⟩
theorem x_au8 {te : TE} {ti : TIp} {a0 a1 a2 a3 a4 a5 a6 a7 : Option V} {σ : L2.St} (h : te (a0 :: a1 :: a2 :: a3 :: a4 :: a5 :: a6 :: a7 :: some x :: σ) H fun y H1 => ti x y H1 fun z H2 => nx (a0 :: a1 :: a2 :: a3 :: a4 :: a5 :: a6 :: a7 :: some z :: σ) H2) : tAug 8 te ti ⟨nx, rt, bk, ct⟩ (a0 :: a1 :: a2 :: a3 :: a4 :: a5 :: a6 :: a7 :: some x :: σ) H := ⟨x, rfl, h⟩
theorem x_v9 {a0 a1 a2 a3 a4 a5 a6 a7 a8 : Option V} {σ : L2.St} (h : Q v H) : tVar 9 (a0 :: a1 :: a2 :: a3 :: a4 :: a5 :: a6 :: a7 :: a8 :: some v :: σ) H Q := ⟨v, rfl, h⟩
theorem x_g9 {a0 a1 a2 a3 a4 a5 a6 a7 a8 : Option V} {x : Option V} {σ : L2.St} (h : QS (a0 :: a1 :: a2 :: a3 :: a4 :: a5 :: a6 :: a7 :: a8 :: some v :: σ) H) : gName 9 v (a0 :: a1 :: a2 :: a3 :: a4 :: a5 :: a6 :: a7 :: a8 :: x :: σ) H QS := h
theorem x_d9 {a0 a1 a2 a3 a4 a5 a6 a7 a8 : Option V} {x : Option V} {σ : L2.St} {k : K0} (h : k (a0 :: a1 :: a2 :: a3 :: a4 :: a5 :: a6 :: a7 :: a8 :: none :: σ) H) : gDel 9 (a0 :: a1 :: a2 :: a3 :: a4 :: a5 :: a6 :: a7 :: a8 :: x :: σ) H k := h
theorem x_ml9 {a0 a1 a2 a3 a4 a5 a6 a7 a8 : Option V} {σ : L2.St} (h : tMake C sp [] E tl (a0 :: a1 :: a2 :: a3 :: a4 :: a5 :: a6 :: a7 :: a8 :: some (.ref C) :: σ) H Q) : eMakeL 9 C sp [] E tl (a0 :: a1 :: a2 :: a3 :: a4 :: a5 :: a6 :: a7 :: a8 :: some (.ref C) :: σ) H Q := ⟨rfl, h⟩
theorem x_au9 {te : TE} {ti : TIp} {a0 a1 a2 a3 a4 a5 a6 a7 a8 : Option V} {σ : L2.St} (h : te (a0 :: a1 :: a2 :: a3 :: a4 :: a5 :: a6 :: a7 :: a8 :: some x :: σ) H fun y H1 => ti x y H1 fun z H2 => nx (a0 :: a1 :: a2 :: a3 :: a4 :: a5 :: a6 :: a7 :: a8 :: some z :: σ) H2) : tAug 9 te ti ⟨nx, rt, bk, ct⟩ (a0 :: a1 :: a2 :: a3 :: a4 :: a5 :: a6 :: a7 :: a8 :: some x :: σ) H := ⟨x, rfl, h⟩
theorem x_v10 {a0 a1 a2 a3 a4 a5 a6 a7 a8 a9 : Option V} {σ : L2.St} (h : Q v H) : tVar 10 (a0 :: a1 :: a2 :: a3 :: a4 :: a5 :: a6 :: a7 :: a8 :: a9 :: some v :: σ) H Q := ⟨v, rfl, h⟩
theorem x_g10 {a0 a1 a2 a3 a4 a5 a6 a7 a8 a9 : Option V} {x : Option V} {σ : L2.St} (h : QS (a0 :: a1 :: a2 :: a3 :: a4 :: a5 :: a6 :: a7 :: a8 :: a9 :: some v :: σ) H) : gName 10 v (a0 :: a1 :: a2 :: a3 :: a4 :: a5 :: a6 :: a7 :: a8 :: a9 :: x :: σ) H QS := h
theorem x_d10 {a0 a1 a2 a3 a4 a5 a6 a7 a8 a9 : Option V} {x : Option V} {σ : L2.St} {k : K0} (h : k (a0 :: a1 :: a2 :: a3 :: a4 :: a5 :: a6 :: a7 :: a8 :: a9 :: none :: σ) H) : gDel 10 (a0 :: a1 :: a2 :: a3 :: a4 :: a5 :: a6 :: a7 :: a8 :: a9 :: x :: σ) H k := h
theorem x_ml10 {a0 a1 a2 a3 a4 a5 a6 a7 a8 a9 : Option V} {σ : L2.St} (h : tMake C sp [] E tl (a0 :: a1 :: a2 :: a3 :: a4 :: a5 :: a6 :: a7 :: a8 :: a9 :: some (.ref C) :: σ) H Q) : eMakeL 10 C sp [] E tl (a0 :: a1 :: a2 :: a3 :: a4 :: a5 :: a6 :: a7 :: a8 :: a9 :: some (.ref C) :: σ) H Q := ⟨rfl, h⟩
theorem x_au10 {te : TE} {ti : TIp} {a0 a1 a2 a3 a4 a5 a6 a7 a8 a9 : Option V} {σ : L2.St} (h : te (a0 :: a1 :: a2 :: a3 :: a4 :: a5 :: a6 :: a7 :: a8 :: a9 :: some x :: σ) H fun y H1 => ti x y H1 fun z H2 => nx (a0 :: a1 :: a2 :: a3 :: a4 :: a5 :: a6 :: a7 :: a8 :: a9 :: some z :: σ) H2) : tAug 10 te ti ⟨nx, rt, bk, ct⟩ (a0 :: a1 :: a2 :: a3 :: a4 :: a5 :: a6 :: a7 :: a8 :: a9 :: some x :: σ) H := ⟨x, rfl, h⟩
theorem x_v11 {a0 a1 a2 a3 a4 a5 a6 a7 a8 a9 a10 : Option V} {σ : L2.St} (h : Q v H) : tVar 11 (a0 :: a1 :: a2 :: a3 :: a4 :: a5 :: a6 :: a7 :: a8 :: a9 :: a10 :: some v :: σ) H Q := ⟨v, rfl, h⟩
theorem x_g11 {a0 a1 a2 a3 a4 a5 a6 a7 a8 a9 a10 : Option V} {x : Option V} {σ : L2.St} (h : QS (a0 :: a1 :: a2 :: a3 :: a4 :: a5 :: a6 :: a7 :: a8 :: a9 :: a10 :: some v :: σ) H) : gName 11 v (a0 :: a1 :: a2 :: a3 :: a4 :: a5 :: a6 :: a7 :: a8 :: a9 :: a10 :: x :: σ) H QS := h
theorem x_d11 {a0 a1 a2 a3 a4 a5 a6 a7 a8 a9 a10 : Option V} {x : Option V} {σ : L2.St} {k : K0} (h : k (a0 :: a1 :: a2 :: a3 :: a4 :: a5 :: a6 :: a7 :: a8 :: a9 :: a10 :: none :: σ) H) : gDel 11 (a0 :: a1 :: a2 :: a3 :: a4 :: a5 :: a6 :: a7 :: a8 :: a9 :: a10 :: x :: σ) H k := h
theorem x_ml11 {a0 a1 a2 a3 a4 a5 a6 a7 a8 a9 a10 : Option V} {σ : L2.St} (h : tMake C sp [] E tl (a0 :: a1 :: a2 :: a3 :: a4 :: a5 :: a6 :: a7 :: a8 :: a9 :: a10 :: some (.ref C) :: σ) H Q) : eMakeL 11 C sp [] E tl (a0 :: a1 :: a2 :: a3 :: a4 :: a5 :: a6 :: a7 :: a8 :: a9 :: a10 :: some (.ref C) :: σ) H Q := ⟨rfl, h⟩
theorem x_au11 {te : TE} {ti : TIp} {a0 a1 a2 a3 a4 a5 a6 a7 a8 a9 a10 : Option V} {σ : L2.St} (h : te (a0 :: a1 :: a2 :: a3 :: a4 :: a5 :: a6 :: a7 :: a8 :: a9 :: a10 :: some x :: σ) H fun y H1 => ti x y H1 fun z H2 => nx (a0 :: a1 :: a2 :: a3 :: a4 :: a5 :: a6 :: a7 :: a8 :: a9 :: a10 :: some z :: σ) H2) : tAug 11 te ti ⟨nx, rt, bk, ct⟩ (a0 :: a1 :: a2 :: a3 :: a4 :: a5 :: a6 :: a7 :: a8 :: a9 :: a10 :: some x :: σ) H := ⟨x, rfl, h⟩
theorem x_v12 {a0 a1 a2 a3 a4 a5 a6 a7 a8 a9 a10 a11 : Option V} {σ : L2.St} (h : Q v H) : tVar 12 (a0 :: a1 :: a2 :: a3 :: a4 :: a5 :: a6 :: a7 :: a8 :: a9 :: a10 :: a11 :: some v :: σ) H Q := ⟨v, rfl, h⟩
theorem x_g12 {a0 a1 a2 a3 a4 a5 a6 a7 a8 a9 a10 a11 : Option V} {x : Option V} {σ : L2.St} (h : QS (a0 :: a1 :: a2 :: a3 :: a4 :: a5 :: a6 :: a7 :: a8 :: a9 :: a10 :: a11 :: some v :: σ) H) : gName 12 v (a0 :: a1 :: a2 :: a3 :: a4 :: a5 :: a6 :: a7 :: a8 :: a9 :: a10 :: a11 :: x :: σ) H QS := h
theorem x_d12 {a0 a1 a2 a3 a4 a5 a6 a7 a8 a9 a10 a11 : Option V} {x : Option V} {σ : L2.St} {k : K0} (h : k (a0 :: a1 :: a2 :: a3 :: a4 :: a5 :: a6 :: a7 :: a8 :: a9 :: a10 :: a11 :: none :: σ) H) : gDel 12 (a0 :: a1 :: a2 :: a3 :: a4 :: a5 :: a6 :: a7 :: a8 :: a9 :: a10 :: a11 :: x :: σ) H k := h
theorem x_ml12 {a0 a1 a2 a3 a4 a5 a6 a7 a8 a9 a10 a11 : Option V} {σ : L2.St} (h : tMake C sp [] E tl (a0 :: a1 :: a2 :: a3 :: a4 :: a5 :: a6 :: a7 :: a8 :: a9 :: a10 :: a11 :: some (.ref C) :: σ) H Q) : eMakeL 12 C sp [] E tl (a0 :: a1 :: a2 :: a3 :: a4 :: a5 :: a6 :: a7 :: a8 :: a9 :: a10 :: a11 :: some (.ref C) :: σ) H Q := ⟨rfl, h⟩
theorem x_au12 {te : TE} {ti : TIp} {a0 a1 a2 a3 a4 a5 a6 a7 a8 a9 a10 a11 : Option V} {σ : L2.St} (h : te (a0 :: a1 :: a2 :: a3 :: a4 :: a5 :: a6 :: a7 :: a8 :: a9 :: a10 :: a11 :: some x :: σ) H fun y H1 => ti x y H1 fun z H2 => nx (a0 :: a1 :: a2 :: a3 :: a4 :: a5 :: a6 :: a7 :: a8 :: a9 :: a10 :: a11 :: some z :: σ) H2) : tAug 12 te ti ⟨nx, rt, bk, ct⟩ (a0 :: a1 :: a2 :: a3 :: a4 :: a5 :: a6 :: a7 :: a8 :: a9 :: a10 :: a11 :: some x :: σ) H := ⟨x, rfl, h⟩
theorem x_v13 {a0 a1 a2 a3 a4 a5 a6 a7 a8 a9 a10 a11 a12 : Option V} {σ : L2.St} (h : Q v H) : tVar 13 (a0 :: a1 :: a2 :: a3 :: a4 :: a5 :: a6 :: a7 :: a8 :: a9 :: a10 :: a11 :: a12 :: some v :: σ) H Q := ⟨v, rfl, h⟩
theorem x_g13 {a0 a1 a2 a3 a4 a5 a6 a7 a8 a9 a10 a11 a12 : Option V} {x : Option V} {σ : L2.St} (h : QS (a0 :: a1 :: a2 :: a3 :: a4 :: a5 :: a6 :: a7 :: a8 :: a9 :: a10 :: a11 :: a12 :: some v :: σ) H) : gName 13 v (a0 :: a1 :: a2 :: a3 :: a4 :: a5 :: a6 :: a7 :: a8 :: a9 :: a10 :: a11 :: a12 :: x :: σ) H QS := h
theorem x_d13 {a0 a1 a2 a3 a4 a5 a6 a7 a8 a9 a10 a11 a12 : Option V} {x : Option V} {σ : L2.St} {k : K0} (h : k (a0 :: a1 :: a2 :: a3 :: a4 :: a5 :: a6 :: a7 :: a8 :: a9 :: a10 :: a11 :: a12 :: none :: σ) H) : gDel 13 (a0 :: a1 :: a2 :: a3 :: a4 :: a5 :: a6 :: a7 :: a8 :: a9 :: a10 :: a11 :: a12 :: x :: σ) H k := h
theorem x_ml13 {a0 a1 a2 a3 a4 a5 a6 a7 a8 a9 a10 a11 a12 : Option V} {σ : L2.St} (h : tMake C sp [] E tl (a0 :: a1 :: a2 :: a3 :: a4 :: a5 :: a6 :: a7 :: a8 :: a9 :: a10 :: a11 :: a12 :: some (.ref C) :: σ) H Q) : eMakeL 13 C sp [] E tl (a0 :: a1 :: a2 :: a3 :: a4 :: a5 :: a6 :: a7 :: a8 :: a9 :: a10 :: a11 :: a12 :: some (.ref C) :: σ) H Q := ⟨rfl, h⟩
theorem x_au13 {te : TE} {ti : TIp} {a0 a1 a2 a3 a4 a5 a6 a7 a8 a9 a10 a11 a12 : Option V} {σ : L2.St} (h : te (a0 :: a1 :: a2 :: a3 :: a4 :: a5 :: a6 :: a7 :: a8 :: a9 :: a10 :: a11 :: a12 :: some x :: σ) H fun y H1 => ti x y H1 fun z H2 => nx (a0 :: a1 :: a2 :: a3 :: a4 :: a5 :: a6 :: a7 :: a8 :: a9 :: a10 :: a11 :: a12 :: some z :: σ) H2) : tAug 13 te ti ⟨nx, rt, bk, ct⟩ (a0 :: a1 :: a2 :: a3 :: a4 :: a5 :: a6 :: a7 :: a8 :: a9 :: a10 :: a11 :: a12 :: some x :: σ) H := ⟨x, rfl, h⟩
theorem x_v14 {a0 a1 a2 a3 a4 a5 a6 a7 a8 a9 a10 a11 a12 a13 : Option V} {σ : L2.St} (h : Q v H) : tVar 14 (a0 :: a1 :: a2 :: a3 :: a4 :: a5 :: a6 :: a7 :: a8 :: a9 :: a10 :: a11 :: a12 :: a13 :: some v :: σ) H Q := ⟨v, rfl, h⟩
theorem x_g14 {a0 a1 a2 a3 a4 a5 a6 a7 a8 a9 a10 a11 a12 a13 : Option V} {x : Option V} {σ : L2.St} (h : QS (a0 :: a1 :: a2 :: a3 :: a4 :: a5 :: a6 :: a7 :: a8 :: a9 :: a10 :: a11 :: a12 :: a13 :: some v :: σ) H) : gName 14 v (a0 :: a1 :: a2 :: a3 :: a4 :: a5 :: a6 :: a7 :: a8 :: a9 :: a10 :: a11 :: a12 :: a13 :: x :: σ) H QS := h
theorem x_d14 {a0 a1 a2 a3 a4 a5 a6 a7 a8 a9 a10 a11 a12 a13 : Option V} {x : Option V} {σ : L2.St} {k : K0} (h : k (a0 :: a1 :: a2 :: a3 :: a4 :: a5 :: a6 :: a7 :: a8 :: a9 :: a10 :: a11 :: a12 :: a13 :: none :: σ) H) : gDel 14 (a0 :: a1 :: a2 :: a3 :: a4 :: a5 :: a6 :: a7 :: a8 :: a9 :: a10 :: a11 :: a12 :: a13 :: x :: σ) H k := h
theorem x_ml14 {a0 a1 a2 a3 a4 a5 a6 a7 a8 a9 a10 a11 a12 a13 : Option V} {σ : L2.St} (h : tMake C sp [] E tl (a0 :: a1 :: a2 :: a3 :: a4 :: a5 :: a6 :: a7 :: a8 :: a9 :: a10 :: a11 :: a12 :: a13 :: some (.ref C) :: σ) H Q) : eMakeL 14 C sp [] E tl (a0 :: a1 :: a2 :: a3 :: a4 :: a5 :: a6 :: a7 :: a8 :: a9 :: a10 :: a11 :: a12 :: a13 :: some (.ref C) :: σ) H Q := ⟨rfl, h⟩
theorem x_au14 {te : TE} {ti : TIp} {a0 a1 a2 a3 a4 a5 a6 a7 a8 a9 a10 a11 a12 a13 : Option V} {σ : L2.St} (h : te (a0 :: a1 :: a2 :: a3 :: a4 :: a5 :: a6 :: a7 :: a8 :: a9 :: a10 :: a11 :: a12 :: a13 :: some x :: σ) H fun y H1 => ti x y H1 fun z H2 => nx (a0 :: a1 :: a2 :: a3 :: a4 :: a5 :: a6 :: a7 :: a8 :: a9 :: a10 :: a11 :: a12 :: a13 :: some z :: σ) H2) : tAug 14 te ti ⟨nx, rt, bk, ct⟩ (a0 :: a1 :: a2 :: a3 :: a4 :: a5 :: a6 :: a7 :: a8 :: a9 :: a10 :: a11 :: a12 :: a13 :: some x :: σ) H := ⟨x, rfl, h⟩
theorem x_v15 {a0 a1 a2 a3 a4 a5 a6 a7 a8 a9 a10 a11 a12 a13 a14 : Option V} {σ : L2.St} (h : Q v H) : tVar 15 (a0 :: a1 :: a2 :: a3 :: a4 :: a5 :: a6 :: a7 :: a8 :: a9 :: a10 :: a11 :: a12 :: a13 :: a14 :: some v :: σ) H Q := ⟨v, rfl, h⟩
theorem x_g15 {a0 a1 a2 a3 a4 a5 a6 a7 a8 a9 a10 a11 a12 a13 a14 : Option V} {x : Option V} {σ : L2.St} (h : QS (a0 :: a1 :: a2 :: a3 :: a4 :: a5 :: a6 :: a7 :: a8 :: a9 :: a10 :: a11 :: a12 :: a13 :: a14 :: some v :: σ) H) : gName 15 v (a0 :: a1 :: a2 :: a3 :: a4 :: a5 :: a6 :: a7 :: a8 :: a9 :: a10 :: a11 :: a12 :: a13 :: a14 :: x :: σ) H QS := h
theorem x_d15 {a0 a1 a2 a3 a4 a5 a6 a7 a8 a9 a10 a11 a12 a13 a14 : Option V} {x : Option V} {σ : L2.St} {k : K0} (h : k (a0 :: a1 :: a2 :: a3 :: a4 :: a5 :: a6 :: a7 :: a8 :: a9 :: a10 :: a11 :: a12 :: a13 :: a14 :: none :: σ) H) : gDel 15 (a0 :: a1 :: a2 :: a3 :: a4 :: a5 :: a6 :: a7 :: a8 :: a9 :: a10 :: a11 :: a12 :: a13 :: a14 :: x :: σ) H k := h
theorem x_ml15 {a0 a1 a2 a3 a4 a5 a6 a7 a8 a9 a10 a11 a12 a13 a14 : Option V} {σ : L2.St} (h : tMake C sp [] E tl (a0 :: a1 :: a2 :: a3 :: a4 :: a5 :: a6 :: a7 :: a8 :: a9 :: a10 :: a11 :: a12 :: a13 :: a14 :: some (.ref C) :: σ) H Q) : eMakeL 15 C sp [] E tl (a0 :: a1 :: a2 :: a3 :: a4 :: a5 :: a6 :: a7 :: a8 :: a9 :: a10 :: a11 :: a12 :: a13 :: a14 :: some (.ref C) :: σ) H Q := ⟨rfl, h⟩
theorem x_au15 {te : TE} {ti : TIp} {a0 a1 a2 a3 a4 a5 a6 a7 a8 a9 a10 a11 a12 a13 a14 : Option V} {σ : L2.St} (h : te (a0 :: a1 :: a2 :: a3 :: a4 :: a5 :: a6 :: a7 :: a8 :: a9 :: a10 :: a11 :: a12 :: a13 :: a14 :: some x :: σ) H fun y H1 => ti x y H1 fun z H2 => nx (a0 :: a1 :: a2 :: a3 :: a4 :: a5 :: a6 :: a7 :: a8 :: a9 :: a10 :: a11 :: a12 :: a13 :: a14 :: some z :: σ) H2) : tAug 15 te ti ⟨nx, rt, bk, ct⟩ (a0 :: a1 :: a2 :: a3 :: a4 :: a5 :: a6 :: a7 :: a8 :: a9 :: a10 :: a11 :: a12 :: a13 :: a14 :: some x :: σ) H := ⟨x, rfl, h⟩
theorem x_v16 {a0 a1 a2 a3 a4 a5 a6 a7 a8 a9 a10 a11 a12 a13 a14 a15 : Option V} {σ : L2.St} (h : Q v H) : tVar 16 (a0 :: a1 :: a2 :: a3 :: a4 :: a5 :: a6 :: a7 :: a8 :: a9 :: a10 :: a11 :: a12 :: a13 :: a14 :: a15 :: some v :: σ) H Q := ⟨v, rfl, h⟩
theorem x_g16 {a0 a1 a2 a3 a4 a5 a6 a7 a8 a9 a10 a11 a12 a13 a14 a15 : Option V} {x : Option V} {σ : L2.St} (h : QS (a0 :: a1 :: a2 :: a3 :: a4 :: a5 :: a6 :: a7 :: a8 :: a9 :: a10 :: a11 :: a12 :: a13 :: a14 :: a15 :: some v :: σ) H) : gName 16 v (a0 :: a1 :: a2 :: a3 :: a4 :: a5 :: a6 :: a7 :: a8 :: a9 :: a10 :: a11 :: a12 :: a13 :: a14 :: a15 :: x :: σ) H QS := h
theorem x_d16 {a0 a1 a2 a3 a4 a5 a6 a7 a8 a9 a10 a11 a12 a13 a14 a15 : Option V} {x : Option V} {σ : L2.St} {k : K0} (h : k (a0 :: a1 :: a2 :: a3 :: a4 :: a5 :: a6 :: a7 :: a8 :: a9 :: a10 :: a11 :: a12 :: a13 :: a14 :: a15 :: none :: σ) H) : gDel 16 (a0 :: a1 :: a2 :: a3 :: a4 :: a5 :: a6 :: a7 :: a8 :: a9 :: a10 :: a11 :: a12 :: a13 :: a14 :: a15 :: x :: σ) H k := h
theorem x_ml16 {a0 a1 a2 a3 a4 a5 a6 a7 a8 a9 a10 a11 a12 a13 a14 a15 : Option V} {σ : L2.St} (h : tMake C sp [] E tl (a0 :: a1 :: a2 :: a3 :: a4 :: a5 :: a6 :: a7 :: a8 :: a9 :: a10 :: a11 :: a12 :: a13 :: a14 :: a15 :: some (.ref C) :: σ) H Q) : eMakeL 16 C sp [] E tl (a0 :: a1 :: a2 :: a3 :: a4 :: a5 :: a6 :: a7 :: a8 :: a9 :: a10 :: a11 :: a12 :: a13 :: a14 :: a15 :: some (.ref C) :: σ) H Q := ⟨rfl, h⟩
theorem x_au16 {te : TE} {ti : TIp} {a0 a1 a2 a3 a4 a5 a6 a7 a8 a9 a10 a11 a12 a13 a14 a15 : Option V} {σ : L2.St} (h : te (a0 :: a1 :: a2 :: a3 :: a4 :: a5 :: a6 :: a7 :: a8 :: a9 :: a10 :: a11 :: a12 :: a13 :: a14 :: a15 :: some x :: σ) H fun y H1 => ti x y H1 fun z H2 => nx (a0 :: a1 :: a2 :: a3 :: a4 :: a5 :: a6 :: a7 :: a8 :: a9 :: a10 :: a11 :: a12 :: a13 :: a14 :: a15 :: some z :: σ) H2) : tAug 16 te ti ⟨nx, rt, bk, ct⟩ (a0 :: a1 :: a2 :: a3 :: a4 :: a5 :: a6 :: a7 :: a8 :: a9 :: a10 :: a11 :: a12 :: a13 :: a14 :: a15 :: some x :: σ) H := ⟨x, rfl, h⟩
theorem x_v17 {a0 a1 a2 a3 a4 a5 a6 a7 a8 a9 a10 a11 a12 a13 a14 a15 a16 : Option V} {σ : L2.St} (h : Q v H) : tVar 17 (a0 :: a1 :: a2 :: a3 :: a4 :: a5 :: a6 :: a7 :: a8 :: a9 :: a10 :: a11 :: a12 :: a13 :: a14 :: a15 :: a16 :: some v :: σ) H Q := ⟨v, rfl, h⟩
theorem x_g17 {a0 a1 a2 a3 a4 a5 a6 a7 a8 a9 a10 a11 a12 a13 a14 a15 a16 : Option V} {x : Option V} {σ : L2.St} (h : QS (a0 :: a1 :: a2 :: a3 :: a4 :: a5 :: a6 :: a7 :: a8 :: a9 :: a10 :: a11 :: a12 :: a13 :: a14 :: a15 :: a16 :: some v :: σ) H) : gName 17 v (a0 :: a1 :: a2 :: a3 :: a4 :: a5 :: a6 :: a7 :: a8 :: a9 :: a10 :: a11 :: a12 :: a13 :: a14 :: a15 :: a16 :: x :: σ) H QS := h
theorem x_d17 {a0 a1 a2 a3 a4 a5 a6 a7 a8 a9 a10 a11 a12 a13 a14 a15 a16 : Option V} {x : Option V} {σ : L2.St} {k : K0} (h : k (a0 :: a1 :: a2 :: a3 :: a4 :: a5 :: a6 :: a7 :: a8 :: a9 :: a10 :: a11 :: a12 :: a13 :: a14 :: a15 :: a16 :: none :: σ) H) : gDel 17 (a0 :: a1 :: a2 :: a3 :: a4 :: a5 :: a6 :: a7 :: a8 :: a9 :: a10 :: a11 :: a12 :: a13 :: a14 :: a15 :: a16 :: x :: σ) H k := h
theorem x_ml17 {a0 a1 a2 a3 a4 a5 a6 a7 a8 a9 a10 a11 a12 a13 a14 a15 a16 : Option V} {σ : L2.St} (h : tMake C sp [] E tl (a0 :: a1 :: a2 :: a3 :: a4 :: a5 :: a6 :: a7 :: a8 :: a9 :: a10 :: a11 :: a12 :: a13 :: a14 :: a15 :: a16 :: some (.ref C) :: σ) H Q) : eMakeL 17 C sp [] E tl (a0 :: a1 :: a2 :: a3 :: a4 :: a5 :: a6 :: a7 :: a8 :: a9 :: a10 :: a11 :: a12 :: a13 :: a14 :: a15 :: a16 :: some (.ref C) :: σ) H Q := ⟨rfl, h⟩
theorem x_au17 {te : TE} {ti : TIp} {a0 a1 a2 a3 a4 a5 a6 a7 a8 a9 a10 a11 a12 a13 a14 a15 a16 : Option V} {σ : L2.St} (h : te (a0 :: a1 :: a2 :: a3 :: a4 :: a5 :: a6 :: a7 :: a8 :: a9 :: a10 :: a11 :: a12 :: a13 :: a14 :: a15 :: a16 :: some x :: σ) H fun y H1 => ti x y H1 fun z H2 => nx (a0 :: a1 :: a2 :: a3 :: a4 :: a5 :: a6 :: a7 :: a8 :: a9 :: a10 :: a11 :: a12 :: a13 :: a14 :: a15 :: a16 :: some z :: σ) H2) : tAug 17 te ti ⟨nx, rt, bk, ct⟩ (a0 :: a1 :: a2 :: a3 :: a4 :: a5 :: a6 :: a7 :: a8 :: a9 :: a10 :: a11 :: a12 :: a13 :: a14 :: a15 :: a16 :: some x :: σ) H := ⟨x, rfl, h⟩
theorem x_v18 {a0 a1 a2 a3 a4 a5 a6 a7 a8 a9 a10 a11 a12 a13 a14 a15 a16 a17 : Option V} {σ : L2.St} (h : Q v H) : tVar 18 (a0 :: a1 :: a2 :: a3 :: a4 :: a5 :: a6 :: a7 :: a8 :: a9 :: a10 :: a11 :: a12 :: a13 :: a14 :: a15 :: a16 :: a17 :: some v :: σ) H Q := ⟨v, rfl, h⟩
theorem x_g18 {a0 a1 a2 a3 a4 a5 a6 a7 a8 a9 a10 a11 a12 a13 a14 a15 a16 a17 : Option V} {x : Option V} {σ : L2.St} (h : QS (a0 :: a1 :: a2 :: a3 :: a4 :: a5 :: a6 :: a7 :: a8 :: a9 :: a10 :: a11 :: a12 :: a13 :: a14 :: a15 :: a16 :: a17 :: some v :: σ) H) : gName 18 v (a0 :: a1 :: a2 :: a3 :: a4 :: a5 :: a6 :: a7 :: a8 :: a9 :: a10 :: a11 :: a12 :: a13 :: a14 :: a15 :: a16 :: a17 :: x :: σ) H QS := h
theorem x_d18 {a0 a1 a2 a3 a4 a5 a6 a7 a8 a9 a10 a11 a12 a13 a14 a15 a16 a17 : Option V} {x : Option V} {σ : L2.St} {k : K0} (h : k (a0 :: a1 :: a2 :: a3 :: a4 :: a5 :: a6 :: a7 :: a8 :: a9 :: a10 :: a11 :: a12 :: a13 :: a14 :: a15 :: a16 :: a17 :: none :: σ) H) : gDel 18 (a0 :: a1 :: a2 :: a3 :: a4 :: a5 :: a6 :: a7 :: a8 :: a9 :: a10 :: a11 :: a12 :: a13 :: a14 :: a15 :: a16 :: a17 :: x :: σ) H k := h
theorem x_ml18 {a0 a1 a2 a3 a4 a5 a6 a7 a8 a9 a10 a11 a12 a13 a14 a15 a16 a17 : Option V} {σ : L2.St} (h : tMake C sp [] E tl (a0 :: a1 :: a2 :: a3 :: a4 :: a5 :: a6 :: a7 :: a8 :: a9 :: a10 :: a11 :: a12 :: a13 :: a14 :: a15 :: a16 :: a17 :: some (.ref C) :: σ) H Q) : eMakeL 18 C sp [] E tl (a0 :: a1 :: a2 :: a3 :: a4 :: a5 :: a6 :: a7 :: a8 :: a9 :: a10 :: a11 :: a12 :: a13 :: a14 :: a15 :: a16 :: a17 :: some (.ref C) :: σ) H Q := ⟨rfl, h⟩
theorem x_au18 {te : TE} {ti : TIp} {a0 a1 a2 a3 a4 a5 a6 a7 a8 a9 a10 a11 a12 a13 a14 a15 a16 a17 : Option V} {σ : L2.St} (h : te (a0 :: a1 :: a2 :: a3 :: a4 :: a5 :: a6 :: a7 :: a8 :: a9 :: a10 :: a11 :: a12 :: a13 :: a14 :: a15 :: a16 :: a17 :: some x :: σ) H fun y H1 => ti x y H1 fun z H2 => nx (a0 :: a1 :: a2 :: a3 :: a4 :: a5 :: a6 :: a7 :: a8 :: a9 :: a10 :: a11 :: a12 :: a13 :: a14 :: a15 :: a16 :: a17 :: some z :: σ) H2) : tAug 18 te ti ⟨nx, rt, bk, ct⟩ (a0 :: a1 :: a2 :: a3 :: a4 :: a5 :: a6 :: a7 :: a8 :: a9 :: a10 :: a11 :: a12 :: a13 :: a14 :: a15 :: a16 :: a17 :: some x :: σ) H := ⟨x, rfl, h⟩
theorem x_v19 {a0 a1 a2 a3 a4 a5 a6 a7 a8 a9 a10 a11 a12 a13 a14 a15 a16 a17 a18 : Option V} {σ : L2.St} (h : Q v H) : tVar 19 (a0 :: a1 :: a2 :: a3 :: a4 :: a5 :: a6 :: a7 :: a8 :: a9 :: a10 :: a11 :: a12 :: a13 :: a14 :: a15 :: a16 :: a17 :: a18 :: some v :: σ) H Q := ⟨v, rfl, h⟩
theorem x_g19 {a0 a1 a2 a3 a4 a5 a6 a7 a8 a9 a10 a11 a12 a13 a14 a15 a16 a17 a18 : Option V} {x : Option V} {σ : L2.St} (h : QS (a0 :: a1 :: a2 :: a3 :: a4 :: a5 :: a6 :: a7 :: a8 :: a9 :: a10 :: a11 :: a12 :: a13 :: a14 :: a15 :: a16 :: a17 :: a18 :: some v :: σ) H) : gName 19 v (a0 :: a1 :: a2 :: a3 :: a4 :: a5 :: a6 :: a7 :: a8 :: a9 :: a10 :: a11 :: a12 :: a13 :: a14 :: a15 :: a16 :: a17 :: a18 :: x :: σ) H QS := h
theorem x_d19 {a0 a1 a2 a3 a4 a5 a6 a7 a8 a9 a10 a11 a12 a13 a14 a15 a16 a17 a18 : Option V} {x : Option V} {σ : L2.St} {k : K0} (h : k (a0 :: a1 :: a2 :: a3 :: a4 :: a5 :: a6 :: a7 :: a8 :: a9 :: a10 :: a11 :: a12 :: a13 :: a14 :: a15 :: a16 :: a17 :: a18 :: none :: σ) H) : gDel 19 (a0 :: a1 :: a2 :: a3 :: a4 :: a5 :: a6 :: a7 :: a8 :: a9 :: a10 :: a11 :: a12 :: a13 :: a14 :: a15 :: a16 :: a17 :: a18 :: x :: σ) H k := h
theorem x_ml19 {a0 a1 a2 a3 a4 a5 a6 a7 a8 a9 a10 a11 a12 a13 a14 a15 a16 a17 a18 : Option V} {σ : L2.St} (h : tMake C sp [] E tl (a0 :: a1 :: a2 :: a3 :: a4 :: a5 :: a6 :: a7 :: a8 :: a9 :: a10 :: a11 :: a12 :: a13 :: a14 :: a15 :: a16 :: a17 :: a18 :: some (.ref C) :: σ) H Q) : eMakeL 19 C sp [] E tl (a0 :: a1 :: a2 :: a3 :: a4 :: a5 :: a6 :: a7 :: a8 :: a9 :: a10 :: a11 :: a12 :: a13 :: a14 :: a15 :: a16 :: a17 :: a18 :: some (.ref C) :: σ) H Q := ⟨rfl, h⟩
theorem x_au19 {te : TE} {ti : TIp} {a0 a1 a2 a3 a4 a5 a6 a7 a8 a9 a10 a11 a12 a13 a14 a15 a16 a17 a18 : Option V} {σ : L2.St} (h : te (a0 :: a1 :: a2 :: a3 :: a4 :: a5 :: a6 :: a7 :: a8 :: a9 :: a10 :: a11 :: a12 :: a13 :: a14 :: a15 :: a16 :: a17 :: a18 :: some x :: σ) H fun y H1 => ti x y H1 fun z H2 => nx (a0 :: a1 :: a2 :: a3 :: a4 :: a5 :: a6 :: a7 :: a8 :: a9 :: a10 :: a11 :: a12 :: a13 :: a14 :: a15 :: a16 :: a17 :: a18 :: some z :: σ) H2) : tAug 19 te ti ⟨nx, rt, bk, ct⟩ (a0 :: a1 :: a2 :: a3 :: a4 :: a5 :: a6 :: a7 :: a8 :: a9 :: a10 :: a11 :: a12 :: a13 :: a14 :: a15 :: a16 :: a17 :: a18 :: some x :: σ) H := ⟨x, rfl, h⟩
theorem x_v20 {a0 a1 a2 a3 a4 a5 a6 a7 a8 a9 a10 a11 a12 a13 a14 a15 a16 a17 a18 a19 : Option V} {σ : L2.St} (h : Q v H) : tVar 20 (a0 :: a1 :: a2 :: a3 :: a4 :: a5 :: a6 :: a7 :: a8 :: a9 :: a10 :: a11 :: a12 :: a13 :: a14 :: a15 :: a16 :: a17 :: a18 :: a19 :: some v :: σ) H Q := ⟨v, rfl, h⟩
theorem x_g20 {a0 a1 a2 a3 a4 a5 a6 a7 a8 a9 a10 a11 a12 a13 a14 a15 a16 a17 a18 a19 : Option V} {x : Option V} {σ : L2.St} (h : QS (a0 :: a1 :: a2 :: a3 :: a4 :: a5 :: a6 :: a7 :: a8 :: a9 :: a10 :: a11 :: a12 :: a13 :: a14 :: a15 :: a16 :: a17 :: a18 :: a19 :: some v :: σ) H) : gName 20 v (a0 :: a1 :: a2 :: a3 :: a4 :: a5 :: a6 :: a7 :: a8 :: a9 :: a10 :: a11 :: a12 :: a13 :: a14 :: a15 :: a16 :: a17 :: a18 :: a19 :: x :: σ) H QS := h
theorem x_d20 {a0 a1 a2 a3 a4 a5 a6 a7 a8 a9 a10 a11 a12 a13 a14 a15 a16 a17 a18 a19 : Option V} {x : Option V} {σ : L2.St} {k : K0} (h : k (a0 :: a1 :: a2 :: a3 :: a4 :: a5 :: a6 :: a7 :: a8 :: a9 :: a10 :: a11 :: a12 :: a13 :: a14 :: a15 :: a16 :: a17 :: a18 :: a19 :: none :: σ) H) : gDel 20 (a0 :: a1 :: a2 :: a3 :: a4 :: a5 :: a6 :: a7 :: a8 :: a9 :: a10 :: a11 :: a12 :: a13 :: a14 :: a15 :: a16 :: a17 :: a18 :: a19 :: x :: σ) H k := h
theorem x_ml20 {a0 a1 a2 a3 a4 a5 a6 a7 a8 a9 a10 a11 a12 a13 a14 a15 a16 a17 a18 a19 : Option V} {σ : L2.St} (h : tMake C sp [] E tl (a0 :: a1 :: a2 :: a3 :: a4 :: a5 :: a6 :: a7 :: a8 :: a9 :: a10 :: a11 :: a12 :: a13 :: a14 :: a15 :: a16 :: a17 :: a18 :: a19 :: some (.ref C) :: σ) H Q) : eMakeL 20 C sp [] E tl (a0 :: a1 :: a2 :: a3 :: a4 :: a5 :: a6 :: a7 :: a8 :: a9 :: a10 :: a11 :: a12 :: a13 :: a14 :: a15 :: a16 :: a17 :: a18 :: a19 :: some (.ref C) :: σ) H Q := ⟨rfl, h⟩
theorem x_au20 {te : TE} {ti : TIp} {a0 a1 a2 a3 a4 a5 a6 a7 a8 a9 a10 a11 a12 a13 a14 a15 a16 a17 a18 a19 : Option V} {σ : L2.St} (h : te (a0 :: a1 :: a2 :: a3 :: a4 :: a5 :: a6 :: a7 :: a8 :: a9 :: a10 :: a11 :: a12 :: a13 :: a14 :: a15 :: a16 :: a17 :: a18 :: a19 :: some x :: σ) H fun y H1 => ti x y H1 fun z H2 => nx (a0 :: a1 :: a2 :: a3 :: a4 :: a5 :: a6 :: a7 :: a8 :: a9 :: a10 :: a11 :: a12 :: a13 :: a14 :: a15 :: a16 :: a17 :: a18 :: a19 :: some z :: σ) H2) : tAug 20 te ti ⟨nx, rt, bk, ct⟩ (a0 :: a1 :: a2 :: a3 :: a4 :: a5 :: a6 :: a7 :: a8 :: a9 :: a10 :: a11 :: a12 :: a13 :: a14 :: a15 :: a16 :: a17 :: a18 :: a19 :: some x :: σ) H := ⟨x, rfl, h⟩
theorem x_v21 {a0 a1 a2 a3 a4 a5 a6 a7 a8 a9 a10 a11 a12 a13 a14 a15 a16 a17 a18 a19 a20 : Option V} {σ : L2.St} (h : Q v H) : tVar 21 (a0 :: a1 :: a2 :: a3 :: a4 :: a5 :: a6 :: a7 :: a8 :: a9 :: a10 :: a11 :: a12 :: a13 :: a14 :: a15 :: a16 :: a17 :: a18 :: a19 :: a20 :: some v :: σ) H Q := ⟨v, rfl, h⟩
theorem x_g21 {a0 a1 a2 a3 a4 a5 a6 a7 a8 a9 a10 a11 a12 a13 a14 a15 a16 a17 a18 a19 a20 : Option V} {x : Option V} {σ : L2.St} (h : QS (a0 :: a1 :: a2 :: a3 :: a4 :: a5 :: a6 :: a7 :: a8 :: a9 :: a10 :: a11 :: a12 :: a13 :: a14 :: a15 :: a16 :: a17 :: a18 :: a19 :: a20 :: some v :: σ) H) : gName 21 v (a0 :: a1 :: a2 :: a3 :: a4 :: a5 :: a6 :: a7 :: a8 :: a9 :: a10 :: a11 :: a12 :: a13 :: a14 :: a15 :: a16 :: a17 :: a18 :: a19 :: a20 :: x :: σ) H QS := h
theorem x_d21 {a0 a1 a2 a3 a4 a5 a6 a7 a8 a9 a10 a11 a12 a13 a14 a15 a16 a17 a18 a19 a20 : Option V} {x : Option V} {σ : L2.St} {k : K0} (h : k (a0 :: a1 :: a2 :: a3 :: a4 :: a5 :: a6 :: a7 :: a8 :: a9 :: a10 :: a11 :: a12 :: a13 :: a14 :: a15 :: a16 :: a17 :: a18 :: a19 :: a20 :: none :: σ) H) : gDel 21 (a0 :: a1 :: a2 :: a3 :: a4 :: a5 :: a6 :: a7 :: a8 :: a9 :: a10 :: a11 :: a12 :: a13 :: a14 :: a15 :: a16 :: a17 :: a18 :: a19 :: a20 :: x :: σ) H k := h
theorem x_ml21 {a0 a1 a2 a3 a4 a5 a6 a7 a8 a9 a10 a11 a12 a13 a14 a15 a16 a17 a18 a19 a20 : Option V} {σ : L2.St} (h : tMake C sp [] E tl (a0 :: a1 :: a2 :: a3 :: a4 :: a5 :: a6 :: a7 :: a8 :: a9 :: a10 :: a11 :: a12 :: a13 :: a14 :: a15 :: a16 :: a17 :: a18 :: a19 :: a20 :: some (.ref C) :: σ) H Q) : eMakeL 21 C sp [] E tl (a0 :: a1 :: a2 :: a3 :: a4 :: a5 :: a6 :: a7 :: a8 :: a9 :: a10 :: a11 :: a12 :: a13 :: a14 :: a15 :: a16 :: a17 :: a18 :: a19 :: a20 :: some (.ref C) :: σ) H Q := ⟨rfl, h⟩
theorem x_au21 {te : TE} {ti : TIp} {a0 a1 a2 a3 a4 a5 a6 a7 a8 a9 a10 a11 a12 a13 a14 a15 a16 a17 a18 a19 a20 : Option V} {σ : L2.St} (h : te (a0 :: a1 :: a2 :: a3 :: a4 :: a5 :: a6 :: a7 :: a8 :: a9 :: a10 :: a11 :: a12 :: a13 :: a14 :: a15 :: a16 :: a17 :: a18 :: a19 :: a20 :: some x :: σ) H fun y H1 => ti x y H1 fun z H2 => nx (a0 :: a1 :: a2 :: a3 :: a4 :: a5 :: a6 :: a7 :: a8 :: a9 :: a10 :: a11 :: a12 :: a13 :: a14 :: a15 :: a16 :: a17 :: a18 :: a19 :: a20 :: some z :: σ) H2) : tAug 21 te ti ⟨nx, rt, bk, ct⟩ (a0 :: a1 :: a2 :: a3 :: a4 :: a5 :: a6 :: a7 :: a8 :: a9 :: a10 :: a11 :: a12 :: a13 :: a14 :: a15 :: a16 :: a17 :: a18 :: a19 :: a20 :: some x :: σ) H := ⟨x, rfl, h⟩
theorem x_v22 {a0 a1 a2 a3 a4 a5 a6 a7 a8 a9 a10 a11 a12 a13 a14 a15 a16 a17 a18 a19 a20 a21 : Option V} {σ : L2.St} (h : Q v H) : tVar 22 (a0 :: a1 :: a2 :: a3 :: a4 :: a5 :: a6 :: a7 :: a8 :: a9 :: a10 :: a11 :: a12 :: a13 :: a14 :: a15 :: a16 :: a17 :: a18 :: a19 :: a20 :: a21 :: some v :: σ) H Q := ⟨v, rfl, h⟩
theorem x_g22 {a0 a1 a2 a3 a4 a5 a6 a7 a8 a9 a10 a11 a12 a13 a14 a15 a16 a17 a18 a19 a20 a21 : Option V} {x : Option V} {σ : L2.St} (h : QS (a0 :: a1 :: a2 :: a3 :: a4 :: a5 :: a6 :: a7 :: a8 :: a9 :: a10 :: a11 :: a12 :: a13 :: a14 :: a15 :: a16 :: a17 :: a18 :: a19 :: a20 :: a21 :: some v :: σ) H) : gName 22 v (a0 :: a1 :: a2 :: a3 :: a4 :: a5 :: a6 :: a7 :: a8 :: a9 :: a10 :: a11 :: a12 :: a13 :: a14 :: a15 :: a16 :: a17 :: a18 :: a19 :: a20 :: a21 :: x :: σ) H QS := h
theorem x_d22 {a0 a1 a2 a3 a4 a5 a6 a7 a8 a9 a10 a11 a12 a13 a14 a15 a16 a17 a18 a19 a20 a21 : Option V} {x : Option V} {σ : L2.St} {k : K0} (h : k (a0 :: a1 :: a2 :: a3 :: a4 :: a5 :: a6 :: a7 :: a8 :: a9 :: a10 :: a11 :: a12 :: a13 :: a14 :: a15 :: a16 :: a17 :: a18 :: a19 :: a20 :: a21 :: none :: σ) H) : gDel 22 (a0 :: a1 :: a2 :: a3 :: a4 :: a5 :: a6 :: a7 :: a8 :: a9 :: a10 :: a11 :: a12 :: a13 :: a14 :: a15 :: a16 :: a17 :: a18 :: a19 :: a20 :: a21 :: x :: σ) H k := h
theorem x_ml22 {a0 a1 a2 a3 a4 a5 a6 a7 a8 a9 a10 a11 a12 a13 a14 a15 a16 a17 a18 a19 a20 a21 : Option V} {σ : L2.St} (h : tMake C sp [] E tl (a0 :: a1 :: a2 :: a3 :: a4 :: a5 :: a6 :: a7 :: a8 :: a9 :: a10 :: a11 :: a12 :: a13 :: a14 :: a15 :: a16 :: a17 :: a18 :: a19 :: a20 :: a21 :: some (.ref C) :: σ) H Q) : eMakeL 22 C sp [] E tl (a0 :: a1 :: a2 :: a3 :: a4 :: a5 :: a6 :: a7 :: a8 :: a9 :: a10 :: a11 :: a12 :: a13 :: a14 :: a15 :: a16 :: a17 :: a18 :: a19 :: a20 :: a21 :: some (.ref C) :: σ) H Q := ⟨rfl, h⟩
theorem x_au22 {te : TE} {ti : TIp} {a0 a1 a2 a3 a4 a5 a6 a7 a8 a9 a10 a11 a12 a13 a14 a15 a16 a17 a18 a19 a20 a21 : Option V} {σ : L2.St} (h : te (a0 :: a1 :: a2 :: a3 :: a4 :: a5 :: a6 :: a7 :: a8 :: a9 :: a10 :: a11 :: a12 :: a13 :: a14 :: a15 :: a16 :: a17 :: a18 :: a19 :: a20 :: a21 :: some x :: σ) H fun y H1 => ti x y H1 fun z H2 => nx (a0 :: a1 :: a2 :: a3 :: a4 :: a5 :: a6 :: a7 :: a8 :: a9 :: a10 :: a11 :: a12 :: a13 :: a14 :: a15 :: a16 :: a17 :: a18 :: a19 :: a20 :: a21 :: some z :: σ) H2) : tAug 22 te ti ⟨nx, rt, bk, ct⟩ (a0 :: a1 :: a2 :: a3 :: a4 :: a5 :: a6 :: a7 :: a8 :: a9 :: a10 :: a11 :: a12 :: a13 :: a14 :: a15 :: a16 :: a17 :: a18 :: a19 :: a20 :: a21 :: some x :: σ) H := ⟨x, rfl, h⟩
theorem x_v23 {a0 a1 a2 a3 a4 a5 a6 a7 a8 a9 a10 a11 a12 a13 a14 a15 a16 a17 a18 a19 a20 a21 a22 : Option V} {σ : L2.St} (h : Q v H) : tVar 23 (a0 :: a1 :: a2 :: a3 :: a4 :: a5 :: a6 :: a7 :: a8 :: a9 :: a10 :: a11 :: a12 :: a13 :: a14 :: a15 :: a16 :: a17 :: a18 :: a19 :: a20 :: a21 :: a22 :: some v :: σ) H Q := ⟨v, rfl, h⟩
theorem x_g23 {a0 a1 a2 a3 a4 a5 a6 a7 a8 a9 a10 a11 a12 a13 a14 a15 a16 a17 a18 a19 a20 a21 a22 : Option V} {x : Option V} {σ : L2.St} (h : QS (a0 :: a1 :: a2 :: a3 :: a4 :: a5 :: a6 :: a7 :: a8 :: a9 :: a10 :: a11 :: a12 :: a13 :: a14 :: a15 :: a16 :: a17 :: a18 :: a19 :: a20 :: a21 :: a22 :: some v :: σ) H) : gName 23 v (a0 :: a1 :: a2 :: a3 :: a4 :: a5 :: a6 :: a7 :: a8 :: a9 :: a10 :: a11 :: a12 :: a13 :: a14 :: a15 :: a16 :: a17 :: a18 :: a19 :: a20 :: a21 :: a22 :: x :: σ) H QS := h
theorem x_d23 {a0 a1 a2 a3 a4 a5 a6 a7 a8 a9 a10 a11 a12 a13 a14 a15 a16 a17 a18 a19 a20 a21 a22 : Option V} {x : Option V} {σ : L2.St} {k : K0} (h : k (a0 :: a1 :: a2 :: a3 :: a4 :: a5 :: a6 :: a7 :: a8 :: a9 :: a10 :: a11 :: a12 :: a13 :: a14 :: a15 :: a16 :: a17 :: a18 :: a19 :: a20 :: a21 :: a22 :: none :: σ) H) : gDel 23 (a0 :: a1 :: a2 :: a3 :: a4 :: a5 :: a6 :: a7 :: a8 :: a9 :: a10 :: a11 :: a12 :: a13 :: a14 :: a15 :: a16 :: a17 :: a18 :: a19 :: a20 :: a21 :: a22 :: x :: σ) H k := h
theorem x_ml23 {a0 a1 a2 a3 a4 a5 a6 a7 a8 a9 a10 a11 a12 a13 a14 a15 a16 a17 a18 a19 a20 a21 a22 : Option V} {σ : L2.St} (h : tMake C sp [] E tl (a0 :: a1 :: a2 :: a3 :: a4 :: a5 :: a6 :: a7 :: a8 :: a9 :: a10 :: a11 :: a12 :: a13 :: a14 :: a15 :: a16 :: a17 :: a18 :: a19 :: a20 :: a21 :: a22 :: some (.ref C) :: σ) H Q) : eMakeL 23 C sp [] E tl (a0 :: a1 :: a2 :: a3 :: a4 :: a5 :: a6 :: a7 :: a8 :: a9 :: a10 :: a11 :: a12 :: a13 :: a14 :: a15 :: a16 :: a17 :: a18 :: a19 :: a20 :: a21 :: a22 :: some (.ref C) :: σ) H Q := ⟨rfl, h⟩
theorem x_au23 {te : TE} {ti : TIp} {a0 a1 a2 a3 a4 a5 a6 a7 a8 a9 a10 a11 a12 a13 a14 a15 a16 a17 a18 a19 a20 a21 a22 : Option V} {σ : L2.St} (h : te (a0 :: a1 :: a2 :: a3 :: a4 :: a5 :: a6 :: a7 :: a8 :: a9 :: a10 :: a11 :: a12 :: a13 :: a14 :: a15 :: a16 :: a17 :: a18 :: a19 :: a20 :: a21 :: a22 :: some x :: σ) H fun y H1 => ti x y H1 fun z H2 => nx (a0 :: a1 :: a2 :: a3 :: a4 :: a5 :: a6 :: a7 :: a8 :: a9 :: a10 :: a11 :: a12 :: a13 :: a14 :: a15 :: a16 :: a17 :: a18 :: a19 :: a20 :: a21 :: a22 :: some z :: σ) H2) : tAug 23 te ti ⟨nx, rt, bk, ct⟩ (a0 :: a1 :: a2 :: a3 :: a4 :: a5 :: a6 :: a7 :: a8 :: a9 :: a10 :: a11 :: a12 :: a13 :: a14 :: a15 :: a16 :: a17 :: a18 :: a19 :: a20 :: a21 :: a22 :: some x :: σ) H := ⟨x, rfl, h⟩
theorem x_setA0 {w : V} {QH : Hp → Prop} (F : FH H L) (m : (p, Is (.lst (w :: xs))) ∈ L) (pu : Put p (Is (.lst (w :: xs))) (Is (.lst (v :: xs))) L L') (h : ∀ H', FH H' L' → QH H') : rSetL (.ref p) (.int 0) v H QH :=
  ⟨p, _, 0, 0, rfl, rfl, F.get m, ixN_b (j := 0) rfl (by simp [Nat.blt_eq, List.length_cons]), h _ (F.put pu trivial)⟩
theorem x_setA1 {b0 : V} {w : V} {QH : Hp → Prop} (F : FH H L) (m : (p, Is (.lst (b0 :: w :: xs))) ∈ L) (pu : Put p (Is (.lst (b0 :: w :: xs))) (Is (.lst (b0 :: v :: xs))) L L') (h : ∀ H', FH H' L' → QH H') : rSetL (.ref p) (.int 1) v H QH :=
  ⟨p, _, 1, 1, rfl, rfl, F.get m, ixN_b (j := 1) rfl (by simp [Nat.blt_eq, List.length_cons]), h _ (F.put pu trivial)⟩
theorem x_setA2 {b0 b1 : V} {w : V} {QH : Hp → Prop} (F : FH H L) (m : (p, Is (.lst (b0 :: b1 :: w :: xs))) ∈ L) (pu : Put p (Is (.lst (b0 :: b1 :: w :: xs))) (Is (.lst (b0 :: b1 :: v :: xs))) L L') (h : ∀ H', FH H' L' → QH H') : rSetL (.ref p) (.int 2) v H QH :=
  ⟨p, _, 2, 2, rfl, rfl, F.get m, ixN_b (j := 2) rfl (by simp [Nat.blt_eq, List.length_cons]), h _ (F.put pu trivial)⟩
theorem x_setA3 {b0 b1 b2 : V} {w : V} {QH : Hp → Prop} (F : FH H L) (m : (p, Is (.lst (b0 :: b1 :: b2 :: w :: xs))) ∈ L) (pu : Put p (Is (.lst (b0 :: b1 :: b2 :: w :: xs))) (Is (.lst (b0 :: b1 :: b2 :: v :: xs))) L L') (h : ∀ H', FH H' L' → QH H') : rSetL (.ref p) (.int 3) v H QH :=
  ⟨p, _, 3, 3, rfl, rfl, F.get m, ixN_b (j := 3) rfl (by simp [Nat.blt_eq, List.length_cons]), h _ (F.put pu trivial)⟩
theorem x_setA4 {b0 b1 b2 b3 : V} {w : V} {QH : Hp → Prop} (F : FH H L) (m : (p, Is (.lst (b0 :: b1 :: b2 :: b3 :: w :: xs))) ∈ L) (pu : Put p (Is (.lst (b0 :: b1 :: b2 :: b3 :: w :: xs))) (Is (.lst (b0 :: b1 :: b2 :: b3 :: v :: xs))) L L') (h : ∀ H', FH H' L' → QH H') : rSetL (.ref p) (.int 4) v H QH :=
  ⟨p, _, 4, 4, rfl, rfl, F.get m, ixN_b (j := 4) rfl (by simp [Nat.blt_eq, List.length_cons]), h _ (F.put pu trivial)⟩
theorem x_setA5 {b0 b1 b2 b3 b4 : V} {w : V} {QH : Hp → Prop} (F : FH H L) (m : (p, Is (.lst (b0 :: b1 :: b2 :: b3 :: b4 :: w :: xs))) ∈ L) (pu : Put p (Is (.lst (b0 :: b1 :: b2 :: b3 :: b4 :: w :: xs))) (Is (.lst (b0 :: b1 :: b2 :: b3 :: b4 :: v :: xs))) L L') (h : ∀ H', FH H' L' → QH H') : rSetL (.ref p) (.int 5) v H QH :=
  ⟨p, _, 5, 5, rfl, rfl, F.get m, ixN_b (j := 5) rfl (by simp [Nat.blt_eq, List.length_cons]), h _ (F.put pu trivial)⟩
theorem x_setA6 {b0 b1 b2 b3 b4 b5 : V} {w : V} {QH : Hp → Prop} (F : FH H L) (m : (p, Is (.lst (b0 :: b1 :: b2 :: b3 :: b4 :: b5 :: w :: xs))) ∈ L) (pu : Put p (Is (.lst (b0 :: b1 :: b2 :: b3 :: b4 :: b5 :: w :: xs))) (Is (.lst (b0 :: b1 :: b2 :: b3 :: b4 :: b5 :: v :: xs))) L L') (h : ∀ H', FH H' L' → QH H') : rSetL (.ref p) (.int 6) v H QH :=
  ⟨p, _, 6, 6, rfl, rfl, F.get m, ixN_b (j := 6) rfl (by simp [Nat.blt_eq, List.length_cons]), h _ (F.put pu trivial)⟩
theorem x_setA7 {b0 b1 b2 b3 b4 b5 b6 : V} {w : V} {QH : Hp → Prop} (F : FH H L) (m : (p, Is (.lst (b0 :: b1 :: b2 :: b3 :: b4 :: b5 :: b6 :: w :: xs))) ∈ L) (pu : Put p (Is (.lst (b0 :: b1 :: b2 :: b3 :: b4 :: b5 :: b6 :: w :: xs))) (Is (.lst (b0 :: b1 :: b2 :: b3 :: b4 :: b5 :: b6 :: v :: xs))) L L') (h : ∀ H', FH H' L' → QH H') : rSetL (.ref p) (.int 7) v H QH :=
  ⟨p, _, 7, 7, rfl, rfl, F.get m, ixN_b (j := 7) rfl (by simp [Nat.blt_eq, List.length_cons]), h _ (F.put pu trivial)⟩
theorem x_setA8 {b0 b1 b2 b3 b4 b5 b6 b7 : V} {w : V} {QH : Hp → Prop} (F : FH H L) (m : (p, Is (.lst (b0 :: b1 :: b2 :: b3 :: b4 :: b5 :: b6 :: b7 :: w :: xs))) ∈ L) (pu : Put p (Is (.lst (b0 :: b1 :: b2 :: b3 :: b4 :: b5 :: b6 :: b7 :: w :: xs))) (Is (.lst (b0 :: b1 :: b2 :: b3 :: b4 :: b5 :: b6 :: b7 :: v :: xs))) L L') (h : ∀ H', FH H' L' → QH H') : rSetL (.ref p) (.int 8) v H QH :=
  ⟨p, _, 8, 8, rfl, rfl, F.get m, ixN_b (j := 8) rfl (by simp [Nat.blt_eq, List.length_cons]), h _ (F.put pu trivial)⟩
theorem x_setA9 {b0 b1 b2 b3 b4 b5 b6 b7 b8 : V} {w : V} {QH : Hp → Prop} (F : FH H L) (m : (p, Is (.lst (b0 :: b1 :: b2 :: b3 :: b4 :: b5 :: b6 :: b7 :: b8 :: w :: xs))) ∈ L) (pu : Put p (Is (.lst (b0 :: b1 :: b2 :: b3 :: b4 :: b5 :: b6 :: b7 :: b8 :: w :: xs))) (Is (.lst (b0 :: b1 :: b2 :: b3 :: b4 :: b5 :: b6 :: b7 :: b8 :: v :: xs))) L L') (h : ∀ H', FH H' L' → QH H') : rSetL (.ref p) (.int 9) v H QH :=
  ⟨p, _, 9, 9, rfl, rfl, F.get m, ixN_b (j := 9) rfl (by simp [Nat.blt_eq, List.length_cons]), h _ (F.put pu trivial)⟩
end
end Y

/-! the walk by class search: one step St1, as many as there are Go1 -/
namespace Y
open PySem PySem.Spec PyProof.Rows L2
class St1 (G : Prop) (G' : outParam Prop) : Prop where
  imp : G' → G
class Go0 (G : Prop) (G' : outParam Prop) : Prop where
  imp : G' → G
instance (priority := 10) go_stop {G : Prop} : Go0 G G := ⟨id⟩
instance (priority := 1000) go_step {G G' G'' : Prop} [a : St1 G G'] [b : Go0 G' G''] : Go0 G G'' := ⟨fun h => a.imp (b.imp h)⟩
theorem go {G G' G'' : Prop} [a : St1 G G'] [b : Go0 G' G''] (h : G'') : G := a.imp (b.imp h)
/-- what stands in a list -/
class Mm {α : Type} (x : α) (L : List α) : Prop where
  m : x ∈ L
instance mm_tail {α : Type} {x y : α} {L : List α} [a : Mm x L] : Mm x (y :: L) := ⟨List.mem_cons_of_mem _ a.m⟩
instance (priority := 2000) mm_head {α : Type} {x : α} {L : List α} : Mm x (x :: L) := ⟨List.mem_cons_self⟩
class PutE (p : Addr) (φ φ' : Pr) (L : List Ent) (L' : outParam (List Ent)) : Prop where
  pu : Put p φ φ' L L'
instance put_tail {p : Addr} {φ φ' : Pr} {y : Ent} {L L' : List Ent} [a : PutE p φ φ' L L'] : PutE p φ φ' (y :: L) (y :: L') := ⟨.there a.pu⟩
instance (priority := 2000) put_head {p : Addr} {φ φ' : Pr} {L : List Ent} : PutE p φ φ' ((p, φ) :: L) ((p, φ') :: L) := ⟨.here⟩
class NeS (f g : Str) : Prop where
  ne : f ≠ g
class LookF (fs : List (Str × V)) (f : Str) (v : outParam V) : Prop where
  l : fs.lookup f = some v
instance look_tail {f g : Str} {v w : V} {t : List (Str × V)} [n : NeS f g] [a : LookF t f v] : LookF ((g, w) :: t) f v := ⟨look_miss n.ne a.l⟩
instance (priority := 2000) look_head {f : Str} {v : V} {t : List (Str × V)} : LookF ((f, v) :: t) f v := ⟨look_hit⟩
class NoF (fs : List (Str × V)) (f : Str) : Prop where
  l : fs.lookup f = none
instance nof_nil {f : Str} : NoF [] f := ⟨look_nil⟩
instance nof_cons {f g : Str} {w : V} {t : List (Str × V)} [n : NeS f g] [a : NoF t f] : NoF ((g, w) :: t) f := ⟨look_miss n.ne a.l⟩
class PutFd (f : Str) (v : V) (fs : List (Str × V)) (fs' : outParam (List (Str × V))) : Prop where
  e : putF f v fs = fs'
instance putfd_nil {f : Str} {v : V} : PutFd f v [] [(f, v)] := ⟨put_nil⟩
instance putfd_tail {f g : Str} {v w : V} {t t' : List (Str × V)} [n : NeS f g] [a : PutFd f v t t'] : PutFd f v ((g, w) :: t) ((g, w) :: t') := ⟨put_miss (Ne.symm n.ne) a.e⟩
instance (priority := 2000) putfd_head {f : Str} {v w : V} {t : List (Str × V)} : PutFd f v ((f, w) :: t) ((f, v) :: t) := ⟨put_hit⟩
class Shr {α : Type} (n : Nat) (xs : List α) : Prop where
  l : xs.length ≤ n
instance shr_nil {α : Type} {n : Nat} : Shr n ([] : List α) := ⟨Nat.zero_le _⟩
instance shr_cons {α : Type} {n : Nat} {x : α} {xs : List α} [a : Shr n xs] : Shr (n + 1) (x :: xs) := ⟨Nat.succ_le_succ a.l⟩
class AtE (xs : List V) (i : Int) (v : outParam V) : Prop where
  e : atI xs i = some v
class SetE (xs : List V) (i : Int) (v : V) (ys : outParam (List V)) : Prop where
  e : ∃ k, ixN xs.length i = some k ∧ xs.set k v = ys
class AppE {α : Type} (xs ys : List α) (zs : outParam (List α)) : Prop where
  e : xs ++ ys = zs
instance (priority := 10) app_any {α : Type} {xs ys : List α} : AppE xs ys (xs ++ ys) := ⟨rfl⟩
instance app_nil {α : Type} {ys : List α} : AppE [] ys ys := ⟨rfl⟩
instance app_cons {α : Type} {x : α} {xs ys zs : List α} [a : AppE xs ys zs] : AppE (x :: xs) ys (x :: zs) := ⟨congrArg (x :: ·) a.e⟩
class WipeE (σ : L2.St) (vs : List Nat) (σ' : outParam L2.St) : Prop where
  e : wipe σ vs = σ'
class SetO (σ : L2.St) (v : Nat) (σ' : outParam L2.St) : Prop where
  e : σ.set v none = σ'
class LenE {α : Type} (xs : List α) (n : outParam Nat) : Prop where
  e : xs.length = n
/-! heads that the written rules may still take -/
class Hd (G : Prop) : Prop where
  t : True
theorem hd_is {G : Prop} [Hd G] (h : G) : G := h
instance at0 {v : V} {xs : List V} : AtE (v :: xs) 0 v := ⟨atI_at (j := 0) rfl rfl⟩
instance set0 {w v : V} {xs : List V} : SetE (w :: xs) 0 v (v :: xs) := ⟨0, ixN_at (j := 0) rfl (by simp only [List.length_cons]; omega), rfl⟩
instance seto0 {w : Option V} {σ : L2.St} : SetO (w :: σ) 0 (none :: σ) := ⟨rfl⟩
instance len0 {α : Type} : LenE (α := α) [] 0 := ⟨rfl⟩
instance at1 {b0 : V} {v : V} {xs : List V} : AtE (b0 :: v :: xs) 1 v := ⟨atI_at (j := 1) rfl rfl⟩
instance set1 {b0 : V} {w v : V} {xs : List V} : SetE (b0 :: w :: xs) 1 v (b0 :: v :: xs) := ⟨1, ixN_at (j := 1) rfl (by simp only [List.length_cons]; omega), rfl⟩
instance seto1 {b0 : Option V} {w : Option V} {σ : L2.St} : SetO (b0 :: w :: σ) 1 (b0 :: none :: σ) := ⟨rfl⟩
instance len1 {α : Type} {b0 : α} : LenE (α := α) [b0] 1 := ⟨rfl⟩
instance at2 {b0 b1 : V} {v : V} {xs : List V} : AtE (b0 :: b1 :: v :: xs) 2 v := ⟨atI_at (j := 2) rfl rfl⟩
instance set2 {b0 b1 : V} {w v : V} {xs : List V} : SetE (b0 :: b1 :: w :: xs) 2 v (b0 :: b1 :: v :: xs) := ⟨2, ixN_at (j := 2) rfl (by simp only [List.length_cons]; omega), rfl⟩
instance seto2 {b0 b1 : Option V} {w : Option V} {σ : L2.St} : SetO (b0 :: b1 :: w :: σ) 2 (b0 :: b1 :: none :: σ) := ⟨rfl⟩
instance len2 {α : Type} {b0 b1 : α} : LenE (α := α) [b0, b1] 2 := ⟨rfl⟩
instance at3 {b0 b1 b2 : V} {v : V} {xs : List V} : AtE (b0 :: b1 :: b2 :: v :: xs) 3 v := ⟨atI_at (j := 3) rfl rfl⟩
instance set3 {b0 b1 b2 : V} {w v : V} {xs : List V} : SetE (b0 :: b1 :: b2 :: w :: xs) 3 v (b0 :: b1 :: b2 :: v :: xs) := ⟨3, ixN_at (j := 3) rfl (by simp only [List.length_cons]; omega), rfl⟩
instance seto3 {b0 b1 b2 : Option V} {w : Option V} {σ : L2.St} : SetO (b0 :: b1 :: b2 :: w :: σ) 3 (b0 :: b1 :: b2 :: none :: σ) := ⟨rfl⟩
instance len3 {α : Type} {b0 b1 b2 : α} : LenE (α := α) [b0, b1, b2] 3 := ⟨rfl⟩
instance at4 {b0 b1 b2 b3 : V} {v : V} {xs : List V} : AtE (b0 :: b1 :: b2 :: b3 :: v :: xs) 4 v := ⟨atI_at (j := 4) rfl rfl⟩
instance set4 {b0 b1 b2 b3 : V} {w v : V} {xs : List V} : SetE (b0 :: b1 :: b2 :: b3 :: w :: xs) 4 v (b0 :: b1 :: b2 :: b3 :: v :: xs) := ⟨4, ixN_at (j := 4) rfl (by simp only [List.length_cons]; omega), rfl⟩
instance seto4 {b0 b1 b2 b3 : Option V} {w : Option V} {σ : L2.St} : SetO (b0 :: b1 :: b2 :: b3 :: w :: σ) 4 (b0 :: b1 :: b2 :: b3 :: none :: σ) := ⟨rfl⟩
instance len4 {α : Type} {b0 b1 b2 b3 : α} : LenE (α := α) [b0, b1, b2, b3] 4 := ⟨rfl⟩
instance at5 {b0 b1 b2 b3 b4 : V} {v : V} {xs : List V} : AtE (b0 :: b1 :: b2 :: b3 :: b4 :: v :: xs) 5 v := ⟨atI_at (j := 5) rfl rfl⟩
instance set5 {b0 b1 b2 b3 b4 : V} {w v : V} {xs : List V} : SetE (b0 :: b1 :: b2 :: b3 :: b4 :: w :: xs) 5 v (b0 :: b1 :: b2 :: b3 :: b4 :: v :: xs) := ⟨5, ixN_at (j := 5) rfl (by simp only [List.length_cons]; omega), rfl⟩
instance seto5 {b0 b1 b2 b3 b4 : Option V} {w : Option V} {σ : L2.St} : SetO (b0 :: b1 :: b2 :: b3 :: b4 :: w :: σ) 5 (b0 :: b1 :: b2 :: b3 :: b4 :: none :: σ) := ⟨rfl⟩
instance len5 {α : Type} {b0 b1 b2 b3 b4 : α} : LenE (α := α) [b0, b1, b2, b3, b4] 5 := ⟨rfl⟩
instance at6 {b0 b1 b2 b3 b4 b5 : V} {v : V} {xs : List V} : AtE (b0 :: b1 :: b2 :: b3 :: b4 :: b5 :: v :: xs) 6 v := ⟨atI_at (j := 6) rfl rfl⟩
instance set6 {b0 b1 b2 b3 b4 b5 : V} {w v : V} {xs : List V} : SetE (b0 :: b1 :: b2 :: b3 :: b4 :: b5 :: w :: xs) 6 v (b0 :: b1 :: b2 :: b3 :: b4 :: b5 :: v :: xs) := ⟨6, ixN_at (j := 6) rfl (by simp only [List.length_cons]; omega), rfl⟩
instance seto6 {b0 b1 b2 b3 b4 b5 : Option V} {w : Option V} {σ : L2.St} : SetO (b0 :: b1 :: b2 :: b3 :: b4 :: b5 :: w :: σ) 6 (b0 :: b1 :: b2 :: b3 :: b4 :: b5 :: none :: σ) := ⟨rfl⟩
instance len6 {α : Type} {b0 b1 b2 b3 b4 b5 : α} : LenE (α := α) [b0, b1, b2, b3, b4, b5] 6 := ⟨rfl⟩
instance at7 {b0 b1 b2 b3 b4 b5 b6 : V} {v : V} {xs : List V} : AtE (b0 :: b1 :: b2 :: b3 :: b4 :: b5 :: b6 :: v :: xs) 7 v := ⟨atI_at (j := 7) rfl rfl⟩
instance set7 {b0 b1 b2 b3 b4 b5 b6 : V} {w v : V} {xs : List V} : SetE (b0 :: b1 :: b2 :: b3 :: b4 :: b5 :: b6 :: w :: xs) 7 v (b0 :: b1 :: b2 :: b3 :: b4 :: b5 :: b6 :: v :: xs) := ⟨7, ixN_at (j := 7) rfl (by simp only [List.length_cons]; omega), rfl⟩
instance seto7 {b0 b1 b2 b3 b4 b5 b6 : Option V} {w : Option V} {σ : L2.St} : SetO (b0 :: b1 :: b2 :: b3 :: b4 :: b5 :: b6 :: w :: σ) 7 (b0 :: b1 :: b2 :: b3 :: b4 :: b5 :: b6 :: none :: σ) := ⟨rfl⟩
instance len7 {α : Type} {b0 b1 b2 b3 b4 b5 b6 : α} : LenE (α := α) [b0, b1, b2, b3, b4, b5, b6] 7 := ⟨rfl⟩
instance at8 {b0 b1 b2 b3 b4 b5 b6 b7 : V} {v : V} {xs : List V} : AtE (b0 :: b1 :: b2 :: b3 :: b4 :: b5 :: b6 :: b7 :: v :: xs) 8 v := ⟨atI_at (j := 8) rfl rfl⟩
instance set8 {b0 b1 b2 b3 b4 b5 b6 b7 : V} {w v : V} {xs : List V} : SetE (b0 :: b1 :: b2 :: b3 :: b4 :: b5 :: b6 :: b7 :: w :: xs) 8 v (b0 :: b1 :: b2 :: b3 :: b4 :: b5 :: b6 :: b7 :: v :: xs) := ⟨8, ixN_at (j := 8) rfl (by simp only [List.length_cons]; omega), rfl⟩
instance seto8 {b0 b1 b2 b3 b4 b5 b6 b7 : Option V} {w : Option V} {σ : L2.St} : SetO (b0 :: b1 :: b2 :: b3 :: b4 :: b5 :: b6 :: b7 :: w :: σ) 8 (b0 :: b1 :: b2 :: b3 :: b4 :: b5 :: b6 :: b7 :: none :: σ) := ⟨rfl⟩
instance len8 {α : Type} {b0 b1 b2 b3 b4 b5 b6 b7 : α} : LenE (α := α) [b0, b1, b2, b3, b4, b5, b6, b7] 8 := ⟨rfl⟩
instance at9 {b0 b1 b2 b3 b4 b5 b6 b7 b8 : V} {v : V} {xs : List V} : AtE (b0 :: b1 :: b2 :: b3 :: b4 :: b5 :: b6 :: b7 :: b8 :: v :: xs) 9 v := ⟨atI_at (j := 9) rfl rfl⟩
instance set9 {b0 b1 b2 b3 b4 b5 b6 b7 b8 : V} {w v : V} {xs : List V} : SetE (b0 :: b1 :: b2 :: b3 :: b4 :: b5 :: b6 :: b7 :: b8 :: w :: xs) 9 v (b0 :: b1 :: b2 :: b3 :: b4 :: b5 :: b6 :: b7 :: b8 :: v :: xs) := ⟨9, ixN_at (j := 9) rfl (by simp only [List.length_cons]; omega), rfl⟩
instance seto9 {b0 b1 b2 b3 b4 b5 b6 b7 b8 : Option V} {w : Option V} {σ : L2.St} : SetO (b0 :: b1 :: b2 :: b3 :: b4 :: b5 :: b6 :: b7 :: b8 :: w :: σ) 9 (b0 :: b1 :: b2 :: b3 :: b4 :: b5 :: b6 :: b7 :: b8 :: none :: σ) := ⟨rfl⟩
instance len9 {α : Type} {b0 b1 b2 b3 b4 b5 b6 b7 b8 : α} : LenE (α := α) [b0, b1, b2, b3, b4, b5, b6, b7, b8] 9 := ⟨rfl⟩
instance at10 {b0 b1 b2 b3 b4 b5 b6 b7 b8 b9 : V} {v : V} {xs : List V} : AtE (b0 :: b1 :: b2 :: b3 :: b4 :: b5 :: b6 :: b7 :: b8 :: b9 :: v :: xs) 10 v := ⟨atI_at (j := 10) rfl rfl⟩
instance set10 {b0 b1 b2 b3 b4 b5 b6 b7 b8 b9 : V} {w v : V} {xs : List V} : SetE (b0 :: b1 :: b2 :: b3 :: b4 :: b5 :: b6 :: b7 :: b8 :: b9 :: w :: xs) 10 v (b0 :: b1 :: b2 :: b3 :: b4 :: b5 :: b6 :: b7 :: b8 :: b9 :: v :: xs) := ⟨10, ixN_at (j := 10) rfl (by simp only [List.length_cons]; omega), rfl⟩
instance seto10 {b0 b1 b2 b3 b4 b5 b6 b7 b8 b9 : Option V} {w : Option V} {σ : L2.St} : SetO (b0 :: b1 :: b2 :: b3 :: b4 :: b5 :: b6 :: b7 :: b8 :: b9 :: w :: σ) 10 (b0 :: b1 :: b2 :: b3 :: b4 :: b5 :: b6 :: b7 :: b8 :: b9 :: none :: σ) := ⟨rfl⟩
instance len10 {α : Type} {b0 b1 b2 b3 b4 b5 b6 b7 b8 b9 : α} : LenE (α := α) [b0, b1, b2, b3, b4, b5, b6, b7, b8, b9] 10 := ⟨rfl⟩
instance at11 {b0 b1 b2 b3 b4 b5 b6 b7 b8 b9 b10 : V} {v : V} {xs : List V} : AtE (b0 :: b1 :: b2 :: b3 :: b4 :: b5 :: b6 :: b7 :: b8 :: b9 :: b10 :: v :: xs) 11 v := ⟨atI_at (j := 11) rfl rfl⟩
instance set11 {b0 b1 b2 b3 b4 b5 b6 b7 b8 b9 b10 : V} {w v : V} {xs : List V} : SetE (b0 :: b1 :: b2 :: b3 :: b4 :: b5 :: b6 :: b7 :: b8 :: b9 :: b10 :: w :: xs) 11 v (b0 :: b1 :: b2 :: b3 :: b4 :: b5 :: b6 :: b7 :: b8 :: b9 :: b10 :: v :: xs) := ⟨11, ixN_at (j := 11) rfl (by simp only [List.length_cons]; omega), rfl⟩
instance seto11 {b0 b1 b2 b3 b4 b5 b6 b7 b8 b9 b10 : Option V} {w : Option V} {σ : L2.St} : SetO (b0 :: b1 :: b2 :: b3 :: b4 :: b5 :: b6 :: b7 :: b8 :: b9 :: b10 :: w :: σ) 11 (b0 :: b1 :: b2 :: b3 :: b4 :: b5 :: b6 :: b7 :: b8 :: b9 :: b10 :: none :: σ) := ⟨rfl⟩
instance len11 {α : Type} {b0 b1 b2 b3 b4 b5 b6 b7 b8 b9 b10 : α} : LenE (α := α) [b0, b1, b2, b3, b4, b5, b6, b7, b8, b9, b10] 11 := ⟨rfl⟩
instance at12 {b0 b1 b2 b3 b4 b5 b6 b7 b8 b9 b10 b11 : V} {v : V} {xs : List V} : AtE (b0 :: b1 :: b2 :: b3 :: b4 :: b5 :: b6 :: b7 :: b8 :: b9 :: b10 :: b11 :: v :: xs) 12 v := ⟨atI_at (j := 12) rfl rfl⟩
instance set12 {b0 b1 b2 b3 b4 b5 b6 b7 b8 b9 b10 b11 : V} {w v : V} {xs : List V} : SetE (b0 :: b1 :: b2 :: b3 :: b4 :: b5 :: b6 :: b7 :: b8 :: b9 :: b10 :: b11 :: w :: xs) 12 v (b0 :: b1 :: b2 :: b3 :: b4 :: b5 :: b6 :: b7 :: b8 :: b9 :: b10 :: b11 :: v :: xs) := ⟨12, ixN_at (j := 12) rfl (by simp only [List.length_cons]; omega), rfl⟩
instance seto12 {b0 b1 b2 b3 b4 b5 b6 b7 b8 b9 b10 b11 : Option V} {w : Option V} {σ : L2.St} : SetO (b0 :: b1 :: b2 :: b3 :: b4 :: b5 :: b6 :: b7 :: b8 :: b9 :: b10 :: b11 :: w :: σ) 12 (b0 :: b1 :: b2 :: b3 :: b4 :: b5 :: b6 :: b7 :: b8 :: b9 :: b10 :: b11 :: none :: σ) := ⟨rfl⟩
instance len12 {α : Type} {b0 b1 b2 b3 b4 b5 b6 b7 b8 b9 b10 b11 : α} : LenE (α := α) [b0, b1, b2, b3, b4, b5, b6, b7, b8, b9, b10, b11] 12 := ⟨rfl⟩
instance at13 {b0 b1 b2 b3 b4 b5 b6 b7 b8 b9 b10 b11 b12 : V} {v : V} {xs : List V} : AtE (b0 :: b1 :: b2 :: b3 :: b4 :: b5 :: b6 :: b7 :: b8 :: b9 :: b10 :: b11 :: b12 :: v :: xs) 13 v := ⟨atI_at (j := 13) rfl rfl⟩
instance set13 {b0 b1 b2 b3 b4 b5 b6 b7 b8 b9 b10 b11 b12 : V} {w v : V} {xs : List V} : SetE (b0 :: b1 :: b2 :: b3 :: b4 :: b5 :: b6 :: b7 :: b8 :: b9 :: b10 :: b11 :: b12 :: w :: xs) 13 v (b0 :: b1 :: b2 :: b3 :: b4 :: b5 :: b6 :: b7 :: b8 :: b9 :: b10 :: b11 :: b12 :: v :: xs) := ⟨13, ixN_at (j := 13) rfl (by simp only [List.length_cons]; omega), rfl⟩
instance seto13 {b0 b1 b2 b3 b4 b5 b6 b7 b8 b9 b10 b11 b12 : Option V} {w : Option V} {σ : L2.St} : SetO (b0 :: b1 :: b2 :: b3 :: b4 :: b5 :: b6 :: b7 :: b8 :: b9 :: b10 :: b11 :: b12 :: w :: σ) 13 (b0 :: b1 :: b2 :: b3 :: b4 :: b5 :: b6 :: b7 :: b8 :: b9 :: b10 :: b11 :: b12 :: none :: σ) := ⟨rfl⟩
instance len13 {α : Type} {b0 b1 b2 b3 b4 b5 b6 b7 b8 b9 b10 b11 b12 : α} : LenE (α := α) [b0, b1, b2, b3, b4, b5, b6, b7, b8, b9, b10, b11, b12] 13 := ⟨rfl⟩
instance at14 {b0 b1 b2 b3 b4 b5 b6 b7 b8 b9 b10 b11 b12 b13 : V} {v : V} {xs : List V} : AtE (b0 :: b1 :: b2 :: b3 :: b4 :: b5 :: b6 :: b7 :: b8 :: b9 :: b10 :: b11 :: b12 :: b13 :: v :: xs) 14 v := ⟨atI_at (j := 14) rfl rfl⟩
instance set14 {b0 b1 b2 b3 b4 b5 b6 b7 b8 b9 b10 b11 b12 b13 : V} {w v : V} {xs : List V} : SetE (b0 :: b1 :: b2 :: b3 :: b4 :: b5 :: b6 :: b7 :: b8 :: b9 :: b10 :: b11 :: b12 :: b13 :: w :: xs) 14 v (b0 :: b1 :: b2 :: b3 :: b4 :: b5 :: b6 :: b7 :: b8 :: b9 :: b10 :: b11 :: b12 :: b13 :: v :: xs) := ⟨14, ixN_at (j := 14) rfl (by simp only [List.length_cons]; omega), rfl⟩
instance seto14 {b0 b1 b2 b3 b4 b5 b6 b7 b8 b9 b10 b11 b12 b13 : Option V} {w : Option V} {σ : L2.St} : SetO (b0 :: b1 :: b2 :: b3 :: b4 :: b5 :: b6 :: b7 :: b8 :: b9 :: b10 :: b11 :: b12 :: b13 :: w :: σ) 14 (b0 :: b1 :: b2 :: b3 :: b4 :: b5 :: b6 :: b7 :: b8 :: b9 :: b10 :: b11 :: b12 :: b13 :: none :: σ) := ⟨rfl⟩
instance len14 {α : Type} {b0 b1 b2 b3 b4 b5 b6 b7 b8 b9 b10 b11 b12 b13 : α} : LenE (α := α) [b0, b1, b2, b3, b4, b5, b6, b7, b8, b9, b10, b11, b12, b13] 14 := ⟨rfl⟩
instance at15 {b0 b1 b2 b3 b4 b5 b6 b7 b8 b9 b10 b11 b12 b13 b14 : V} {v : V} {xs : List V} : AtE (b0 :: b1 :: b2 :: b3 :: b4 :: b5 :: b6 :: b7 :: b8 :: b9 :: b10 :: b11 :: b12 :: b13 :: b14 :: v :: xs) 15 v := ⟨atI_at (j := 15) rfl rfl⟩
instance set15 {b0 b1 b2 b3 b4 b5 b6 b7 b8 b9 b10 b11 b12 b13 b14 : V} {w v : V} {xs : List V} : SetE (b0 :: b1 :: b2 :: b3 :: b4 :: b5 :: b6 :: b7 :: b8 :: b9 :: b10 :: b11 :: b12 :: b13 :: b14 :: w :: xs) 15 v (b0 :: b1 :: b2 :: b3 :: b4 :: b5 :: b6 :: b7 :: b8 :: b9 :: b10 :: b11 :: b12 :: b13 :: b14 :: v :: xs) := ⟨15, ixN_at (j := 15) rfl (by simp only [List.length_cons]; omega), rfl⟩
instance seto15 {b0 b1 b2 b3 b4 b5 b6 b7 b8 b9 b10 b11 b12 b13 b14 : Option V} {w : Option V} {σ : L2.St} : SetO (b0 :: b1 :: b2 :: b3 :: b4 :: b5 :: b6 :: b7 :: b8 :: b9 :: b10 :: b11 :: b12 :: b13 :: b14 :: w :: σ) 15 (b0 :: b1 :: b2 :: b3 :: b4 :: b5 :: b6 :: b7 :: b8 :: b9 :: b10 :: b11 :: b12 :: b13 :: b14 :: none :: σ) := ⟨rfl⟩
instance len15 {α : Type} {b0 b1 b2 b3 b4 b5 b6 b7 b8 b9 b10 b11 b12 b13 b14 : α} : LenE (α := α) [b0, b1, b2, b3, b4, b5, b6, b7, b8, b9, b10, b11, b12, b13, b14] 15 := ⟨rfl⟩
instance at16 {b0 b1 b2 b3 b4 b5 b6 b7 b8 b9 b10 b11 b12 b13 b14 b15 : V} {v : V} {xs : List V} : AtE (b0 :: b1 :: b2 :: b3 :: b4 :: b5 :: b6 :: b7 :: b8 :: b9 :: b10 :: b11 :: b12 :: b13 :: b14 :: b15 :: v :: xs) 16 v := ⟨atI_at (j := 16) rfl rfl⟩
instance set16 {b0 b1 b2 b3 b4 b5 b6 b7 b8 b9 b10 b11 b12 b13 b14 b15 : V} {w v : V} {xs : List V} : SetE (b0 :: b1 :: b2 :: b3 :: b4 :: b5 :: b6 :: b7 :: b8 :: b9 :: b10 :: b11 :: b12 :: b13 :: b14 :: b15 :: w :: xs) 16 v (b0 :: b1 :: b2 :: b3 :: b4 :: b5 :: b6 :: b7 :: b8 :: b9 :: b10 :: b11 :: b12 :: b13 :: b14 :: b15 :: v :: xs) := ⟨16, ixN_at (j := 16) rfl (by simp only [List.length_cons]; omega), rfl⟩
instance seto16 {b0 b1 b2 b3 b4 b5 b6 b7 b8 b9 b10 b11 b12 b13 b14 b15 : Option V} {w : Option V} {σ : L2.St} : SetO (b0 :: b1 :: b2 :: b3 :: b4 :: b5 :: b6 :: b7 :: b8 :: b9 :: b10 :: b11 :: b12 :: b13 :: b14 :: b15 :: w :: σ) 16 (b0 :: b1 :: b2 :: b3 :: b4 :: b5 :: b6 :: b7 :: b8 :: b9 :: b10 :: b11 :: b12 :: b13 :: b14 :: b15 :: none :: σ) := ⟨rfl⟩
instance len16 {α : Type} {b0 b1 b2 b3 b4 b5 b6 b7 b8 b9 b10 b11 b12 b13 b14 b15 : α} : LenE (α := α) [b0, b1, b2, b3, b4, b5, b6, b7, b8, b9, b10, b11, b12, b13, b14, b15] 16 := ⟨rfl⟩
instance at17 {b0 b1 b2 b3 b4 b5 b6 b7 b8 b9 b10 b11 b12 b13 b14 b15 b16 : V} {v : V} {xs : List V} : AtE (b0 :: b1 :: b2 :: b3 :: b4 :: b5 :: b6 :: b7 :: b8 :: b9 :: b10 :: b11 :: b12 :: b13 :: b14 :: b15 :: b16 :: v :: xs) 17 v := ⟨atI_at (j := 17) rfl rfl⟩
instance set17 {b0 b1 b2 b3 b4 b5 b6 b7 b8 b9 b10 b11 b12 b13 b14 b15 b16 : V} {w v : V} {xs : List V} : SetE (b0 :: b1 :: b2 :: b3 :: b4 :: b5 :: b6 :: b7 :: b8 :: b9 :: b10 :: b11 :: b12 :: b13 :: b14 :: b15 :: b16 :: w :: xs) 17 v (b0 :: b1 :: b2 :: b3 :: b4 :: b5 :: b6 :: b7 :: b8 :: b9 :: b10 :: b11 :: b12 :: b13 :: b14 :: b15 :: b16 :: v :: xs) := ⟨17, ixN_at (j := 17) rfl (by simp only [List.length_cons]; omega), rfl⟩
instance seto17 {b0 b1 b2 b3 b4 b5 b6 b7 b8 b9 b10 b11 b12 b13 b14 b15 b16 : Option V} {w : Option V} {σ : L2.St} : SetO (b0 :: b1 :: b2 :: b3 :: b4 :: b5 :: b6 :: b7 :: b8 :: b9 :: b10 :: b11 :: b12 :: b13 :: b14 :: b15 :: b16 :: w :: σ) 17 (b0 :: b1 :: b2 :: b3 :: b4 :: b5 :: b6 :: b7 :: b8 :: b9 :: b10 :: b11 :: b12 :: b13 :: b14 :: b15 :: b16 :: none :: σ) := ⟨rfl⟩
instance len17 {α : Type} {b0 b1 b2 b3 b4 b5 b6 b7 b8 b9 b10 b11 b12 b13 b14 b15 b16 : α} : LenE (α := α) [b0, b1, b2, b3, b4, b5, b6, b7, b8, b9, b10, b11, b12, b13, b14, b15, b16] 17 := ⟨rfl⟩
instance at18 {b0 b1 b2 b3 b4 b5 b6 b7 b8 b9 b10 b11 b12 b13 b14 b15 b16 b17 : V} {v : V} {xs : List V} : AtE (b0 :: b1 :: b2 :: b3 :: b4 :: b5 :: b6 :: b7 :: b8 :: b9 :: b10 :: b11 :: b12 :: b13 :: b14 :: b15 :: b16 :: b17 :: v :: xs) 18 v := ⟨atI_at (j := 18) rfl rfl⟩
instance set18 {b0 b1 b2 b3 b4 b5 b6 b7 b8 b9 b10 b11 b12 b13 b14 b15 b16 b17 : V} {w v : V} {xs : List V} : SetE (b0 :: b1 :: b2 :: b3 :: b4 :: b5 :: b6 :: b7 :: b8 :: b9 :: b10 :: b11 :: b12 :: b13 :: b14 :: b15 :: b16 :: b17 :: w :: xs) 18 v (b0 :: b1 :: b2 :: b3 :: b4 :: b5 :: b6 :: b7 :: b8 :: b9 :: b10 :: b11 :: b12 :: b13 :: b14 :: b15 :: b16 :: b17 :: v :: xs) := ⟨18, ixN_at (j := 18) rfl (by simp only [List.length_cons]; omega), rfl⟩
instance seto18 {b0 b1 b2 b3 b4 b5 b6 b7 b8 b9 b10 b11 b12 b13 b14 b15 b16 b17 : Option V} {w : Option V} {σ : L2.St} : SetO (b0 :: b1 :: b2 :: b3 :: b4 :: b5 :: b6 :: b7 :: b8 :: b9 :: b10 :: b11 :: b12 :: b13 :: b14 :: b15 :: b16 :: b17 :: w :: σ) 18 (b0 :: b1 :: b2 :: b3 :: b4 :: b5 :: b6 :: b7 :: b8 :: b9 :: b10 :: b11 :: b12 :: b13 :: b14 :: b15 :: b16 :: b17 :: none :: σ) := ⟨rfl⟩
instance len18 {α : Type} {b0 b1 b2 b3 b4 b5 b6 b7 b8 b9 b10 b11 b12 b13 b14 b15 b16 b17 : α} : LenE (α := α) [b0, b1, b2, b3, b4, b5, b6, b7, b8, b9, b10, b11, b12, b13, b14, b15, b16, b17] 18 := ⟨rfl⟩
instance at19 {b0 b1 b2 b3 b4 b5 b6 b7 b8 b9 b10 b11 b12 b13 b14 b15 b16 b17 b18 : V} {v : V} {xs : List V} : AtE (b0 :: b1 :: b2 :: b3 :: b4 :: b5 :: b6 :: b7 :: b8 :: b9 :: b10 :: b11 :: b12 :: b13 :: b14 :: b15 :: b16 :: b17 :: b18 :: v :: xs) 19 v := ⟨atI_at (j := 19) rfl rfl⟩
instance set19 {b0 b1 b2 b3 b4 b5 b6 b7 b8 b9 b10 b11 b12 b13 b14 b15 b16 b17 b18 : V} {w v : V} {xs : List V} : SetE (b0 :: b1 :: b2 :: b3 :: b4 :: b5 :: b6 :: b7 :: b8 :: b9 :: b10 :: b11 :: b12 :: b13 :: b14 :: b15 :: b16 :: b17 :: b18 :: w :: xs) 19 v (b0 :: b1 :: b2 :: b3 :: b4 :: b5 :: b6 :: b7 :: b8 :: b9 :: b10 :: b11 :: b12 :: b13 :: b14 :: b15 :: b16 :: b17 :: b18 :: v :: xs) := ⟨19, ixN_at (j := 19) rfl (by simp only [List.length_cons]; omega), rfl⟩
instance seto19 {b0 b1 b2 b3 b4 b5 b6 b7 b8 b9 b10 b11 b12 b13 b14 b15 b16 b17 b18 : Option V} {w : Option V} {σ : L2.St} : SetO (b0 :: b1 :: b2 :: b3 :: b4 :: b5 :: b6 :: b7 :: b8 :: b9 :: b10 :: b11 :: b12 :: b13 :: b14 :: b15 :: b16 :: b17 :: b18 :: w :: σ) 19 (b0 :: b1 :: b2 :: b3 :: b4 :: b5 :: b6 :: b7 :: b8 :: b9 :: b10 :: b11 :: b12 :: b13 :: b14 :: b15 :: b16 :: b17 :: b18 :: none :: σ) := ⟨rfl⟩
instance len19 {α : Type} {b0 b1 b2 b3 b4 b5 b6 b7 b8 b9 b10 b11 b12 b13 b14 b15 b16 b17 b18 : α} : LenE (α := α) [b0, b1, b2, b3, b4, b5, b6, b7, b8, b9, b10, b11, b12, b13, b14, b15, b16, b17, b18] 19 := ⟨rfl⟩
instance at20 {b0 b1 b2 b3 b4 b5 b6 b7 b8 b9 b10 b11 b12 b13 b14 b15 b16 b17 b18 b19 : V} {v : V} {xs : List V} : AtE (b0 :: b1 :: b2 :: b3 :: b4 :: b5 :: b6 :: b7 :: b8 :: b9 :: b10 :: b11 :: b12 :: b13 :: b14 :: b15 :: b16 :: b17 :: b18 :: b19 :: v :: xs) 20 v := ⟨atI_at (j := 20) rfl rfl⟩
instance set20 {b0 b1 b2 b3 b4 b5 b6 b7 b8 b9 b10 b11 b12 b13 b14 b15 b16 b17 b18 b19 : V} {w v : V} {xs : List V} : SetE (b0 :: b1 :: b2 :: b3 :: b4 :: b5 :: b6 :: b7 :: b8 :: b9 :: b10 :: b11 :: b12 :: b13 :: b14 :: b15 :: b16 :: b17 :: b18 :: b19 :: w :: xs) 20 v (b0 :: b1 :: b2 :: b3 :: b4 :: b5 :: b6 :: b7 :: b8 :: b9 :: b10 :: b11 :: b12 :: b13 :: b14 :: b15 :: b16 :: b17 :: b18 :: b19 :: v :: xs) := ⟨20, ixN_at (j := 20) rfl (by simp only [List.length_cons]; omega), rfl⟩
instance seto20 {b0 b1 b2 b3 b4 b5 b6 b7 b8 b9 b10 b11 b12 b13 b14 b15 b16 b17 b18 b19 : Option V} {w : Option V} {σ : L2.St} : SetO (b0 :: b1 :: b2 :: b3 :: b4 :: b5 :: b6 :: b7 :: b8 :: b9 :: b10 :: b11 :: b12 :: b13 :: b14 :: b15 :: b16 :: b17 :: b18 :: b19 :: w :: σ) 20 (b0 :: b1 :: b2 :: b3 :: b4 :: b5 :: b6 :: b7 :: b8 :: b9 :: b10 :: b11 :: b12 :: b13 :: b14 :: b15 :: b16 :: b17 :: b18 :: b19 :: none :: σ) := ⟨rfl⟩
instance len20 {α : Type} {b0 b1 b2 b3 b4 b5 b6 b7 b8 b9 b10 b11 b12 b13 b14 b15 b16 b17 b18 b19 : α} : LenE (α := α) [b0, b1, b2, b3, b4, b5, b6, b7, b8, b9, b10, b11, b12, b13, b14, b15, b16, b17, b18, b19] 20 := ⟨rfl⟩
instance at21 {b0 b1 b2 b3 b4 b5 b6 b7 b8 b9 b10 b11 b12 b13 b14 b15 b16 b17 b18 b19 b20 : V} {v : V} {xs : List V} : AtE (b0 :: b1 :: b2 :: b3 :: b4 :: b5 :: b6 :: b7 :: b8 :: b9 :: b10 :: b11 :: b12 :: b13 :: b14 :: b15 :: b16 :: b17 :: b18 :: b19 :: b20 :: v :: xs) 21 v := ⟨atI_at (j := 21) rfl rfl⟩
instance set21 {b0 b1 b2 b3 b4 b5 b6 b7 b8 b9 b10 b11 b12 b13 b14 b15 b16 b17 b18 b19 b20 : V} {w v : V} {xs : List V} : SetE (b0 :: b1 :: b2 :: b3 :: b4 :: b5 :: b6 :: b7 :: b8 :: b9 :: b10 :: b11 :: b12 :: b13 :: b14 :: b15 :: b16 :: b17 :: b18 :: b19 :: b20 :: w :: xs) 21 v (b0 :: b1 :: b2 :: b3 :: b4 :: b5 :: b6 :: b7 :: b8 :: b9 :: b10 :: b11 :: b12 :: b13 :: b14 :: b15 :: b16 :: b17 :: b18 :: b19 :: b20 :: v :: xs) := ⟨21, ixN_at (j := 21) rfl (by simp only [List.length_cons]; omega), rfl⟩
instance seto21 {b0 b1 b2 b3 b4 b5 b6 b7 b8 b9 b10 b11 b12 b13 b14 b15 b16 b17 b18 b19 b20 : Option V} {w : Option V} {σ : L2.St} : SetO (b0 :: b1 :: b2 :: b3 :: b4 :: b5 :: b6 :: b7 :: b8 :: b9 :: b10 :: b11 :: b12 :: b13 :: b14 :: b15 :: b16 :: b17 :: b18 :: b19 :: b20 :: w :: σ) 21 (b0 :: b1 :: b2 :: b3 :: b4 :: b5 :: b6 :: b7 :: b8 :: b9 :: b10 :: b11 :: b12 :: b13 :: b14 :: b15 :: b16 :: b17 :: b18 :: b19 :: b20 :: none :: σ) := ⟨rfl⟩
instance len21 {α : Type} {b0 b1 b2 b3 b4 b5 b6 b7 b8 b9 b10 b11 b12 b13 b14 b15 b16 b17 b18 b19 b20 : α} : LenE (α := α) [b0, b1, b2, b3, b4, b5, b6, b7, b8, b9, b10, b11, b12, b13, b14, b15, b16, b17, b18, b19, b20] 21 := ⟨rfl⟩
instance at22 {b0 b1 b2 b3 b4 b5 b6 b7 b8 b9 b10 b11 b12 b13 b14 b15 b16 b17 b18 b19 b20 b21 : V} {v : V} {xs : List V} : AtE (b0 :: b1 :: b2 :: b3 :: b4 :: b5 :: b6 :: b7 :: b8 :: b9 :: b10 :: b11 :: b12 :: b13 :: b14 :: b15 :: b16 :: b17 :: b18 :: b19 :: b20 :: b21 :: v :: xs) 22 v := ⟨atI_at (j := 22) rfl rfl⟩
instance set22 {b0 b1 b2 b3 b4 b5 b6 b7 b8 b9 b10 b11 b12 b13 b14 b15 b16 b17 b18 b19 b20 b21 : V} {w v : V} {xs : List V} : SetE (b0 :: b1 :: b2 :: b3 :: b4 :: b5 :: b6 :: b7 :: b8 :: b9 :: b10 :: b11 :: b12 :: b13 :: b14 :: b15 :: b16 :: b17 :: b18 :: b19 :: b20 :: b21 :: w :: xs) 22 v (b0 :: b1 :: b2 :: b3 :: b4 :: b5 :: b6 :: b7 :: b8 :: b9 :: b10 :: b11 :: b12 :: b13 :: b14 :: b15 :: b16 :: b17 :: b18 :: b19 :: b20 :: b21 :: v :: xs) := ⟨22, ixN_at (j := 22) rfl (by simp only [List.length_cons]; omega), rfl⟩
instance seto22 {b0 b1 b2 b3 b4 b5 b6 b7 b8 b9 b10 b11 b12 b13 b14 b15 b16 b17 b18 b19 b20 b21 : Option V} {w : Option V} {σ : L2.St} : SetO (b0 :: b1 :: b2 :: b3 :: b4 :: b5 :: b6 :: b7 :: b8 :: b9 :: b10 :: b11 :: b12 :: b13 :: b14 :: b15 :: b16 :: b17 :: b18 :: b19 :: b20 :: b21 :: w :: σ) 22 (b0 :: b1 :: b2 :: b3 :: b4 :: b5 :: b6 :: b7 :: b8 :: b9 :: b10 :: b11 :: b12 :: b13 :: b14 :: b15 :: b16 :: b17 :: b18 :: b19 :: b20 :: b21 :: none :: σ) := ⟨rfl⟩
instance len22 {α : Type} {b0 b1 b2 b3 b4 b5 b6 b7 b8 b9 b10 b11 b12 b13 b14 b15 b16 b17 b18 b19 b20 b21 : α} : LenE (α := α) [b0, b1, b2, b3, b4, b5, b6, b7, b8, b9, b10, b11, b12, b13, b14, b15, b16, b17, b18, b19, b20, b21] 22 := ⟨rfl⟩
instance at23 {b0 b1 b2 b3 b4 b5 b6 b7 b8 b9 b10 b11 b12 b13 b14 b15 b16 b17 b18 b19 b20 b21 b22 : V} {v : V} {xs : List V} : AtE (b0 :: b1 :: b2 :: b3 :: b4 :: b5 :: b6 :: b7 :: b8 :: b9 :: b10 :: b11 :: b12 :: b13 :: b14 :: b15 :: b16 :: b17 :: b18 :: b19 :: b20 :: b21 :: b22 :: v :: xs) 23 v := ⟨atI_at (j := 23) rfl rfl⟩
instance set23 {b0 b1 b2 b3 b4 b5 b6 b7 b8 b9 b10 b11 b12 b13 b14 b15 b16 b17 b18 b19 b20 b21 b22 : V} {w v : V} {xs : List V} : SetE (b0 :: b1 :: b2 :: b3 :: b4 :: b5 :: b6 :: b7 :: b8 :: b9 :: b10 :: b11 :: b12 :: b13 :: b14 :: b15 :: b16 :: b17 :: b18 :: b19 :: b20 :: b21 :: b22 :: w :: xs) 23 v (b0 :: b1 :: b2 :: b3 :: b4 :: b5 :: b6 :: b7 :: b8 :: b9 :: b10 :: b11 :: b12 :: b13 :: b14 :: b15 :: b16 :: b17 :: b18 :: b19 :: b20 :: b21 :: b22 :: v :: xs) := ⟨23, ixN_at (j := 23) rfl (by simp only [List.length_cons]; omega), rfl⟩
instance seto23 {b0 b1 b2 b3 b4 b5 b6 b7 b8 b9 b10 b11 b12 b13 b14 b15 b16 b17 b18 b19 b20 b21 b22 : Option V} {w : Option V} {σ : L2.St} : SetO (b0 :: b1 :: b2 :: b3 :: b4 :: b5 :: b6 :: b7 :: b8 :: b9 :: b10 :: b11 :: b12 :: b13 :: b14 :: b15 :: b16 :: b17 :: b18 :: b19 :: b20 :: b21 :: b22 :: w :: σ) 23 (b0 :: b1 :: b2 :: b3 :: b4 :: b5 :: b6 :: b7 :: b8 :: b9 :: b10 :: b11 :: b12 :: b13 :: b14 :: b15 :: b16 :: b17 :: b18 :: b19 :: b20 :: b21 :: b22 :: none :: σ) := ⟨rfl⟩
instance len23 {α : Type} {b0 b1 b2 b3 b4 b5 b6 b7 b8 b9 b10 b11 b12 b13 b14 b15 b16 b17 b18 b19 b20 b21 b22 : α} : LenE (α := α) [b0, b1, b2, b3, b4, b5, b6, b7, b8, b9, b10, b11, b12, b13, b14, b15, b16, b17, b18, b19, b20, b21, b22] 23 := ⟨rfl⟩
instance wipe0 {σ : L2.St} : WipeE σ [] σ := ⟨rfl⟩
instance wipe1 {σ σ1 : L2.St} {v : Nat} [a : SetO σ v σ1] : WipeE σ [v] σ1 := ⟨a.e⟩
instance wipe2 {σ σ1 σ2 : L2.St} {v u : Nat} [a : SetO σ u σ1] [b : SetO σ1 v σ2] : WipeE σ [v, u] σ2 := ⟨by show (σ.set u none).set v none = σ2; rw [a.e, b.e]⟩
section
variable {σ : L2.St} {H H' : Hp} {Q : VK} {QB : Bool → Hp → Prop} {QL : List V → Hp → Prop} {QO : Option Int → Hp → Prop} {QS : L2.St → Hp → Prop} {te ta tb tc : TE} {t u : TT} {tl : TA} {r r' : R2} {rc : List V → Hp → VK → Prop} {s1 s2 : TS} {nx bk ct : K0} {rt : VK} {v x y : V} {g : TG} {i j : Int} {b : Bool} {E : XK} {sp : Sp} {C : Addr} {P : Prop} [Decidable P] {A B : Prop} {S : Sta}
variable {L L' : List Ent} {p q : Addr} {xs : List V} {f : Str} {dx : Addr} {fs : List (Str × V)} {lo hi : Option Int}
variable {Cs : List Addr} {ls : List (Addr × Sp)}
variable {QV : V → Prop} {m : Str} {fs' : List (Str × V)} {ys zs : List V} {k : Nat} {vs : List V}
instance i_op  : St1 (tOp r ta tb σ H Q) (ta σ H fun x H1 => tb σ H1 fun y H2 => r x y H2 Q) := ⟨fun h => x_op h⟩
instance i_c  : St1 (tC v σ H Q) (Q v H) := ⟨fun h => x_c h⟩
instance i_seq  : St1 (tSeq s1 s2 ⟨nx, rt, bk, ct⟩ σ H) (s1 ⟨s2 ⟨nx, rt, bk, ct⟩, rt, bk, ct⟩ σ H) := ⟨fun h => x_seq h⟩
instance i_asg  : St1 (tAsg te g ⟨nx, rt, bk, ct⟩ σ H) (te σ H fun x H1 => g x σ H1 nx) := ⟨fun h => x_asg h⟩
instance i_cons  : St1 (tCons ta tl σ H QL) (ta σ H fun x H1 => tl σ H1 fun xs H2 => QL (x :: xs) H2) := ⟨fun h => x_cons h⟩
instance i_nil  : St1 (tNil σ H QL) (QL [] H) := ⟨fun h => x_nil h⟩
instance i_cb  : St1 (tCB rc tl σ H Q) (tl σ H fun vs H1 => rc vs H1 Q) := ⟨fun h => x_cb h⟩
instance i_ifS  : St1 (tIfS t s1 s2 ⟨nx, rt, bk, ct⟩ σ H) (t σ H fun b H1 => if b = true then s1 ⟨nx, rt, bk, ct⟩ σ H1 else s2 ⟨nx, rt, bk, ct⟩ σ H1) := ⟨fun h => x_ifS h⟩
instance i_iteT  : St1 (if true = true then A else B) (A) := ⟨fun h => x_iteT h⟩
instance i_iteF  : St1 (if false = true then A else B) (B) := ⟨fun h => x_iteF h⟩
instance i_next  : St1 (tNext ⟨nx, rt, bk, ct⟩ σ H) (nx σ H) := ⟨fun h => x_next h⟩
instance i_ret  : St1 (tRet te ⟨nx, rt, bk, ct⟩ σ H) (te σ H rt) := ⟨fun h => x_ret h⟩
instance i_add  : St1 (rAdd (.int i) (.int j) H Q) (Q (.int (i + j)) H) := ⟨fun h => x_add h⟩
instance i_sub  : St1 (rSub (.int i) (.int j) H Q) (Q (.int (i - j)) H) := ⟨fun h => x_sub h⟩
instance i_eqI  : St1 (rEq (.int i) (.int j) H Q) (Q (.bl (decide (i = j))) H) := ⟨fun h => x_eqI h⟩
instance i_eqB {a b : Bool} : St1 (rEq (.bl a) (.bl b) H Q) (Q (.bl (decide (a = b))) H) := ⟨fun h => x_eqB h⟩
instance i_eqS {a b : Str} : St1 (rEq (.str a) (.str b) H Q) (Q (.bl (decide (a = b))) H) := ⟨fun h => x_eqS h⟩
instance i_neI  : St1 (rNe (.int i) (.int j) H Q) (Q (.bl (decide (i ≠ j))) H) := ⟨fun h => x_neI h⟩
instance i_neB {a b : Bool} : St1 (rNe (.bl a) (.bl b) H Q) (Q (.bl (decide (a ≠ b))) H) := ⟨fun h => x_neB h⟩
instance i_neS {a b : Str} : St1 (rNe (.str a) (.str b) H Q) (Q (.bl (decide (a ≠ b))) H) := ⟨fun h => x_neS h⟩
instance i_eqPI  : St1 (rEqP S (.int i) (.int j) H Q) (Q (.bl (decide (i = j))) H) := ⟨fun h => x_eqPI h⟩
instance i_eqPB {a b : Bool} : St1 (rEqP S (.bl a) (.bl b) H Q) (Q (.bl (decide (a = b))) H) := ⟨fun h => x_eqPB h⟩
instance i_nePI  : St1 (rNeP S (.int i) (.int j) H Q) (Q (.bl (decide (i ≠ j))) H) := ⟨fun h => x_nePI h⟩
instance i_nePB {a b : Bool} : St1 (rNeP S (.bl a) (.bl b) H Q) (Q (.bl (decide (a ≠ b))) H) := ⟨fun h => x_nePB h⟩
instance i_eqPSs {a : Str} : St1 (rEqP S (.str a) (.str a) H Q) (Q (.bl true) H) := ⟨fun h => x_eqPSs h⟩
instance i_nePSs {a : Str} : St1 (rNeP S (.str a) (.str a) H Q) (Q (.bl false) H) := ⟨fun h => x_nePSs h⟩
instance i_isN  : St1 (rIs .non .non H Q) (Q (.bl true) H) := ⟨fun h => x_isN h⟩
instance i_isI  : St1 (rIs (.int i) .non H Q) (Q (.bl false) H) := ⟨fun h => x_isI h⟩
instance i_isR  : St1 (rIs (.ref C) .non H Q) (Q (.bl false) H) := ⟨fun h => x_isR h⟩
instance i_isB  : St1 (rIs (.bl b) .non H Q) (Q (.bl false) H) := ⟨fun h => x_isB h⟩
instance i_isnN  : St1 (rIsNot .non .non H Q) (Q (.bl false) H) := ⟨fun h => x_isnN h⟩
instance i_isnI  : St1 (rIsNot (.int i) .non H Q) (Q (.bl true) H) := ⟨fun h => x_isnI h⟩
instance i_isnR  : St1 (rIsNot (.ref C) .non H Q) (Q (.bl true) H) := ⟨fun h => x_isnR h⟩
instance i_isnB  : St1 (rIsNot (.bl b) .non H Q) (Q (.bl true) H) := ⟨fun h => x_isnB h⟩
instance i_lt  : St1 (rLt (.int i) (.int j) H Q) (Q (.bl (decide (i < j))) H) := ⟨fun h => x_lt h⟩
instance i_le  : St1 (rLe (.int i) (.int j) H Q) (Q (.bl (decide (i ≤ j))) H) := ⟨fun h => x_le h⟩
instance i_gt  : St1 (rGt (.int i) (.int j) H Q) (Q (.bl (decide (j < i))) H) := ⟨fun h => x_gt h⟩
instance i_ge  : St1 (rGe (.int i) (.int j) H Q) (Q (.bl (decide (j ≤ i))) H) := ⟨fun h => x_ge h⟩
instance i_intI  : St1 (rInt [.int i] H Q) (Q (.int i) H) := ⟨fun h => x_intI h⟩
instance i_and  : St1 (tAnd t u σ H QB) (t σ H fun c H1 => if c = true then u σ H1 QB else QB false H1) := ⟨fun h => x_and h⟩
instance i_or  : St1 (tOr t u σ H QB) (t σ H fun c H1 => if c = true then QB true H1 else u σ H1 QB) := ⟨fun h => x_or h⟩
instance i_con  : St1 (eCon v σ H Q) (Q v H) := ⟨fun h => x_con h⟩
instance i_gsub {to ti : TE} {ts : TSet} : St1 (gSub to ti ts v σ H QS) (to σ H fun o H1 => ti σ H1 fun i H2 => ts o i v H2 fun H3 => QS σ H3) := ⟨fun h => x_gsub h⟩
instance i_lst  : St1 (tLst tl σ H Q) (tl σ H fun xs H1 => Klst xs H1 Q) := ⟨fun h => x_lst h⟩
instance i_tup  : St1 (tTup tl σ H Q) (tl σ H fun xs H1 => Ktup xs H1 Q) := ⟨fun h => x_tup h⟩
instance i_drop  : St1 (tDrop te ⟨nx, rt, bk, ct⟩ σ H) (te σ H fun _ H1 => nx σ H1) := ⟨fun h => x_drop h⟩
instance i_tIf  : St1 (tIf t ta tb σ H Q) (t σ H fun c H1 => if c = true then ta σ H1 Q else tb σ H1 Q) := ⟨fun h => x_tIf h⟩
instance i_un {ru : V → Hp → VK → Prop} : St1 (tUn ru ta σ H Q) (ta σ H fun x H1 => ru x H1 Q) := ⟨fun h => x_un h⟩
instance i_retN  : St1 (tRetN ⟨nx, rt, bk, ct⟩ σ H) (rt .non H) := ⟨fun h => x_retN h⟩
instance i_brk  : St1 (tBreak ⟨nx, rt, bk, ct⟩ σ H) (bk σ H) := ⟨fun h => x_brk h⟩
instance i_cont  : St1 (tCont ⟨nx, rt, bk, ct⟩ σ H) (ct σ H) := ⟨fun h => x_cont h⟩
instance i_cmeth  : St1 (ClX.tCMeth C sp E (eCon (.ref C)) tl σ H Q) (tl σ H fun vs H2 => sp (.ref C :: vs) H2 Q E) := ⟨fun h => x_cmeth h⟩
instance i_sl {tlo thi : TO} {rs : V → Option Int → Option Int → Hp → VK → Prop} : St1 (L2.tSl rs te tlo thi σ H Q) (te σ H fun x H1 => tlo σ H1 fun l H2 => thi σ H2 fun u H3 => rs x l u H3 Q) := ⟨fun h => x_sl h⟩
instance i_nopart  : St1 (tNoPart σ H QO) (QO none H) := ⟨fun h => x_nopart h⟩
instance i_niteT  : St1 (if (!true) = true then A else B) (B) := ⟨fun h => x_niteT h⟩
instance i_niteF  : St1 (if (!false) = true then A else B) (A) := ⟨fun h => x_niteF h⟩
instance i_initEnd {B : Prop} : St1 (V.non = .non ∧ B) (B) := ⟨fun h => x_initEnd h⟩
instance i_neg  : St1 (rNeg (.int i) H Q) (Q (.int (-i)) H) := ⟨fun h => x_neg h⟩
instance i_band  : St1 (rAnd (.int i) (.int j) H Q) (Q (.int (Builtin.bitAnd i j)) H) := ⟨fun h => x_band h⟩
instance i_intB  : St1 (rInt [.bl b] H Q) (Q (.int (if b then 1 else 0)) H) := ⟨fun h => x_intB h⟩
instance i_augA  : St1 (rAug (.int i) (.int j) H Q) (Q (.int (i + j)) H) := ⟨fun h => x_augA h⟩
instance i_augS  : St1 (rAugS (.int i) (.int j) H Q) (Q (.int (i - j)) H) := ⟨fun h => x_augS h⟩
instance i_forE  : St1 (sFor S te g s1 ⟨nx, rt, bk, ct⟩ σ H) (te σ H fun x H1 => ForS S g s1 nx rt x σ H1) := ⟨fun h => x_forE h⟩
instance i_lcE {tt : TT} {tel : TE} {vs : List Nat} : St1 (eLc S te g tt tel vs σ H Q) (te σ H fun x H1 => LcS S g tt tel vs Q x σ H1) := ⟨fun h => x_lcE h⟩
instance i_yes  : St1 (tYes σ H QB) (QB true H) := ⟨fun h => x_yes h⟩
instance i_forK0  : St1 (forK g s1 nx bk rt 0 i σ H) (nx σ H) := ⟨fun h => x_forK0 h⟩
instance i_forK {n : Nat} : St1 (forK g s1 nx bk rt (n + 1) i σ H) (g (.int i) σ H fun σ' H' => s1 ⟨forK g s1 nx bk rt n (i + 1), rt, bk, forK g s1 nx bk rt n (i + 1)⟩ σ' H') := ⟨fun h => x_forK h⟩
instance i_chn {tl : TC} : St1 (tChn ta tl σ H Q) (ta σ H fun x H1 => tl σ x H1 Q) := ⟨fun h => x_chn h⟩
instance i_clast  : St1 (cLast r tb σ x H Q) (tb σ H fun y H1 => r x y H1 Q) := ⟨fun h => x_clast h⟩
instance i_bits  : St1 (rBits (.int i) H Q) (Q (.int (Builtin.Int.intBits i : Nat)) H) := ⟨fun h => x_bits h⟩
instance i_forKS {a : Addr} {u : HO} : St1 (forKS S a u g s1 nx bk rt (x :: xs) σ H) (g x σ H fun σ' H' => s1 ⟨fun σ H => RdS S H a u ∧ forKS S a u g s1 nx bk rt xs σ H, rt, bk, fun σ H => RdS S H a u ∧ forKS S a u g s1 nx bk rt xs σ H⟩ σ' H') := ⟨fun h => x_forKS h⟩
instance i_forKS0 {a : Addr} {u : HO} : St1 (forKS S a u g s1 nx bk rt [] σ H) (nx σ H) := ⟨fun h => x_forKS0 h⟩
instance i_lcKS {a D : Addr} {u : HO} {tt : TT} {tel : TE} {vs : List Nat} {σw : L2.St} : St1 (lcKS S a u g tt tel vs σw D Q (x :: xs) H) (g x σw H fun σ2 H2 => wipe σ2 vs = σw ∧ tt σ2 H2 fun b H3 => if b = true then tel σ2 H3 fun z H4 => lcPut D z (fun H => RdS S H a u ∧ lcKS S a u g tt tel vs σw D Q xs H) H4 else RdS S H3 a u ∧ lcKS S a u g tt tel vs σw D Q xs H3) := ⟨fun h => x_lcKS h⟩
instance i_lcKS0 {a D : Addr} {u : HO} {tt : TT} {tel : TE} {vs : List Nat} {σw : L2.St} : St1 (lcKS S a u g tt tel vs σw D Q [] H) (Q (.ref D) H) := ⟨fun h => x_lcKS0 h⟩
instance i_lcR {tt : TT} {tel : TE} {vs : List Nat} : St1 (eLcR none te g tt tel vs σ H Q) (te σ H fun y H1 => LcR g tt tel vs Q y σ H1) := ⟨fun h => x_lcR h⟩
instance i_lcKR {D : Addr} {tt : TT} {tel : TE} {vs : List Nat} {σw : L2.St} : St1 (lcKR g tt tel vs σw D Q (x :: xs) H) (g x σw H fun σ2 H2 => wipe σ2 vs = σw ∧ tt σ2 H2 fun b H3 => if b = true then tel σ2 H3 fun z H4 => lcPut D z (fun H => lcKR g tt tel vs σw D Q xs H) H4 else lcKR g tt tel vs σw D Q xs H3) := ⟨fun h => x_lcKR h⟩
instance i_lcKR0 {D : Addr} {tt : TT} {tel : TE} {vs : List Nat} {σw : L2.St} : St1 (lcKR g tt tel vs σw D Q [] H) (Q (.ref D) H) := ⟨fun h => x_lcKR0 h⟩
instance i_abs  : St1 (rAbs [.int i] H Q) (Q (.int (if i < 0 then -i else i)) H) := ⟨fun h => x_abs h⟩
instance i_min2  : St1 (rMin2 [.int i, .int j] H Q) (Q (.int (min i j)) H) := ⟨fun h => x_min2 h⟩
instance i_min3 {k : Int} : St1 (rMin3 [.int i, .int j, .int k] H Q) (Q (.int (min (min i j) k)) H) := ⟨fun h => x_min3 h⟩
instance i_max2  : St1 (rMax2 [.int i, .int j] H Q) (Q (.int (max i j)) H) := ⟨fun h => x_max2 h⟩
instance i_inAdd  : St1 (rInAdd (.int i) (.int j) H Q) (Q (.int (i + j)) H) := ⟨fun h => x_inAdd h⟩
instance i_inSub  : St1 (rInSub (.int i) (.int j) H Q) (Q (.int (i - j)) H) := ⟨fun h => x_inSub h⟩
instance i_augSub {to ti : TE} {tg : V → V → Hp → VK → Prop} {tp : TIp} {ts : TSet} : St1 (tAugS to ti te tg tp ts ⟨nx, rt, bk, ct⟩ σ H) (to σ H fun o H1 => ti σ H1 fun i H2 => tg o i H2 fun x H3 => te σ H3 fun y H4 => tp x y H4 fun z H5 => ts o i z H5 fun H6 => nx σ H6) := ⟨fun h => x_augSub h⟩
instance i_raise {C : Addr} {fs : List Str} {D : Ends} : St1 (sRaise E (tMkC C fs tl) D σ H) (tl σ H fun vs H1 => KmkC C fs E vs H1) := ⟨fun h => x_raise h⟩
instance i_raiseS {C : Addr} {fs : List Str} {D : Ends} {W : WX} : St1 (sRaiseS W (tMkC C fs tl) D σ H) (tl σ H fun vs H1 => KmkC C fs (WE W σ) vs H1) := ⟨fun h => x_raiseS h⟩
instance i_try {tab : List (Value × Nat)} {cl : List Sui} {tw : WX → TS} : St1 (sTry tab cl tw ⟨nx, rt, bk, ct⟩ σ H) (tw (wT tab cl ⟨nx, rt, bk, ct⟩) ⟨nx, rt, bk, ct⟩ σ H) := ⟨fun h => x_try h⟩
instance i_cS {ES : L2.St → XK} : St1 (tCS sp ES tl σ H Q) (tl σ H fun vs H1 => sp vs H1 Q (ES σ)) := ⟨fun h => x_cS h⟩
instance i_newS {ES : L2.St → XK} : St1 (tNewS C sp ES tl σ H Q) (tl σ H fun vs H1 => KnewS C sp vs H1 Q (ES σ)) := ⟨fun h => x_newS h⟩
instance i_whB {W : Nat → L2.St → Hp → Prop} {m : Nat} : St1 (WhB W m s1 nx rt σ H) (s1 ⟨WhN W m, rt, nx, WhN W m⟩ σ H) := ⟨fun h => x_whB h⟩
instance i_raw {vs : List V} : St1 (spRaw sp vs H Q E) (sp vs H Q E) := ⟨fun h => x_raw h⟩
instance i_v0 {σ : L2.St} : St1 (tVar 0 (some v :: σ) H Q) (Q v H) := ⟨fun h => x_v0 h⟩
instance i_v1 {a0 : Option V} {σ : L2.St} : St1 (tVar 1 (a0 :: some v :: σ) H Q) (Q v H) := ⟨fun h => x_v1 h⟩
instance i_v2 {a0 a1 : Option V} {σ : L2.St} : St1 (tVar 2 (a0 :: a1 :: some v :: σ) H Q) (Q v H) := ⟨fun h => x_v2 h⟩
instance i_v3 {a0 a1 a2 : Option V} {σ : L2.St} : St1 (tVar 3 (a0 :: a1 :: a2 :: some v :: σ) H Q) (Q v H) := ⟨fun h => x_v3 h⟩
instance i_v4 {a0 a1 a2 a3 : Option V} {σ : L2.St} : St1 (tVar 4 (a0 :: a1 :: a2 :: a3 :: some v :: σ) H Q) (Q v H) := ⟨fun h => x_v4 h⟩
instance i_v5 {a0 a1 a2 a3 a4 : Option V} {σ : L2.St} : St1 (tVar 5 (a0 :: a1 :: a2 :: a3 :: a4 :: some v :: σ) H Q) (Q v H) := ⟨fun h => x_v5 h⟩
instance i_v6 {a0 a1 a2 a3 a4 a5 : Option V} {σ : L2.St} : St1 (tVar 6 (a0 :: a1 :: a2 :: a3 :: a4 :: a5 :: some v :: σ) H Q) (Q v H) := ⟨fun h => x_v6 h⟩
instance i_v7 {a0 a1 a2 a3 a4 a5 a6 : Option V} {σ : L2.St} : St1 (tVar 7 (a0 :: a1 :: a2 :: a3 :: a4 :: a5 :: a6 :: some v :: σ) H Q) (Q v H) := ⟨fun h => x_v7 h⟩
instance i_v8 {a0 a1 a2 a3 a4 a5 a6 a7 : Option V} {σ : L2.St} : St1 (tVar 8 (a0 :: a1 :: a2 :: a3 :: a4 :: a5 :: a6 :: a7 :: some v :: σ) H Q) (Q v H) := ⟨fun h => x_v8 h⟩
instance i_v9 {a0 a1 a2 a3 a4 a5 a6 a7 a8 : Option V} {σ : L2.St} : St1 (tVar 9 (a0 :: a1 :: a2 :: a3 :: a4 :: a5 :: a6 :: a7 :: a8 :: some v :: σ) H Q) (Q v H) := ⟨fun h => x_v9 h⟩
instance i_v10 {a0 a1 a2 a3 a4 a5 a6 a7 a8 a9 : Option V} {σ : L2.St} : St1 (tVar 10 (a0 :: a1 :: a2 :: a3 :: a4 :: a5 :: a6 :: a7 :: a8 :: a9 :: some v :: σ) H Q) (Q v H) := ⟨fun h => x_v10 h⟩
instance i_v11 {a0 a1 a2 a3 a4 a5 a6 a7 a8 a9 a10 : Option V} {σ : L2.St} : St1 (tVar 11 (a0 :: a1 :: a2 :: a3 :: a4 :: a5 :: a6 :: a7 :: a8 :: a9 :: a10 :: some v :: σ) H Q) (Q v H) := ⟨fun h => x_v11 h⟩
instance i_v12 {a0 a1 a2 a3 a4 a5 a6 a7 a8 a9 a10 a11 : Option V} {σ : L2.St} : St1 (tVar 12 (a0 :: a1 :: a2 :: a3 :: a4 :: a5 :: a6 :: a7 :: a8 :: a9 :: a10 :: a11 :: some v :: σ) H Q) (Q v H) := ⟨fun h => x_v12 h⟩
instance i_v13 {a0 a1 a2 a3 a4 a5 a6 a7 a8 a9 a10 a11 a12 : Option V} {σ : L2.St} : St1 (tVar 13 (a0 :: a1 :: a2 :: a3 :: a4 :: a5 :: a6 :: a7 :: a8 :: a9 :: a10 :: a11 :: a12 :: some v :: σ) H Q) (Q v H) := ⟨fun h => x_v13 h⟩
instance i_v14 {a0 a1 a2 a3 a4 a5 a6 a7 a8 a9 a10 a11 a12 a13 : Option V} {σ : L2.St} : St1 (tVar 14 (a0 :: a1 :: a2 :: a3 :: a4 :: a5 :: a6 :: a7 :: a8 :: a9 :: a10 :: a11 :: a12 :: a13 :: some v :: σ) H Q) (Q v H) := ⟨fun h => x_v14 h⟩
instance i_v15 {a0 a1 a2 a3 a4 a5 a6 a7 a8 a9 a10 a11 a12 a13 a14 : Option V} {σ : L2.St} : St1 (tVar 15 (a0 :: a1 :: a2 :: a3 :: a4 :: a5 :: a6 :: a7 :: a8 :: a9 :: a10 :: a11 :: a12 :: a13 :: a14 :: some v :: σ) H Q) (Q v H) := ⟨fun h => x_v15 h⟩
instance i_v16 {a0 a1 a2 a3 a4 a5 a6 a7 a8 a9 a10 a11 a12 a13 a14 a15 : Option V} {σ : L2.St} : St1 (tVar 16 (a0 :: a1 :: a2 :: a3 :: a4 :: a5 :: a6 :: a7 :: a8 :: a9 :: a10 :: a11 :: a12 :: a13 :: a14 :: a15 :: some v :: σ) H Q) (Q v H) := ⟨fun h => x_v16 h⟩
instance i_v17 {a0 a1 a2 a3 a4 a5 a6 a7 a8 a9 a10 a11 a12 a13 a14 a15 a16 : Option V} {σ : L2.St} : St1 (tVar 17 (a0 :: a1 :: a2 :: a3 :: a4 :: a5 :: a6 :: a7 :: a8 :: a9 :: a10 :: a11 :: a12 :: a13 :: a14 :: a15 :: a16 :: some v :: σ) H Q) (Q v H) := ⟨fun h => x_v17 h⟩
instance i_v18 {a0 a1 a2 a3 a4 a5 a6 a7 a8 a9 a10 a11 a12 a13 a14 a15 a16 a17 : Option V} {σ : L2.St} : St1 (tVar 18 (a0 :: a1 :: a2 :: a3 :: a4 :: a5 :: a6 :: a7 :: a8 :: a9 :: a10 :: a11 :: a12 :: a13 :: a14 :: a15 :: a16 :: a17 :: some v :: σ) H Q) (Q v H) := ⟨fun h => x_v18 h⟩
instance i_v19 {a0 a1 a2 a3 a4 a5 a6 a7 a8 a9 a10 a11 a12 a13 a14 a15 a16 a17 a18 : Option V} {σ : L2.St} : St1 (tVar 19 (a0 :: a1 :: a2 :: a3 :: a4 :: a5 :: a6 :: a7 :: a8 :: a9 :: a10 :: a11 :: a12 :: a13 :: a14 :: a15 :: a16 :: a17 :: a18 :: some v :: σ) H Q) (Q v H) := ⟨fun h => x_v19 h⟩
instance i_v20 {a0 a1 a2 a3 a4 a5 a6 a7 a8 a9 a10 a11 a12 a13 a14 a15 a16 a17 a18 a19 : Option V} {σ : L2.St} : St1 (tVar 20 (a0 :: a1 :: a2 :: a3 :: a4 :: a5 :: a6 :: a7 :: a8 :: a9 :: a10 :: a11 :: a12 :: a13 :: a14 :: a15 :: a16 :: a17 :: a18 :: a19 :: some v :: σ) H Q) (Q v H) := ⟨fun h => x_v20 h⟩
instance i_v21 {a0 a1 a2 a3 a4 a5 a6 a7 a8 a9 a10 a11 a12 a13 a14 a15 a16 a17 a18 a19 a20 : Option V} {σ : L2.St} : St1 (tVar 21 (a0 :: a1 :: a2 :: a3 :: a4 :: a5 :: a6 :: a7 :: a8 :: a9 :: a10 :: a11 :: a12 :: a13 :: a14 :: a15 :: a16 :: a17 :: a18 :: a19 :: a20 :: some v :: σ) H Q) (Q v H) := ⟨fun h => x_v21 h⟩
instance i_v22 {a0 a1 a2 a3 a4 a5 a6 a7 a8 a9 a10 a11 a12 a13 a14 a15 a16 a17 a18 a19 a20 a21 : Option V} {σ : L2.St} : St1 (tVar 22 (a0 :: a1 :: a2 :: a3 :: a4 :: a5 :: a6 :: a7 :: a8 :: a9 :: a10 :: a11 :: a12 :: a13 :: a14 :: a15 :: a16 :: a17 :: a18 :: a19 :: a20 :: a21 :: some v :: σ) H Q) (Q v H) := ⟨fun h => x_v22 h⟩
instance i_v23 {a0 a1 a2 a3 a4 a5 a6 a7 a8 a9 a10 a11 a12 a13 a14 a15 a16 a17 a18 a19 a20 a21 a22 : Option V} {σ : L2.St} : St1 (tVar 23 (a0 :: a1 :: a2 :: a3 :: a4 :: a5 :: a6 :: a7 :: a8 :: a9 :: a10 :: a11 :: a12 :: a13 :: a14 :: a15 :: a16 :: a17 :: a18 :: a19 :: a20 :: a21 :: a22 :: some v :: σ) H Q) (Q v H) := ⟨fun h => x_v23 h⟩
instance i_g0 {x : Option V} {σ : L2.St} : St1 (gName 0 v (x :: σ) H QS) (QS (some v :: σ) H) := ⟨fun h => x_g0 h⟩
instance i_g1 {a0 : Option V} {x : Option V} {σ : L2.St} : St1 (gName 1 v (a0 :: x :: σ) H QS) (QS (a0 :: some v :: σ) H) := ⟨fun h => x_g1 h⟩
instance i_g2 {a0 a1 : Option V} {x : Option V} {σ : L2.St} : St1 (gName 2 v (a0 :: a1 :: x :: σ) H QS) (QS (a0 :: a1 :: some v :: σ) H) := ⟨fun h => x_g2 h⟩
instance i_g3 {a0 a1 a2 : Option V} {x : Option V} {σ : L2.St} : St1 (gName 3 v (a0 :: a1 :: a2 :: x :: σ) H QS) (QS (a0 :: a1 :: a2 :: some v :: σ) H) := ⟨fun h => x_g3 h⟩
instance i_g4 {a0 a1 a2 a3 : Option V} {x : Option V} {σ : L2.St} : St1 (gName 4 v (a0 :: a1 :: a2 :: a3 :: x :: σ) H QS) (QS (a0 :: a1 :: a2 :: a3 :: some v :: σ) H) := ⟨fun h => x_g4 h⟩
instance i_g5 {a0 a1 a2 a3 a4 : Option V} {x : Option V} {σ : L2.St} : St1 (gName 5 v (a0 :: a1 :: a2 :: a3 :: a4 :: x :: σ) H QS) (QS (a0 :: a1 :: a2 :: a3 :: a4 :: some v :: σ) H) := ⟨fun h => x_g5 h⟩
instance i_g6 {a0 a1 a2 a3 a4 a5 : Option V} {x : Option V} {σ : L2.St} : St1 (gName 6 v (a0 :: a1 :: a2 :: a3 :: a4 :: a5 :: x :: σ) H QS) (QS (a0 :: a1 :: a2 :: a3 :: a4 :: a5 :: some v :: σ) H) := ⟨fun h => x_g6 h⟩
instance i_g7 {a0 a1 a2 a3 a4 a5 a6 : Option V} {x : Option V} {σ : L2.St} : St1 (gName 7 v (a0 :: a1 :: a2 :: a3 :: a4 :: a5 :: a6 :: x :: σ) H QS) (QS (a0 :: a1 :: a2 :: a3 :: a4 :: a5 :: a6 :: some v :: σ) H) := ⟨fun h => x_g7 h⟩
instance i_g8 {a0 a1 a2 a3 a4 a5 a6 a7 : Option V} {x : Option V} {σ : L2.St} : St1 (gName 8 v (a0 :: a1 :: a2 :: a3 :: a4 :: a5 :: a6 :: a7 :: x :: σ) H QS) (QS (a0 :: a1 :: a2 :: a3 :: a4 :: a5 :: a6 :: a7 :: some v :: σ) H) := ⟨fun h => x_g8 h⟩
instance i_g9 {a0 a1 a2 a3 a4 a5 a6 a7 a8 : Option V} {x : Option V} {σ : L2.St} : St1 (gName 9 v (a0 :: a1 :: a2 :: a3 :: a4 :: a5 :: a6 :: a7 :: a8 :: x :: σ) H QS) (QS (a0 :: a1 :: a2 :: a3 :: a4 :: a5 :: a6 :: a7 :: a8 :: some v :: σ) H) := ⟨fun h => x_g9 h⟩
instance i_g10 {a0 a1 a2 a3 a4 a5 a6 a7 a8 a9 : Option V} {x : Option V} {σ : L2.St} : St1 (gName 10 v (a0 :: a1 :: a2 :: a3 :: a4 :: a5 :: a6 :: a7 :: a8 :: a9 :: x :: σ) H QS) (QS (a0 :: a1 :: a2 :: a3 :: a4 :: a5 :: a6 :: a7 :: a8 :: a9 :: some v :: σ) H) := ⟨fun h => x_g10 h⟩
instance i_g11 {a0 a1 a2 a3 a4 a5 a6 a7 a8 a9 a10 : Option V} {x : Option V} {σ : L2.St} : St1 (gName 11 v (a0 :: a1 :: a2 :: a3 :: a4 :: a5 :: a6 :: a7 :: a8 :: a9 :: a10 :: x :: σ) H QS) (QS (a0 :: a1 :: a2 :: a3 :: a4 :: a5 :: a6 :: a7 :: a8 :: a9 :: a10 :: some v :: σ) H) := ⟨fun h => x_g11 h⟩
instance i_g12 {a0 a1 a2 a3 a4 a5 a6 a7 a8 a9 a10 a11 : Option V} {x : Option V} {σ : L2.St} : St1 (gName 12 v (a0 :: a1 :: a2 :: a3 :: a4 :: a5 :: a6 :: a7 :: a8 :: a9 :: a10 :: a11 :: x :: σ) H QS) (QS (a0 :: a1 :: a2 :: a3 :: a4 :: a5 :: a6 :: a7 :: a8 :: a9 :: a10 :: a11 :: some v :: σ) H) := ⟨fun h => x_g12 h⟩
instance i_g13 {a0 a1 a2 a3 a4 a5 a6 a7 a8 a9 a10 a11 a12 : Option V} {x : Option V} {σ : L2.St} : St1 (gName 13 v (a0 :: a1 :: a2 :: a3 :: a4 :: a5 :: a6 :: a7 :: a8 :: a9 :: a10 :: a11 :: a12 :: x :: σ) H QS) (QS (a0 :: a1 :: a2 :: a3 :: a4 :: a5 :: a6 :: a7 :: a8 :: a9 :: a10 :: a11 :: a12 :: some v :: σ) H) := ⟨fun h => x_g13 h⟩
instance i_g14 {a0 a1 a2 a3 a4 a5 a6 a7 a8 a9 a10 a11 a12 a13 : Option V} {x : Option V} {σ : L2.St} : St1 (gName 14 v (a0 :: a1 :: a2 :: a3 :: a4 :: a5 :: a6 :: a7 :: a8 :: a9 :: a10 :: a11 :: a12 :: a13 :: x :: σ) H QS) (QS (a0 :: a1 :: a2 :: a3 :: a4 :: a5 :: a6 :: a7 :: a8 :: a9 :: a10 :: a11 :: a12 :: a13 :: some v :: σ) H) := ⟨fun h => x_g14 h⟩
instance i_g15 {a0 a1 a2 a3 a4 a5 a6 a7 a8 a9 a10 a11 a12 a13 a14 : Option V} {x : Option V} {σ : L2.St} : St1 (gName 15 v (a0 :: a1 :: a2 :: a3 :: a4 :: a5 :: a6 :: a7 :: a8 :: a9 :: a10 :: a11 :: a12 :: a13 :: a14 :: x :: σ) H QS) (QS (a0 :: a1 :: a2 :: a3 :: a4 :: a5 :: a6 :: a7 :: a8 :: a9 :: a10 :: a11 :: a12 :: a13 :: a14 :: some v :: σ) H) := ⟨fun h => x_g15 h⟩
instance i_g16 {a0 a1 a2 a3 a4 a5 a6 a7 a8 a9 a10 a11 a12 a13 a14 a15 : Option V} {x : Option V} {σ : L2.St} : St1 (gName 16 v (a0 :: a1 :: a2 :: a3 :: a4 :: a5 :: a6 :: a7 :: a8 :: a9 :: a10 :: a11 :: a12 :: a13 :: a14 :: a15 :: x :: σ) H QS) (QS (a0 :: a1 :: a2 :: a3 :: a4 :: a5 :: a6 :: a7 :: a8 :: a9 :: a10 :: a11 :: a12 :: a13 :: a14 :: a15 :: some v :: σ) H) := ⟨fun h => x_g16 h⟩
instance i_g17 {a0 a1 a2 a3 a4 a5 a6 a7 a8 a9 a10 a11 a12 a13 a14 a15 a16 : Option V} {x : Option V} {σ : L2.St} : St1 (gName 17 v (a0 :: a1 :: a2 :: a3 :: a4 :: a5 :: a6 :: a7 :: a8 :: a9 :: a10 :: a11 :: a12 :: a13 :: a14 :: a15 :: a16 :: x :: σ) H QS) (QS (a0 :: a1 :: a2 :: a3 :: a4 :: a5 :: a6 :: a7 :: a8 :: a9 :: a10 :: a11 :: a12 :: a13 :: a14 :: a15 :: a16 :: some v :: σ) H) := ⟨fun h => x_g17 h⟩
instance i_g18 {a0 a1 a2 a3 a4 a5 a6 a7 a8 a9 a10 a11 a12 a13 a14 a15 a16 a17 : Option V} {x : Option V} {σ : L2.St} : St1 (gName 18 v (a0 :: a1 :: a2 :: a3 :: a4 :: a5 :: a6 :: a7 :: a8 :: a9 :: a10 :: a11 :: a12 :: a13 :: a14 :: a15 :: a16 :: a17 :: x :: σ) H QS) (QS (a0 :: a1 :: a2 :: a3 :: a4 :: a5 :: a6 :: a7 :: a8 :: a9 :: a10 :: a11 :: a12 :: a13 :: a14 :: a15 :: a16 :: a17 :: some v :: σ) H) := ⟨fun h => x_g18 h⟩
instance i_g19 {a0 a1 a2 a3 a4 a5 a6 a7 a8 a9 a10 a11 a12 a13 a14 a15 a16 a17 a18 : Option V} {x : Option V} {σ : L2.St} : St1 (gName 19 v (a0 :: a1 :: a2 :: a3 :: a4 :: a5 :: a6 :: a7 :: a8 :: a9 :: a10 :: a11 :: a12 :: a13 :: a14 :: a15 :: a16 :: a17 :: a18 :: x :: σ) H QS) (QS (a0 :: a1 :: a2 :: a3 :: a4 :: a5 :: a6 :: a7 :: a8 :: a9 :: a10 :: a11 :: a12 :: a13 :: a14 :: a15 :: a16 :: a17 :: a18 :: some v :: σ) H) := ⟨fun h => x_g19 h⟩
instance i_g20 {a0 a1 a2 a3 a4 a5 a6 a7 a8 a9 a10 a11 a12 a13 a14 a15 a16 a17 a18 a19 : Option V} {x : Option V} {σ : L2.St} : St1 (gName 20 v (a0 :: a1 :: a2 :: a3 :: a4 :: a5 :: a6 :: a7 :: a8 :: a9 :: a10 :: a11 :: a12 :: a13 :: a14 :: a15 :: a16 :: a17 :: a18 :: a19 :: x :: σ) H QS) (QS (a0 :: a1 :: a2 :: a3 :: a4 :: a5 :: a6 :: a7 :: a8 :: a9 :: a10 :: a11 :: a12 :: a13 :: a14 :: a15 :: a16 :: a17 :: a18 :: a19 :: some v :: σ) H) := ⟨fun h => x_g20 h⟩
instance i_g21 {a0 a1 a2 a3 a4 a5 a6 a7 a8 a9 a10 a11 a12 a13 a14 a15 a16 a17 a18 a19 a20 : Option V} {x : Option V} {σ : L2.St} : St1 (gName 21 v (a0 :: a1 :: a2 :: a3 :: a4 :: a5 :: a6 :: a7 :: a8 :: a9 :: a10 :: a11 :: a12 :: a13 :: a14 :: a15 :: a16 :: a17 :: a18 :: a19 :: a20 :: x :: σ) H QS) (QS (a0 :: a1 :: a2 :: a3 :: a4 :: a5 :: a6 :: a7 :: a8 :: a9 :: a10 :: a11 :: a12 :: a13 :: a14 :: a15 :: a16 :: a17 :: a18 :: a19 :: a20 :: some v :: σ) H) := ⟨fun h => x_g21 h⟩
instance i_g22 {a0 a1 a2 a3 a4 a5 a6 a7 a8 a9 a10 a11 a12 a13 a14 a15 a16 a17 a18 a19 a20 a21 : Option V} {x : Option V} {σ : L2.St} : St1 (gName 22 v (a0 :: a1 :: a2 :: a3 :: a4 :: a5 :: a6 :: a7 :: a8 :: a9 :: a10 :: a11 :: a12 :: a13 :: a14 :: a15 :: a16 :: a17 :: a18 :: a19 :: a20 :: a21 :: x :: σ) H QS) (QS (a0 :: a1 :: a2 :: a3 :: a4 :: a5 :: a6 :: a7 :: a8 :: a9 :: a10 :: a11 :: a12 :: a13 :: a14 :: a15 :: a16 :: a17 :: a18 :: a19 :: a20 :: a21 :: some v :: σ) H) := ⟨fun h => x_g22 h⟩
instance i_g23 {a0 a1 a2 a3 a4 a5 a6 a7 a8 a9 a10 a11 a12 a13 a14 a15 a16 a17 a18 a19 a20 a21 a22 : Option V} {x : Option V} {σ : L2.St} : St1 (gName 23 v (a0 :: a1 :: a2 :: a3 :: a4 :: a5 :: a6 :: a7 :: a8 :: a9 :: a10 :: a11 :: a12 :: a13 :: a14 :: a15 :: a16 :: a17 :: a18 :: a19 :: a20 :: a21 :: a22 :: x :: σ) H QS) (QS (a0 :: a1 :: a2 :: a3 :: a4 :: a5 :: a6 :: a7 :: a8 :: a9 :: a10 :: a11 :: a12 :: a13 :: a14 :: a15 :: a16 :: a17 :: a18 :: a19 :: a20 :: a21 :: a22 :: some v :: σ) H) := ⟨fun h => x_g23 h⟩
instance i_d0 {x : Option V} {σ : L2.St} {k : K0} : St1 (gDel 0 (x :: σ) H k) (k (none :: σ) H) := ⟨fun h => x_d0 h⟩
instance i_d1 {a0 : Option V} {x : Option V} {σ : L2.St} {k : K0} : St1 (gDel 1 (a0 :: x :: σ) H k) (k (a0 :: none :: σ) H) := ⟨fun h => x_d1 h⟩
instance i_d2 {a0 a1 : Option V} {x : Option V} {σ : L2.St} {k : K0} : St1 (gDel 2 (a0 :: a1 :: x :: σ) H k) (k (a0 :: a1 :: none :: σ) H) := ⟨fun h => x_d2 h⟩
instance i_d3 {a0 a1 a2 : Option V} {x : Option V} {σ : L2.St} {k : K0} : St1 (gDel 3 (a0 :: a1 :: a2 :: x :: σ) H k) (k (a0 :: a1 :: a2 :: none :: σ) H) := ⟨fun h => x_d3 h⟩
instance i_d4 {a0 a1 a2 a3 : Option V} {x : Option V} {σ : L2.St} {k : K0} : St1 (gDel 4 (a0 :: a1 :: a2 :: a3 :: x :: σ) H k) (k (a0 :: a1 :: a2 :: a3 :: none :: σ) H) := ⟨fun h => x_d4 h⟩
instance i_d5 {a0 a1 a2 a3 a4 : Option V} {x : Option V} {σ : L2.St} {k : K0} : St1 (gDel 5 (a0 :: a1 :: a2 :: a3 :: a4 :: x :: σ) H k) (k (a0 :: a1 :: a2 :: a3 :: a4 :: none :: σ) H) := ⟨fun h => x_d5 h⟩
instance i_d6 {a0 a1 a2 a3 a4 a5 : Option V} {x : Option V} {σ : L2.St} {k : K0} : St1 (gDel 6 (a0 :: a1 :: a2 :: a3 :: a4 :: a5 :: x :: σ) H k) (k (a0 :: a1 :: a2 :: a3 :: a4 :: a5 :: none :: σ) H) := ⟨fun h => x_d6 h⟩
instance i_d7 {a0 a1 a2 a3 a4 a5 a6 : Option V} {x : Option V} {σ : L2.St} {k : K0} : St1 (gDel 7 (a0 :: a1 :: a2 :: a3 :: a4 :: a5 :: a6 :: x :: σ) H k) (k (a0 :: a1 :: a2 :: a3 :: a4 :: a5 :: a6 :: none :: σ) H) := ⟨fun h => x_d7 h⟩
instance i_d8 {a0 a1 a2 a3 a4 a5 a6 a7 : Option V} {x : Option V} {σ : L2.St} {k : K0} : St1 (gDel 8 (a0 :: a1 :: a2 :: a3 :: a4 :: a5 :: a6 :: a7 :: x :: σ) H k) (k (a0 :: a1 :: a2 :: a3 :: a4 :: a5 :: a6 :: a7 :: none :: σ) H) := ⟨fun h => x_d8 h⟩
instance i_d9 {a0 a1 a2 a3 a4 a5 a6 a7 a8 : Option V} {x : Option V} {σ : L2.St} {k : K0} : St1 (gDel 9 (a0 :: a1 :: a2 :: a3 :: a4 :: a5 :: a6 :: a7 :: a8 :: x :: σ) H k) (k (a0 :: a1 :: a2 :: a3 :: a4 :: a5 :: a6 :: a7 :: a8 :: none :: σ) H) := ⟨fun h => x_d9 h⟩
instance i_d10 {a0 a1 a2 a3 a4 a5 a6 a7 a8 a9 : Option V} {x : Option V} {σ : L2.St} {k : K0} : St1 (gDel 10 (a0 :: a1 :: a2 :: a3 :: a4 :: a5 :: a6 :: a7 :: a8 :: a9 :: x :: σ) H k) (k (a0 :: a1 :: a2 :: a3 :: a4 :: a5 :: a6 :: a7 :: a8 :: a9 :: none :: σ) H) := ⟨fun h => x_d10 h⟩
instance i_d11 {a0 a1 a2 a3 a4 a5 a6 a7 a8 a9 a10 : Option V} {x : Option V} {σ : L2.St} {k : K0} : St1 (gDel 11 (a0 :: a1 :: a2 :: a3 :: a4 :: a5 :: a6 :: a7 :: a8 :: a9 :: a10 :: x :: σ) H k) (k (a0 :: a1 :: a2 :: a3 :: a4 :: a5 :: a6 :: a7 :: a8 :: a9 :: a10 :: none :: σ) H) := ⟨fun h => x_d11 h⟩
instance i_d12 {a0 a1 a2 a3 a4 a5 a6 a7 a8 a9 a10 a11 : Option V} {x : Option V} {σ : L2.St} {k : K0} : St1 (gDel 12 (a0 :: a1 :: a2 :: a3 :: a4 :: a5 :: a6 :: a7 :: a8 :: a9 :: a10 :: a11 :: x :: σ) H k) (k (a0 :: a1 :: a2 :: a3 :: a4 :: a5 :: a6 :: a7 :: a8 :: a9 :: a10 :: a11 :: none :: σ) H) := ⟨fun h => x_d12 h⟩
instance i_d13 {a0 a1 a2 a3 a4 a5 a6 a7 a8 a9 a10 a11 a12 : Option V} {x : Option V} {σ : L2.St} {k : K0} : St1 (gDel 13 (a0 :: a1 :: a2 :: a3 :: a4 :: a5 :: a6 :: a7 :: a8 :: a9 :: a10 :: a11 :: a12 :: x :: σ) H k) (k (a0 :: a1 :: a2 :: a3 :: a4 :: a5 :: a6 :: a7 :: a8 :: a9 :: a10 :: a11 :: a12 :: none :: σ) H) := ⟨fun h => x_d13 h⟩
instance i_d14 {a0 a1 a2 a3 a4 a5 a6 a7 a8 a9 a10 a11 a12 a13 : Option V} {x : Option V} {σ : L2.St} {k : K0} : St1 (gDel 14 (a0 :: a1 :: a2 :: a3 :: a4 :: a5 :: a6 :: a7 :: a8 :: a9 :: a10 :: a11 :: a12 :: a13 :: x :: σ) H k) (k (a0 :: a1 :: a2 :: a3 :: a4 :: a5 :: a6 :: a7 :: a8 :: a9 :: a10 :: a11 :: a12 :: a13 :: none :: σ) H) := ⟨fun h => x_d14 h⟩
instance i_d15 {a0 a1 a2 a3 a4 a5 a6 a7 a8 a9 a10 a11 a12 a13 a14 : Option V} {x : Option V} {σ : L2.St} {k : K0} : St1 (gDel 15 (a0 :: a1 :: a2 :: a3 :: a4 :: a5 :: a6 :: a7 :: a8 :: a9 :: a10 :: a11 :: a12 :: a13 :: a14 :: x :: σ) H k) (k (a0 :: a1 :: a2 :: a3 :: a4 :: a5 :: a6 :: a7 :: a8 :: a9 :: a10 :: a11 :: a12 :: a13 :: a14 :: none :: σ) H) := ⟨fun h => x_d15 h⟩
instance i_d16 {a0 a1 a2 a3 a4 a5 a6 a7 a8 a9 a10 a11 a12 a13 a14 a15 : Option V} {x : Option V} {σ : L2.St} {k : K0} : St1 (gDel 16 (a0 :: a1 :: a2 :: a3 :: a4 :: a5 :: a6 :: a7 :: a8 :: a9 :: a10 :: a11 :: a12 :: a13 :: a14 :: a15 :: x :: σ) H k) (k (a0 :: a1 :: a2 :: a3 :: a4 :: a5 :: a6 :: a7 :: a8 :: a9 :: a10 :: a11 :: a12 :: a13 :: a14 :: a15 :: none :: σ) H) := ⟨fun h => x_d16 h⟩
instance i_d17 {a0 a1 a2 a3 a4 a5 a6 a7 a8 a9 a10 a11 a12 a13 a14 a15 a16 : Option V} {x : Option V} {σ : L2.St} {k : K0} : St1 (gDel 17 (a0 :: a1 :: a2 :: a3 :: a4 :: a5 :: a6 :: a7 :: a8 :: a9 :: a10 :: a11 :: a12 :: a13 :: a14 :: a15 :: a16 :: x :: σ) H k) (k (a0 :: a1 :: a2 :: a3 :: a4 :: a5 :: a6 :: a7 :: a8 :: a9 :: a10 :: a11 :: a12 :: a13 :: a14 :: a15 :: a16 :: none :: σ) H) := ⟨fun h => x_d17 h⟩
instance i_d18 {a0 a1 a2 a3 a4 a5 a6 a7 a8 a9 a10 a11 a12 a13 a14 a15 a16 a17 : Option V} {x : Option V} {σ : L2.St} {k : K0} : St1 (gDel 18 (a0 :: a1 :: a2 :: a3 :: a4 :: a5 :: a6 :: a7 :: a8 :: a9 :: a10 :: a11 :: a12 :: a13 :: a14 :: a15 :: a16 :: a17 :: x :: σ) H k) (k (a0 :: a1 :: a2 :: a3 :: a4 :: a5 :: a6 :: a7 :: a8 :: a9 :: a10 :: a11 :: a12 :: a13 :: a14 :: a15 :: a16 :: a17 :: none :: σ) H) := ⟨fun h => x_d18 h⟩
instance i_d19 {a0 a1 a2 a3 a4 a5 a6 a7 a8 a9 a10 a11 a12 a13 a14 a15 a16 a17 a18 : Option V} {x : Option V} {σ : L2.St} {k : K0} : St1 (gDel 19 (a0 :: a1 :: a2 :: a3 :: a4 :: a5 :: a6 :: a7 :: a8 :: a9 :: a10 :: a11 :: a12 :: a13 :: a14 :: a15 :: a16 :: a17 :: a18 :: x :: σ) H k) (k (a0 :: a1 :: a2 :: a3 :: a4 :: a5 :: a6 :: a7 :: a8 :: a9 :: a10 :: a11 :: a12 :: a13 :: a14 :: a15 :: a16 :: a17 :: a18 :: none :: σ) H) := ⟨fun h => x_d19 h⟩
instance i_d20 {a0 a1 a2 a3 a4 a5 a6 a7 a8 a9 a10 a11 a12 a13 a14 a15 a16 a17 a18 a19 : Option V} {x : Option V} {σ : L2.St} {k : K0} : St1 (gDel 20 (a0 :: a1 :: a2 :: a3 :: a4 :: a5 :: a6 :: a7 :: a8 :: a9 :: a10 :: a11 :: a12 :: a13 :: a14 :: a15 :: a16 :: a17 :: a18 :: a19 :: x :: σ) H k) (k (a0 :: a1 :: a2 :: a3 :: a4 :: a5 :: a6 :: a7 :: a8 :: a9 :: a10 :: a11 :: a12 :: a13 :: a14 :: a15 :: a16 :: a17 :: a18 :: a19 :: none :: σ) H) := ⟨fun h => x_d20 h⟩
instance i_d21 {a0 a1 a2 a3 a4 a5 a6 a7 a8 a9 a10 a11 a12 a13 a14 a15 a16 a17 a18 a19 a20 : Option V} {x : Option V} {σ : L2.St} {k : K0} : St1 (gDel 21 (a0 :: a1 :: a2 :: a3 :: a4 :: a5 :: a6 :: a7 :: a8 :: a9 :: a10 :: a11 :: a12 :: a13 :: a14 :: a15 :: a16 :: a17 :: a18 :: a19 :: a20 :: x :: σ) H k) (k (a0 :: a1 :: a2 :: a3 :: a4 :: a5 :: a6 :: a7 :: a8 :: a9 :: a10 :: a11 :: a12 :: a13 :: a14 :: a15 :: a16 :: a17 :: a18 :: a19 :: a20 :: none :: σ) H) := ⟨fun h => x_d21 h⟩
instance i_d22 {a0 a1 a2 a3 a4 a5 a6 a7 a8 a9 a10 a11 a12 a13 a14 a15 a16 a17 a18 a19 a20 a21 : Option V} {x : Option V} {σ : L2.St} {k : K0} : St1 (gDel 22 (a0 :: a1 :: a2 :: a3 :: a4 :: a5 :: a6 :: a7 :: a8 :: a9 :: a10 :: a11 :: a12 :: a13 :: a14 :: a15 :: a16 :: a17 :: a18 :: a19 :: a20 :: a21 :: x :: σ) H k) (k (a0 :: a1 :: a2 :: a3 :: a4 :: a5 :: a6 :: a7 :: a8 :: a9 :: a10 :: a11 :: a12 :: a13 :: a14 :: a15 :: a16 :: a17 :: a18 :: a19 :: a20 :: a21 :: none :: σ) H) := ⟨fun h => x_d22 h⟩
instance i_d23 {a0 a1 a2 a3 a4 a5 a6 a7 a8 a9 a10 a11 a12 a13 a14 a15 a16 a17 a18 a19 a20 a21 a22 : Option V} {x : Option V} {σ : L2.St} {k : K0} : St1 (gDel 23 (a0 :: a1 :: a2 :: a3 :: a4 :: a5 :: a6 :: a7 :: a8 :: a9 :: a10 :: a11 :: a12 :: a13 :: a14 :: a15 :: a16 :: a17 :: a18 :: a19 :: a20 :: a21 :: a22 :: x :: σ) H k) (k (a0 :: a1 :: a2 :: a3 :: a4 :: a5 :: a6 :: a7 :: a8 :: a9 :: a10 :: a11 :: a12 :: a13 :: a14 :: a15 :: a16 :: a17 :: a18 :: a19 :: a20 :: a21 :: a22 :: none :: σ) H) := ⟨fun h => x_d23 h⟩
instance i_au0 {te : TE} {ti : TIp} {σ : L2.St} : St1 (tAug 0 te ti ⟨nx, rt, bk, ct⟩ (some x :: σ) H) (te (some x :: σ) H fun y H1 => ti x y H1 fun z H2 => nx (some z :: σ) H2) := ⟨fun h => x_au0 h⟩
instance i_au1 {te : TE} {ti : TIp} {a0 : Option V} {σ : L2.St} : St1 (tAug 1 te ti ⟨nx, rt, bk, ct⟩ (a0 :: some x :: σ) H) (te (a0 :: some x :: σ) H fun y H1 => ti x y H1 fun z H2 => nx (a0 :: some z :: σ) H2) := ⟨fun h => x_au1 h⟩
instance i_au2 {te : TE} {ti : TIp} {a0 a1 : Option V} {σ : L2.St} : St1 (tAug 2 te ti ⟨nx, rt, bk, ct⟩ (a0 :: a1 :: some x :: σ) H) (te (a0 :: a1 :: some x :: σ) H fun y H1 => ti x y H1 fun z H2 => nx (a0 :: a1 :: some z :: σ) H2) := ⟨fun h => x_au2 h⟩
instance i_au3 {te : TE} {ti : TIp} {a0 a1 a2 : Option V} {σ : L2.St} : St1 (tAug 3 te ti ⟨nx, rt, bk, ct⟩ (a0 :: a1 :: a2 :: some x :: σ) H) (te (a0 :: a1 :: a2 :: some x :: σ) H fun y H1 => ti x y H1 fun z H2 => nx (a0 :: a1 :: a2 :: some z :: σ) H2) := ⟨fun h => x_au3 h⟩
instance i_au4 {te : TE} {ti : TIp} {a0 a1 a2 a3 : Option V} {σ : L2.St} : St1 (tAug 4 te ti ⟨nx, rt, bk, ct⟩ (a0 :: a1 :: a2 :: a3 :: some x :: σ) H) (te (a0 :: a1 :: a2 :: a3 :: some x :: σ) H fun y H1 => ti x y H1 fun z H2 => nx (a0 :: a1 :: a2 :: a3 :: some z :: σ) H2) := ⟨fun h => x_au4 h⟩
instance i_au5 {te : TE} {ti : TIp} {a0 a1 a2 a3 a4 : Option V} {σ : L2.St} : St1 (tAug 5 te ti ⟨nx, rt, bk, ct⟩ (a0 :: a1 :: a2 :: a3 :: a4 :: some x :: σ) H) (te (a0 :: a1 :: a2 :: a3 :: a4 :: some x :: σ) H fun y H1 => ti x y H1 fun z H2 => nx (a0 :: a1 :: a2 :: a3 :: a4 :: some z :: σ) H2) := ⟨fun h => x_au5 h⟩
instance i_au6 {te : TE} {ti : TIp} {a0 a1 a2 a3 a4 a5 : Option V} {σ : L2.St} : St1 (tAug 6 te ti ⟨nx, rt, bk, ct⟩ (a0 :: a1 :: a2 :: a3 :: a4 :: a5 :: some x :: σ) H) (te (a0 :: a1 :: a2 :: a3 :: a4 :: a5 :: some x :: σ) H fun y H1 => ti x y H1 fun z H2 => nx (a0 :: a1 :: a2 :: a3 :: a4 :: a5 :: some z :: σ) H2) := ⟨fun h => x_au6 h⟩
instance i_au7 {te : TE} {ti : TIp} {a0 a1 a2 a3 a4 a5 a6 : Option V} {σ : L2.St} : St1 (tAug 7 te ti ⟨nx, rt, bk, ct⟩ (a0 :: a1 :: a2 :: a3 :: a4 :: a5 :: a6 :: some x :: σ) H) (te (a0 :: a1 :: a2 :: a3 :: a4 :: a5 :: a6 :: some x :: σ) H fun y H1 => ti x y H1 fun z H2 => nx (a0 :: a1 :: a2 :: a3 :: a4 :: a5 :: a6 :: some z :: σ) H2) := ⟨fun h => x_au7 h⟩
instance i_au8 {te : TE} {ti : TIp} {a0 a1 a2 a3 a4 a5 a6 a7 : Option V} {σ : L2.St} : St1 (tAug 8 te ti ⟨nx, rt, bk, ct⟩ (a0 :: a1 :: a2 :: a3 :: a4 :: a5 :: a6 :: a7 :: some x :: σ) H) (te (a0 :: a1 :: a2 :: a3 :: a4 :: a5 :: a6 :: a7 :: some x :: σ) H fun y H1 => ti x y H1 fun z H2 => nx (a0 :: a1 :: a2 :: a3 :: a4 :: a5 :: a6 :: a7 :: some z :: σ) H2) := ⟨fun h => x_au8 h⟩
instance i_au9 {te : TE} {ti : TIp} {a0 a1 a2 a3 a4 a5 a6 a7 a8 : Option V} {σ : L2.St} : St1 (tAug 9 te ti ⟨nx, rt, bk, ct⟩ (a0 :: a1 :: a2 :: a3 :: a4 :: a5 :: a6 :: a7 :: a8 :: some x :: σ) H) (te (a0 :: a1 :: a2 :: a3 :: a4 :: a5 :: a6 :: a7 :: a8 :: some x :: σ) H fun y H1 => ti x y H1 fun z H2 => nx (a0 :: a1 :: a2 :: a3 :: a4 :: a5 :: a6 :: a7 :: a8 :: some z :: σ) H2) := ⟨fun h => x_au9 h⟩
instance i_au10 {te : TE} {ti : TIp} {a0 a1 a2 a3 a4 a5 a6 a7 a8 a9 : Option V} {σ : L2.St} : St1 (tAug 10 te ti ⟨nx, rt, bk, ct⟩ (a0 :: a1 :: a2 :: a3 :: a4 :: a5 :: a6 :: a7 :: a8 :: a9 :: some x :: σ) H) (te (a0 :: a1 :: a2 :: a3 :: a4 :: a5 :: a6 :: a7 :: a8 :: a9 :: some x :: σ) H fun y H1 => ti x y H1 fun z H2 => nx (a0 :: a1 :: a2 :: a3 :: a4 :: a5 :: a6 :: a7 :: a8 :: a9 :: some z :: σ) H2) := ⟨fun h => x_au10 h⟩
instance i_au11 {te : TE} {ti : TIp} {a0 a1 a2 a3 a4 a5 a6 a7 a8 a9 a10 : Option V} {σ : L2.St} : St1 (tAug 11 te ti ⟨nx, rt, bk, ct⟩ (a0 :: a1 :: a2 :: a3 :: a4 :: a5 :: a6 :: a7 :: a8 :: a9 :: a10 :: some x :: σ) H) (te (a0 :: a1 :: a2 :: a3 :: a4 :: a5 :: a6 :: a7 :: a8 :: a9 :: a10 :: some x :: σ) H fun y H1 => ti x y H1 fun z H2 => nx (a0 :: a1 :: a2 :: a3 :: a4 :: a5 :: a6 :: a7 :: a8 :: a9 :: a10 :: some z :: σ) H2) := ⟨fun h => x_au11 h⟩
instance i_au12 {te : TE} {ti : TIp} {a0 a1 a2 a3 a4 a5 a6 a7 a8 a9 a10 a11 : Option V} {σ : L2.St} : St1 (tAug 12 te ti ⟨nx, rt, bk, ct⟩ (a0 :: a1 :: a2 :: a3 :: a4 :: a5 :: a6 :: a7 :: a8 :: a9 :: a10 :: a11 :: some x :: σ) H) (te (a0 :: a1 :: a2 :: a3 :: a4 :: a5 :: a6 :: a7 :: a8 :: a9 :: a10 :: a11 :: some x :: σ) H fun y H1 => ti x y H1 fun z H2 => nx (a0 :: a1 :: a2 :: a3 :: a4 :: a5 :: a6 :: a7 :: a8 :: a9 :: a10 :: a11 :: some z :: σ) H2) := ⟨fun h => x_au12 h⟩
instance i_au13 {te : TE} {ti : TIp} {a0 a1 a2 a3 a4 a5 a6 a7 a8 a9 a10 a11 a12 : Option V} {σ : L2.St} : St1 (tAug 13 te ti ⟨nx, rt, bk, ct⟩ (a0 :: a1 :: a2 :: a3 :: a4 :: a5 :: a6 :: a7 :: a8 :: a9 :: a10 :: a11 :: a12 :: some x :: σ) H) (te (a0 :: a1 :: a2 :: a3 :: a4 :: a5 :: a6 :: a7 :: a8 :: a9 :: a10 :: a11 :: a12 :: some x :: σ) H fun y H1 => ti x y H1 fun z H2 => nx (a0 :: a1 :: a2 :: a3 :: a4 :: a5 :: a6 :: a7 :: a8 :: a9 :: a10 :: a11 :: a12 :: some z :: σ) H2) := ⟨fun h => x_au13 h⟩
instance i_au14 {te : TE} {ti : TIp} {a0 a1 a2 a3 a4 a5 a6 a7 a8 a9 a10 a11 a12 a13 : Option V} {σ : L2.St} : St1 (tAug 14 te ti ⟨nx, rt, bk, ct⟩ (a0 :: a1 :: a2 :: a3 :: a4 :: a5 :: a6 :: a7 :: a8 :: a9 :: a10 :: a11 :: a12 :: a13 :: some x :: σ) H) (te (a0 :: a1 :: a2 :: a3 :: a4 :: a5 :: a6 :: a7 :: a8 :: a9 :: a10 :: a11 :: a12 :: a13 :: some x :: σ) H fun y H1 => ti x y H1 fun z H2 => nx (a0 :: a1 :: a2 :: a3 :: a4 :: a5 :: a6 :: a7 :: a8 :: a9 :: a10 :: a11 :: a12 :: a13 :: some z :: σ) H2) := ⟨fun h => x_au14 h⟩
instance i_au15 {te : TE} {ti : TIp} {a0 a1 a2 a3 a4 a5 a6 a7 a8 a9 a10 a11 a12 a13 a14 : Option V} {σ : L2.St} : St1 (tAug 15 te ti ⟨nx, rt, bk, ct⟩ (a0 :: a1 :: a2 :: a3 :: a4 :: a5 :: a6 :: a7 :: a8 :: a9 :: a10 :: a11 :: a12 :: a13 :: a14 :: some x :: σ) H) (te (a0 :: a1 :: a2 :: a3 :: a4 :: a5 :: a6 :: a7 :: a8 :: a9 :: a10 :: a11 :: a12 :: a13 :: a14 :: some x :: σ) H fun y H1 => ti x y H1 fun z H2 => nx (a0 :: a1 :: a2 :: a3 :: a4 :: a5 :: a6 :: a7 :: a8 :: a9 :: a10 :: a11 :: a12 :: a13 :: a14 :: some z :: σ) H2) := ⟨fun h => x_au15 h⟩
instance i_au16 {te : TE} {ti : TIp} {a0 a1 a2 a3 a4 a5 a6 a7 a8 a9 a10 a11 a12 a13 a14 a15 : Option V} {σ : L2.St} : St1 (tAug 16 te ti ⟨nx, rt, bk, ct⟩ (a0 :: a1 :: a2 :: a3 :: a4 :: a5 :: a6 :: a7 :: a8 :: a9 :: a10 :: a11 :: a12 :: a13 :: a14 :: a15 :: some x :: σ) H) (te (a0 :: a1 :: a2 :: a3 :: a4 :: a5 :: a6 :: a7 :: a8 :: a9 :: a10 :: a11 :: a12 :: a13 :: a14 :: a15 :: some x :: σ) H fun y H1 => ti x y H1 fun z H2 => nx (a0 :: a1 :: a2 :: a3 :: a4 :: a5 :: a6 :: a7 :: a8 :: a9 :: a10 :: a11 :: a12 :: a13 :: a14 :: a15 :: some z :: σ) H2) := ⟨fun h => x_au16 h⟩
instance i_au17 {te : TE} {ti : TIp} {a0 a1 a2 a3 a4 a5 a6 a7 a8 a9 a10 a11 a12 a13 a14 a15 a16 : Option V} {σ : L2.St} : St1 (tAug 17 te ti ⟨nx, rt, bk, ct⟩ (a0 :: a1 :: a2 :: a3 :: a4 :: a5 :: a6 :: a7 :: a8 :: a9 :: a10 :: a11 :: a12 :: a13 :: a14 :: a15 :: a16 :: some x :: σ) H) (te (a0 :: a1 :: a2 :: a3 :: a4 :: a5 :: a6 :: a7 :: a8 :: a9 :: a10 :: a11 :: a12 :: a13 :: a14 :: a15 :: a16 :: some x :: σ) H fun y H1 => ti x y H1 fun z H2 => nx (a0 :: a1 :: a2 :: a3 :: a4 :: a5 :: a6 :: a7 :: a8 :: a9 :: a10 :: a11 :: a12 :: a13 :: a14 :: a15 :: a16 :: some z :: σ) H2) := ⟨fun h => x_au17 h⟩
instance i_au18 {te : TE} {ti : TIp} {a0 a1 a2 a3 a4 a5 a6 a7 a8 a9 a10 a11 a12 a13 a14 a15 a16 a17 : Option V} {σ : L2.St} : St1 (tAug 18 te ti ⟨nx, rt, bk, ct⟩ (a0 :: a1 :: a2 :: a3 :: a4 :: a5 :: a6 :: a7 :: a8 :: a9 :: a10 :: a11 :: a12 :: a13 :: a14 :: a15 :: a16 :: a17 :: some x :: σ) H) (te (a0 :: a1 :: a2 :: a3 :: a4 :: a5 :: a6 :: a7 :: a8 :: a9 :: a10 :: a11 :: a12 :: a13 :: a14 :: a15 :: a16 :: a17 :: some x :: σ) H fun y H1 => ti x y H1 fun z H2 => nx (a0 :: a1 :: a2 :: a3 :: a4 :: a5 :: a6 :: a7 :: a8 :: a9 :: a10 :: a11 :: a12 :: a13 :: a14 :: a15 :: a16 :: a17 :: some z :: σ) H2) := ⟨fun h => x_au18 h⟩
instance i_au19 {te : TE} {ti : TIp} {a0 a1 a2 a3 a4 a5 a6 a7 a8 a9 a10 a11 a12 a13 a14 a15 a16 a17 a18 : Option V} {σ : L2.St} : St1 (tAug 19 te ti ⟨nx, rt, bk, ct⟩ (a0 :: a1 :: a2 :: a3 :: a4 :: a5 :: a6 :: a7 :: a8 :: a9 :: a10 :: a11 :: a12 :: a13 :: a14 :: a15 :: a16 :: a17 :: a18 :: some x :: σ) H) (te (a0 :: a1 :: a2 :: a3 :: a4 :: a5 :: a6 :: a7 :: a8 :: a9 :: a10 :: a11 :: a12 :: a13 :: a14 :: a15 :: a16 :: a17 :: a18 :: some x :: σ) H fun y H1 => ti x y H1 fun z H2 => nx (a0 :: a1 :: a2 :: a3 :: a4 :: a5 :: a6 :: a7 :: a8 :: a9 :: a10 :: a11 :: a12 :: a13 :: a14 :: a15 :: a16 :: a17 :: a18 :: some z :: σ) H2) := ⟨fun h => x_au19 h⟩
instance i_au20 {te : TE} {ti : TIp} {a0 a1 a2 a3 a4 a5 a6 a7 a8 a9 a10 a11 a12 a13 a14 a15 a16 a17 a18 a19 : Option V} {σ : L2.St} : St1 (tAug 20 te ti ⟨nx, rt, bk, ct⟩ (a0 :: a1 :: a2 :: a3 :: a4 :: a5 :: a6 :: a7 :: a8 :: a9 :: a10 :: a11 :: a12 :: a13 :: a14 :: a15 :: a16 :: a17 :: a18 :: a19 :: some x :: σ) H) (te (a0 :: a1 :: a2 :: a3 :: a4 :: a5 :: a6 :: a7 :: a8 :: a9 :: a10 :: a11 :: a12 :: a13 :: a14 :: a15 :: a16 :: a17 :: a18 :: a19 :: some x :: σ) H fun y H1 => ti x y H1 fun z H2 => nx (a0 :: a1 :: a2 :: a3 :: a4 :: a5 :: a6 :: a7 :: a8 :: a9 :: a10 :: a11 :: a12 :: a13 :: a14 :: a15 :: a16 :: a17 :: a18 :: a19 :: some z :: σ) H2) := ⟨fun h => x_au20 h⟩
instance i_au21 {te : TE} {ti : TIp} {a0 a1 a2 a3 a4 a5 a6 a7 a8 a9 a10 a11 a12 a13 a14 a15 a16 a17 a18 a19 a20 : Option V} {σ : L2.St} : St1 (tAug 21 te ti ⟨nx, rt, bk, ct⟩ (a0 :: a1 :: a2 :: a3 :: a4 :: a5 :: a6 :: a7 :: a8 :: a9 :: a10 :: a11 :: a12 :: a13 :: a14 :: a15 :: a16 :: a17 :: a18 :: a19 :: a20 :: some x :: σ) H) (te (a0 :: a1 :: a2 :: a3 :: a4 :: a5 :: a6 :: a7 :: a8 :: a9 :: a10 :: a11 :: a12 :: a13 :: a14 :: a15 :: a16 :: a17 :: a18 :: a19 :: a20 :: some x :: σ) H fun y H1 => ti x y H1 fun z H2 => nx (a0 :: a1 :: a2 :: a3 :: a4 :: a5 :: a6 :: a7 :: a8 :: a9 :: a10 :: a11 :: a12 :: a13 :: a14 :: a15 :: a16 :: a17 :: a18 :: a19 :: a20 :: some z :: σ) H2) := ⟨fun h => x_au21 h⟩
instance i_au22 {te : TE} {ti : TIp} {a0 a1 a2 a3 a4 a5 a6 a7 a8 a9 a10 a11 a12 a13 a14 a15 a16 a17 a18 a19 a20 a21 : Option V} {σ : L2.St} : St1 (tAug 22 te ti ⟨nx, rt, bk, ct⟩ (a0 :: a1 :: a2 :: a3 :: a4 :: a5 :: a6 :: a7 :: a8 :: a9 :: a10 :: a11 :: a12 :: a13 :: a14 :: a15 :: a16 :: a17 :: a18 :: a19 :: a20 :: a21 :: some x :: σ) H) (te (a0 :: a1 :: a2 :: a3 :: a4 :: a5 :: a6 :: a7 :: a8 :: a9 :: a10 :: a11 :: a12 :: a13 :: a14 :: a15 :: a16 :: a17 :: a18 :: a19 :: a20 :: a21 :: some x :: σ) H fun y H1 => ti x y H1 fun z H2 => nx (a0 :: a1 :: a2 :: a3 :: a4 :: a5 :: a6 :: a7 :: a8 :: a9 :: a10 :: a11 :: a12 :: a13 :: a14 :: a15 :: a16 :: a17 :: a18 :: a19 :: a20 :: a21 :: some z :: σ) H2) := ⟨fun h => x_au22 h⟩
instance i_au23 {te : TE} {ti : TIp} {a0 a1 a2 a3 a4 a5 a6 a7 a8 a9 a10 a11 a12 a13 a14 a15 a16 a17 a18 a19 a20 a21 a22 : Option V} {σ : L2.St} : St1 (tAug 23 te ti ⟨nx, rt, bk, ct⟩ (a0 :: a1 :: a2 :: a3 :: a4 :: a5 :: a6 :: a7 :: a8 :: a9 :: a10 :: a11 :: a12 :: a13 :: a14 :: a15 :: a16 :: a17 :: a18 :: a19 :: a20 :: a21 :: a22 :: some x :: σ) H) (te (a0 :: a1 :: a2 :: a3 :: a4 :: a5 :: a6 :: a7 :: a8 :: a9 :: a10 :: a11 :: a12 :: a13 :: a14 :: a15 :: a16 :: a17 :: a18 :: a19 :: a20 :: a21 :: a22 :: some x :: σ) H fun y H1 => ti x y H1 fun z H2 => nx (a0 :: a1 :: a2 :: a3 :: a4 :: a5 :: a6 :: a7 :: a8 :: a9 :: a10 :: a11 :: a12 :: a13 :: a14 :: a15 :: a16 :: a17 :: a18 :: a19 :: a20 :: a21 :: a22 :: some z :: σ) H2) := ⟨fun h => x_au23 h⟩
instance i_ml0 {σ : L2.St} : St1 (eMakeL 0 C sp [] E tl (some (.ref C) :: σ) H Q) (tMake C sp [] E tl (some (.ref C) :: σ) H Q) := ⟨fun h => x_ml0 h⟩
instance i_ml1 {a0 : Option V} {σ : L2.St} : St1 (eMakeL 1 C sp [] E tl (a0 :: some (.ref C) :: σ) H Q) (tMake C sp [] E tl (a0 :: some (.ref C) :: σ) H Q) := ⟨fun h => x_ml1 h⟩
instance i_eqP_nn  : St1 (rEqP S (.non) (.non) H Q) (Q (.bl true) H) := ⟨fun h => x_eqP_nn h⟩
instance i_eqP_ni  : St1 (rEqP S (.non) (.int i) H Q) (Q (.bl false) H) := ⟨fun h => x_eqP_ni h⟩
instance i_eqP_in  : St1 (rEqP S (.int i) (.non) H Q) (Q (.bl false) H) := ⟨fun h => x_eqP_in h⟩
instance i_eqP_nb  : St1 (rEqP S (.non) (.bl b) H Q) (Q (.bl false) H) := ⟨fun h => x_eqP_nb h⟩
instance i_eqP_bn  : St1 (rEqP S (.bl b) (.non) H Q) (Q (.bl false) H) := ⟨fun h => x_eqP_bn h⟩
instance i_eqP_ns {z : Str} : St1 (rEqP S (.non) (.str z) H Q) (Q (.bl false) H) := ⟨fun h => x_eqP_ns h⟩
instance i_eqP_sn {z : Str} : St1 (rEqP S (.str z) (.non) H Q) (Q (.bl false) H) := ⟨fun h => x_eqP_sn h⟩
instance i_eqP_is {z : Str} : St1 (rEqP S (.int i) (.str z) H Q) (Q (.bl false) H) := ⟨fun h => x_eqP_is h⟩
instance i_eqP_si {z : Str} : St1 (rEqP S (.str z) (.int i) H Q) (Q (.bl false) H) := ⟨fun h => x_eqP_si h⟩
instance i_eqP_bs {z : Str} : St1 (rEqP S (.bl b) (.str z) H Q) (Q (.bl false) H) := ⟨fun h => x_eqP_bs h⟩
instance i_eqP_sb {z : Str} : St1 (rEqP S (.str z) (.bl b) H Q) (Q (.bl false) H) := ⟨fun h => x_eqP_sb h⟩
instance i_neP_nn  : St1 (rNeP S (.non) (.non) H Q) (Q (.bl (!true)) H) := ⟨fun h => x_neP_nn h⟩
instance i_neP_ni  : St1 (rNeP S (.non) (.int i) H Q) (Q (.bl (!false)) H) := ⟨fun h => x_neP_ni h⟩
instance i_neP_in  : St1 (rNeP S (.int i) (.non) H Q) (Q (.bl (!false)) H) := ⟨fun h => x_neP_in h⟩
instance i_neP_nb  : St1 (rNeP S (.non) (.bl b) H Q) (Q (.bl (!false)) H) := ⟨fun h => x_neP_nb h⟩
instance i_neP_bn  : St1 (rNeP S (.bl b) (.non) H Q) (Q (.bl (!false)) H) := ⟨fun h => x_neP_bn h⟩
instance i_neP_ns {z : Str} : St1 (rNeP S (.non) (.str z) H Q) (Q (.bl (!false)) H) := ⟨fun h => x_neP_ns h⟩
instance i_neP_sn {z : Str} : St1 (rNeP S (.str z) (.non) H Q) (Q (.bl (!false)) H) := ⟨fun h => x_neP_sn h⟩
instance i_neP_is {z : Str} : St1 (rNeP S (.int i) (.str z) H Q) (Q (.bl (!false)) H) := ⟨fun h => x_neP_is h⟩
instance i_neP_si {z : Str} : St1 (rNeP S (.str z) (.int i) H Q) (Q (.bl (!false)) H) := ⟨fun h => x_neP_si h⟩
instance i_neP_bs {z : Str} : St1 (rNeP S (.bl b) (.str z) H Q) (Q (.bl (!false)) H) := ⟨fun h => x_neP_bs h⟩
instance i_neP_sb {z : Str} : St1 (rNeP S (.str z) (.bl b) H Q) (Q (.bl (!false)) H) := ⟨fun h => x_neP_sb h⟩
instance i_isi_int_int  : St1 (rIsI [.int i, .ty "int"] H Q) (Q (.bl true) H) := ⟨fun h => x_isi_int_int h⟩
instance i_isi_int_bool  : St1 (rIsI [.int i, .ty "bool"] H Q) (Q (.bl false) H) := ⟨fun h => x_isi_int_bool h⟩
instance i_isi_int_str  : St1 (rIsI [.int i, .ty "str"] H Q) (Q (.bl false) H) := ⟨fun h => x_isi_int_str h⟩
instance i_isi_int_list  : St1 (rIsI [.int i, .ty "list"] H Q) (Q (.bl false) H) := ⟨fun h => x_isi_int_list h⟩
instance i_isi_int_tuple  : St1 (rIsI [.int i, .ty "tuple"] H Q) (Q (.bl false) H) := ⟨fun h => x_isi_int_tuple h⟩
instance i_isi_int_dict  : St1 (rIsI [.int i, .ty "dict"] H Q) (Q (.bl false) H) := ⟨fun h => x_isi_int_dict h⟩
instance i_isi_bool_int  : St1 (rIsI [.bl b, .ty "int"] H Q) (Q (.bl true) H) := ⟨fun h => x_isi_bool_int h⟩
instance i_isi_bool_bool  : St1 (rIsI [.bl b, .ty "bool"] H Q) (Q (.bl true) H) := ⟨fun h => x_isi_bool_bool h⟩
instance i_isi_bool_str  : St1 (rIsI [.bl b, .ty "str"] H Q) (Q (.bl false) H) := ⟨fun h => x_isi_bool_str h⟩
instance i_isi_bool_list  : St1 (rIsI [.bl b, .ty "list"] H Q) (Q (.bl false) H) := ⟨fun h => x_isi_bool_list h⟩
instance i_isi_bool_tuple  : St1 (rIsI [.bl b, .ty "tuple"] H Q) (Q (.bl false) H) := ⟨fun h => x_isi_bool_tuple h⟩
instance i_isi_bool_dict  : St1 (rIsI [.bl b, .ty "dict"] H Q) (Q (.bl false) H) := ⟨fun h => x_isi_bool_dict h⟩
instance i_isi_str_int {zs : Str} : St1 (rIsI [.str zs, .ty "int"] H Q) (Q (.bl false) H) := ⟨fun h => x_isi_str_int h⟩
instance i_isi_str_bool {zs : Str} : St1 (rIsI [.str zs, .ty "bool"] H Q) (Q (.bl false) H) := ⟨fun h => x_isi_str_bool h⟩
instance i_isi_str_str {zs : Str} : St1 (rIsI [.str zs, .ty "str"] H Q) (Q (.bl true) H) := ⟨fun h => x_isi_str_str h⟩
instance i_isi_str_list {zs : Str} : St1 (rIsI [.str zs, .ty "list"] H Q) (Q (.bl false) H) := ⟨fun h => x_isi_str_list h⟩
instance i_isi_str_tuple {zs : Str} : St1 (rIsI [.str zs, .ty "tuple"] H Q) (Q (.bl false) H) := ⟨fun h => x_isi_str_tuple h⟩
instance i_isi_str_dict {zs : Str} : St1 (rIsI [.str zs, .ty "dict"] H Q) (Q (.bl false) H) := ⟨fun h => x_isi_str_dict h⟩
instance i_isi_NoneType_int  : St1 (rIsI [.non, .ty "int"] H Q) (Q (.bl false) H) := ⟨fun h => x_isi_NoneType_int h⟩
instance i_isi_NoneType_bool  : St1 (rIsI [.non, .ty "bool"] H Q) (Q (.bl false) H) := ⟨fun h => x_isi_NoneType_bool h⟩
instance i_isi_NoneType_str  : St1 (rIsI [.non, .ty "str"] H Q) (Q (.bl false) H) := ⟨fun h => x_isi_NoneType_str h⟩
instance i_isi_NoneType_list  : St1 (rIsI [.non, .ty "list"] H Q) (Q (.bl false) H) := ⟨fun h => x_isi_NoneType_list h⟩
instance i_isi_NoneType_tuple  : St1 (rIsI [.non, .ty "tuple"] H Q) (Q (.bl false) H) := ⟨fun h => x_isi_NoneType_tuple h⟩
instance i_isi_NoneType_dict  : St1 (rIsI [.non, .ty "dict"] H Q) (Q (.bl false) H) := ⟨fun h => x_isi_NoneType_dict h⟩
/-! with a bool in hand -/
def KBl (x : V) (QK : Bool → Prop) : Prop := ∃ k, x = .bl k ∧ QK k
instance i_bl {QK : Bool → Prop} : St1 (KBl (.bl b) QK) (QK b) := ⟨x_bl⟩
instance i_test : St1 (tTest te σ H QB) (te σ H fun x H' => KBl x fun k => QB k H') := ⟨id⟩
instance i_tB : St1 (tB te σ H QB) (te σ H fun x H' => KBl x fun k => QB k H') := ⟨id⟩
instance i_andV : St1 (tAndV ta tb σ H Q) (ta σ H fun x H1 => KBl x fun c => if c = true then tb σ H1 Q else Q (.bl false) H1) := ⟨id⟩
instance i_orV : St1 (tOrV ta tb σ H Q) (ta σ H fun x H1 => KBl x fun c => if c = true then Q (.bl true) H1 else tb σ H1 Q) := ⟨id⟩
def KNv (c : Bool) (Q : VK) (H : Hp) : Prop := Q (.bl (!c)) H
instance i_notV : St1 (tNotV ta σ H Q) (ta σ H fun x H1 => KBl x fun c => KNv c Q H1) := ⟨id⟩
instance (priority := 10) i_nv : St1 (KNv b Q H) (Q (.bl (!b)) H) := ⟨id⟩
instance i_nvT : St1 (KNv true Q H) (Q (.bl false) H) := ⟨id⟩
instance i_nvF : St1 (KNv false Q H) (Q (.bl true) H) := ⟨id⟩
def KNb (c : Bool) (QB : Bool → Hp → Prop) (H : Hp) : Prop := QB (!c) H
instance i_not : St1 (tNot t σ H QB) (t σ H fun c H1 => KNb c QB H1) := ⟨id⟩
instance (priority := 10) i_nb : St1 (KNb b QB H) (QB (!b) H) := ⟨id⟩
instance i_nbT : St1 (KNb true QB H) (QB false H) := ⟨id⟩
instance i_nbF : St1 (KNb false QB H) (QB true H) := ⟨id⟩
instance i_chain : St1 (tChain r r' ta tb tc σ H Q) (ta σ H fun x H1 => tb σ H1 fun y H2 => r x y H2 fun z H3 => KBl z fun k => if k = true then tc σ H3 fun w' H4 => r' y w' H4 Q else Q (.bl false) H3) := ⟨id⟩
instance i_clink {tl : TC} : St1 (cLink r tb tl σ x H Q) (tb σ H fun y H1 => r x y H1 fun z H2 => KBl z fun k => if k = true then tl σ y H2 Q else Q (.bl false) H2) := ⟨id⟩
/-! with an int in hand -/
def KIn (x : V) (QK : Int → Prop) : Prop := ∃ k, x = .int k ∧ QK k
instance i_in {QK : Int → Prop} : St1 (KIn (.int i) QK) (QK i) := ⟨x_int1⟩
instance i_forR1 : St1 (sForR none te g s1 ⟨nx, rt, bk, ct⟩ σ H) (te σ H fun y H1 => KIn y fun j => ForR g s1 nx rt 0 j σ H1) := ⟨id⟩
instance i_forR2 : St1 (sForR (some ta) tb g s1 ⟨nx, rt, bk, ct⟩ σ H) (ta σ H fun x H1 => tb σ H1 fun y H2 => KIn x fun i => KIn y fun j => ForR g s1 nx rt i j σ H2) := ⟨fun h => by
  refine x_forR2 ?_
  have e : (fun x H1 => tb σ H1 fun y H2 => KIn x fun i => KIn y fun j => ForR g s1 nx rt i j σ H2) = (fun x H1 => tb σ H1 fun y H2 => ∃ i j, x = .int i ∧ y = .int j ∧ ForR g s1 nx rt i j σ H2) := by
    funext x H1
    congr 1
    funext y H2
    exact propext ⟨fun ⟨i, e1, j, e2, h⟩ => ⟨i, j, e1, e2, h⟩, fun ⟨i, j, e1, e2, h⟩ => ⟨i, e1, j, e2, h⟩⟩
  rw [← e]
  exact h⟩
instance i_part : St1 (tPart te σ H QO) (te σ H fun x H1 => KIn x fun i => QO (some i) H1) := ⟨id⟩
/-! calls -/
theorem sp_app : (fun (vs : List V) (H1 : Hp) => sp (vs ++ []) H1 Q E) = fun vs H1 => sp vs H1 Q E := by
  funext vs H1
  rw [List.append_nil]
instance i_call : St1 (tCall sp [] E tl σ H Q) (tl σ H fun vs H1 => sp vs H1 Q E) := ⟨fun h => by
  refine x_call ?_
  rw [sp_app]
  exact h⟩
def KMk (C : Addr) (sp : Sp) (vs : List V) (H1 : Hp) (Q : VK) (E : XK) : Prop := ∀ x dx, H1 x = none → H1 dx = none → dx ≠ x → sp (.ref x :: vs) (upd (upd H1 dx (.own x)) x (.ins C dx [])) (fun v H2 => v = .non ∧ Q (.ref x) H2) E
instance i_make : St1 (tMake C sp [] E tl σ H Q) (tl σ H fun vs H1 => KMk C sp vs H1 Q E) := ⟨fun h => by
  refine x_make ?_
  have e : (fun (vs : List V) (H1 : Hp) => Kmake C sp vs H1 Q E) = fun vs H1 => KMk C sp vs H1 Q E := by
    funext vs H1
    unfold Kmake KMk
    simp only [List.append_nil]
  rw [e]
  exact h⟩
instance i_makeD {d : V} {ds : List V} : St1 (tMake C sp (d :: ds) E tl σ H Q) (tl σ H fun vs H1 => KmakeD C sp (vs ++ d :: ds) H1 Q E) := ⟨x_makeD⟩
instance i_mkG [F : FH H L] : St1 (KMk C sp vs H Q E) (∀ x dx H', FH H' ((x, Is (.ins C dx [])) :: L) → sp (.ref x :: vs) H' (fun v H2 => v = .non ∧ Q (.ref x) H2) E) := ⟨fun h x dx hx hd ne => h x dx _ ((F.other hd).new (by rw [upd_ne (Ne.symm ne)]; exact hx))⟩
instance i_mkDG {ws : List V} [F : FH H L] [ap : AppE xs ys ws] : St1 (KmakeD C sp (xs ++ ys) H Q E) (∀ x dx H', FH H' ((x, Is (.ins C dx [])) :: L) → sp (.ref x :: ws) H' (fun v H2 => v = .non ∧ Q (.ref x) H2) E) := ⟨fun h => x_makeDG F ap.e h⟩
instance i_newSG [F : FH H L] : St1 (KnewS C sp vs H Q E) (∀ x dx H', FH H' ((x, Is (.ins C dx [])) :: L) → sp (.ref x :: vs) H' (fun v H2 => v = .non ∧ Q (.ref x) H2) E) := ⟨fun h => x_newSG F h⟩
/-! objects -/
def KFl (C : Addr) (f : Str) (x : V) (H1 : Hp) (Q : VK) : Prop := ∃ a dx fs v, x = .ref a ∧ H1 a = some (.ins C dx fs) ∧ fs.lookup f = some v ∧ Q v H1
instance i_fld : St1 (eFld C f te σ H Q) (te σ H fun x H1 => KFl C f x H1 Q) := ⟨id⟩
instance i_fldG [F : FH H L] [a : Mm (p, Is (.ins C dx fs)) L] [l : LookF fs f v] : St1 (KFl C f (.ref p) H Q) (Q v H) := ⟨fun h => ⟨p, dx, fs, v, rfl, F.get a.m, l.l, h⟩⟩
def KFlD (Cs : List Addr) (f : Str) (x : V) (H1 : Hp) (Q : VK) : Prop := ∃ a C dx fs v, x = .ref a ∧ H1 a = some (.ins C dx fs) ∧ C ∈ Cs ∧ fs.lookup f = some v ∧ Q v H1
instance i_fldD : St1 (eFldD Cs f te σ H Q) (te σ H fun x H1 => KFlD Cs f x H1 Q) := ⟨id⟩
instance i_fldDG [F : FH H L] [a : Mm (p, Is (.ins C dx fs)) L] [c : Mm C Cs] [l : LookF fs f v] : St1 (KFlD Cs f (.ref p) H Q) (Q v H) := ⟨fun h => ⟨p, C, dx, fs, v, rfl, F.get a.m, c.m, l.l, h⟩⟩
def KSf (C : Addr) (f : Str) (y x : V) (H2 : Hp) (QH : Hp → Prop) : Prop := ∃ a dx fs, x = .ref a ∧ H2 a = some (.ins C dx fs) ∧ fs.length < 1000 ∧ QH (upd H2 a (.ins C dx (putF f y fs)))
instance i_setF : St1 (sSetF C f te tb ⟨nx, rt, bk, ct⟩ σ H) (tb σ H fun y H1 => te σ H1 fun x H2 => KSf C f y x H2 (nx σ)) := ⟨id⟩
instance i_setFG {QH : Hp → Prop} [F : FH H L] [a : Mm (p, Is (.ins C dx fs)) L] [z : Shr 60 fs] [e : PutFd f y fs fs'] [u : PutE p (Is (.ins C dx fs)) (Is (.ins C dx fs')) L L'] : St1 (KSf C f y (.ref p) H QH) (∀ H', FH H' L' → QH H') :=
  ⟨fun h => ⟨p, dx, fs, rfl, F.get a.m, Nat.lt_of_le_of_lt z.l (by decide), by rw [e.e]; exact h _ (F.put u.pu trivial)⟩⟩
def KSfD (Cs : List Addr) (f : Str) (y x : V) (H2 : Hp) (QH : Hp → Prop) : Prop := ∃ a C dx fs, x = .ref a ∧ H2 a = some (.ins C dx fs) ∧ C ∈ Cs ∧ fs.length < 1000 ∧ QH (upd H2 a (.ins C dx (putF f y fs)))
instance i_setFD : St1 (sSetFD Cs f te tb ⟨nx, rt, bk, ct⟩ σ H) (tb σ H fun y H1 => te σ H1 fun x H2 => KSfD Cs f y x H2 (nx σ)) := ⟨id⟩
instance i_setFDG {QH : Hp → Prop} [F : FH H L] [a : Mm (p, Is (.ins C dx fs)) L] [c : Mm C Cs] [z : Shr 60 fs] [e : PutFd f y fs fs'] [u : PutE p (Is (.ins C dx fs)) (Is (.ins C dx fs')) L L'] : St1 (KSfD Cs f y (.ref p) H QH) (∀ H', FH H' L' → QH H') :=
  ⟨fun h => ⟨p, C, dx, fs, rfl, F.get a.m, c.m, Nat.lt_of_le_of_lt z.l (by decide), by rw [e.e]; exact h _ (F.put u.pu trivial)⟩⟩
def KAf (C : Addr) (f : Str) (x : V) (H1 : Hp) (QAV : Addr → V → Prop) : Prop := ∃ a dx fs v, x = .ref a ∧ H1 a = some (.ins C dx fs) ∧ fs.lookup f = some v ∧ QAV a v
def KAs (C : Addr) (f : Str) (a : Addr) (z : V) (H3 : Hp) (QH : Hp → Prop) : Prop := ∃ dx' fs', H3 a = some (.ins C dx' fs') ∧ fs'.length < 1000 ∧ QH (upd H3 a (.ins C dx' (putF f z fs')))
instance i_augF {rd : V → V → Hp → VK → Prop} : St1 (sAugF C f te tb rd ⟨nx, rt, bk, ct⟩ σ H) (te σ H fun x H1 => KAf C f x H1 fun a v => tb σ H1 fun y H2 => rd v y H2 fun z H3 => KAs C f a z H3 (nx σ)) := ⟨id⟩
instance i_augFG {QAV : Addr → V → Prop} [F : FH H L] [a : Mm (p, Is (.ins C dx fs)) L] [l : LookF fs f v] : St1 (KAf C f (.ref p) H QAV) (QAV p v) := ⟨fun h => ⟨p, dx, fs, v, rfl, F.get a.m, l.l, h⟩⟩
instance i_augS2 {QH : Hp → Prop} [F : FH H L] [a : Mm (p, Is (.ins C dx fs)) L] [z : Shr 60 fs] [e : PutFd f y fs fs'] [u : PutE p (Is (.ins C dx fs)) (Is (.ins C dx fs')) L L'] : St1 (KAs C f p y H QH) (∀ H', FH H' L' → QH H') :=
  ⟨fun h => ⟨dx, fs, F.get a.m, Nat.lt_of_le_of_lt z.l (by decide), by rw [e.e]; exact h _ (F.put u.pu trivial)⟩⟩
def KAfD (Cs : List Addr) (f : Str) (x : V) (H1 : Hp) (QAV : Addr → Addr → V → Prop) : Prop := ∃ a C dx fs v, x = .ref a ∧ H1 a = some (.ins C dx fs) ∧ C ∈ Cs ∧ fs.lookup f = some v ∧ QAV a C v
instance i_augFD {rd : V → V → Hp → VK → Prop} : St1 (sAugFD Cs f te tb rd ⟨nx, rt, bk, ct⟩ σ H) (te σ H fun x H1 => KAfD Cs f x H1 fun a C v => tb σ H1 fun y H2 => rd v y H2 fun z H3 => KAs C f a z H3 (nx σ)) := ⟨id⟩
instance i_augFDG {QAV : Addr → Addr → V → Prop} [F : FH H L] [a : Mm (p, Is (.ins C dx fs)) L] [c : Mm C Cs] [l : LookF fs f v] : St1 (KAfD Cs f (.ref p) H QAV) (QAV p C v) := ⟨fun h => ⟨p, C, dx, fs, v, rfl, F.get a.m, c.m, l.l, h⟩⟩
def KMe (C : Addr) (m : Str) (x : V) (H1 : Hp) (B : Prop) : Prop := ∃ a dx fs, x = .ref a ∧ H1 a = some (.ins C dx fs) ∧ fs.lookup m = none ∧ B
theorem sp_app2 {x : V} : (fun (vs : List V) (H2 : Hp) => sp (x :: (vs ++ [])) H2 Q E) = fun vs H2 => sp (x :: vs) H2 Q E := by
  funext vs H1
  rw [List.append_nil]
instance i_meth : St1 (tMeth C m sp [] E ta tl σ H Q) (ta σ H fun x H1 => KMe C m x H1 (tl σ H1 fun vs H2 => sp (x :: vs) H2 Q E)) := ⟨fun h => by
  refine x_meth ?_
  have e : (fun x H1 => KMe C m x H1 (tl σ H1 fun vs H2 => sp (x :: vs) H2 Q E)) = fun x H1 => ∃ a dx fs, x = .ref a ∧ H1 a = some (.ins C dx fs) ∧ fs.lookup m = none ∧ tl σ H1 fun vs H2 => sp (x :: (vs ++ [])) H2 Q E := by
    funext x H1
    rw [sp_app2]
    rfl
  rw [← e]
  exact h⟩
instance i_methG [F : FH H L] [a : Mm (p, Is (.ins C dx fs)) L] [l : NoF fs m] : St1 (KMe C m (.ref p) H B) B := ⟨fun h => ⟨p, dx, fs, rfl, F.get a.m, l.l, h⟩⟩
instance i_mS {ES : L2.St → XK} : St1 (tMS C m sp ES ta tl σ H Q) (ta σ H fun x H1 => KMe C m x H1 (tl σ H1 fun vs H2 => sp (x :: vs) H2 Q (ES σ))) := ⟨id⟩
def KMD (ls : List (Addr × Sp)) (m : Str) (x : V) (H1 : Hp) (B : Sp → Prop) : Prop := ∃ a C dx fs sp, x = .ref a ∧ H1 a = some (.ins C dx fs) ∧ (C, sp) ∈ ls ∧ fs.lookup m = none ∧ B sp
instance i_mD {ES : L2.St → XK} : St1 (tMD ls m ES ta tl σ H Q) (ta σ H fun x H1 => KMD ls m x H1 fun sp => tl σ H1 fun vs H2 => sp (x :: vs) H2 Q (ES σ)) := ⟨id⟩
instance i_mDG {B : Sp → Prop} [F : FH H L] [a : Mm (p, Is (.ins C dx fs)) L] [c : Mm (C, sp) ls] [l : NoF fs m] : St1 (KMD ls m (.ref p) H B) (B sp) := ⟨fun h => ⟨p, C, dx, fs, sp, rfl, F.get a.m, c.m, l.l, h⟩⟩
def KPr (C : Addr) (x : V) (H1 : Hp) (B : Addr → Prop) : Prop := ∃ a dx fs, x = .ref a ∧ H1 a = some (.ins C dx fs) ∧ B a
instance i_prop : St1 (eProp C sp te σ H Q) (te σ H fun x H1 => KPr C x H1 fun a => sp [.ref a] H1 Q E0) := ⟨id⟩
instance i_propG {B : Addr → Prop} [F : FH H L] [a : Mm (p, Is (.ins C dx fs)) L] : St1 (KPr C (.ref p) H B) (B p) := ⟨fun h => ⟨p, dx, fs, rfl, F.get a.m, h⟩⟩
def KPrD (ls : List (Addr × Sp)) (x : V) (H1 : Hp) (B : Addr → Sp → Prop) : Prop := ∃ a C dx fs sp, x = .ref a ∧ H1 a = some (.ins C dx fs) ∧ (C, sp) ∈ ls ∧ B a sp
instance i_propD : St1 (ePropD ls te σ H Q) (te σ H fun x H1 => KPrD ls x H1 fun a sp => sp [.ref a] H1 Q E0) := ⟨id⟩
instance i_propDG {B : Addr → Sp → Prop} [F : FH H L] [a : Mm (p, Is (.ins C dx fs)) L] [c : Mm (C, sp) ls] : St1 (KPrD ls (.ref p) H B) (B p sp) := ⟨fun h => ⟨p, C, dx, fs, sp, rfl, F.get a.m, c.m, h⟩⟩
instance i_supM [F : FH H L] [a : Mm (p, Is (.ins C dx fs)) L] [c : Mm C Cs] : St1 (tSupM Cs sp E tl (some (.ref p) :: σ) H Q) (tl (some (.ref p) :: σ) H fun vs H1 => sp (.ref p :: vs) H1 Q E) := ⟨fun h => x_supM F a.m c.m h⟩
instance i_inOwnF [F : FH H L] [a : Mm (p, Is (.ins C dx fs)) L] : St1 (rInOwn C false sp E y (.ref p) H Q) (sp [.ref p, y] H (fun v H' => KBl v fun b => Q (.bl b) H') E) := ⟨fun h => x_inOwnF F a.m h⟩
instance i_inOwnT [F : FH H L] [a : Mm (p, Is (.ins C dx fs)) L] : St1 (rInOwn C true sp E y (.ref p) H Q) (sp [.ref p, y] H (fun v H' => KBl v fun b => Q (.bl (!b)) H') E) := ⟨fun h => x_inOwnT F a.m h⟩
/-! lists and tuples -/
instance i_ixL [F : FH H L] [a : Mm (p, Is (.lst xs)) L] [e : AtE xs i v] : St1 (rIx S (.ref p) (.int i) H Q) (Q v H) := ⟨fun h => x_ixL F a.m e.e h⟩
instance i_ixT [F : FH H L] [a : Mm (p, Is (.tup xs)) L] [e : AtE xs i v] : St1 (rIx S (.ref p) (.int i) H Q) (Q v H) := ⟨fun h => x_ixT F a.m e.e h⟩
instance i_getL [F : FH H L] [a : Mm (p, Is (.lst xs)) L] [e : AtE xs i v] : St1 (rGetL (.ref p) (.int i) H Q) (Q v H) := ⟨fun h => x_getL F a.m e.e h⟩
instance i_setL {QH : Hp → Prop} [F : FH H L] [a : Mm (p, Is (.lst xs)) L] [e : SetE xs i v ys] [u : PutE p (Is (.lst xs)) (Is (.lst ys)) L L'] : St1 (rSetL (.ref p) (.int i) v H QH) (∀ H', FH H' L' → QH H') := ⟨fun h => by
  obtain ⟨k, e1, e2⟩ := e.e
  subst e2
  exact x_setL F a.m e1 u.pu h⟩
instance i_lstG [F : FH H L] [z : Shr 100 xs] : St1 (Klst xs H Q) (∀ p H', H p = none → FH H' ((p, Is (.lst xs)) :: L) → Q (.ref p) H') := ⟨fun h => x_lstG F (len_leN (Nat.le_trans z.l (by decide))) h⟩
instance i_tupG [F : FH H L] [z : Shr 100 xs] : St1 (Ktup xs H Q) (∀ p H', H p = none → FH H' ((p, Is (.tup xs)) :: L) → Q (.ref p) H') := ⟨fun h => x_tupG F (len_leN (Nat.le_trans z.l (by decide))) h⟩
def KAp (x : V) (H1 : Hp) (B : Prop) : Prop := ∃ l, x = .ref l ∧ (∃ xs, H1 l = some (.lst xs)) ∧ B
instance i_apd : St1 (eApp te tl σ H Q) (te σ H fun x H1 => KAp x H1 (tl σ H1 fun vs H2 => rAppend x vs H2 Q)) := ⟨id⟩
instance i_apdG [F : FH H L] [a : Mm (p, Is (.lst xs)) L] : St1 (KAp (.ref p) H B) B := ⟨fun h => ⟨p, rfl, ⟨xs, F.get a.m⟩, h⟩⟩
instance i_append [F : FH H L] [a : Mm (p, Is (.lst xs)) L] [z : Shr 100 xs] [e : AppE xs [v] ys] [u : PutE p (Is (.lst xs)) (Is (.lst ys)) L L'] : St1 (rAppend (.ref p) [v] H Q) (∀ H', FH H' L' → Q .non H') := ⟨fun h => by
  have e1 := e.e
  subst e1
  exact x_append F a.m (len_ltN (Nat.lt_of_le_of_lt z.l (by decide))) u.pu h⟩
instance i_lcPut {D : Addr} {z : V} {k : Hp → Prop} [F : FH H L] [a : Mm (D, Is (.lst xs)) L] [s : Shr 100 xs] [e : AppE xs [z] ys] [u : PutE D (Is (.lst xs)) (Is (.lst ys)) L L'] : St1 (lcPut D z k H) (∀ H', FH H' L' → k H') := ⟨fun h => by
  have e1 := e.e
  subst e1
  exact x_lcPut F u.pu (Nat.lt_of_le_of_lt s.l (by decide)) h⟩
instance i_wipe {σ2 σw : L2.St} {vs : List Nat} [e : WipeE σ2 vs σw] : St1 (wipe σ2 vs = σw ∧ A) A := ⟨fun h => ⟨e.e, h⟩⟩
instance i_rdT [F : FH H L] [a : Mm (p, Is (.tup xs)) L] : St1 (RdS S H p (.tup xs) ∧ A) A := ⟨fun h => x_rdT F a.m h⟩
instance i_rdL [F : FH H L] [a : Mm (p, Is (.lst xs)) L] : St1 (RdS S H p (.lst xs) ∧ A) A := ⟨fun h => x_rdL F a.m h⟩
instance i_forTU [F : FH H L] [a : Mm (p, Is (.tup xs)) L] : St1 (ForS S g s1 nx rt (.ref p) σ H) (forKS S p (.tup xs) g s1 nx nx rt xs σ H) := ⟨fun h => forTU F a.m h⟩
instance i_lenL [F : FH H L] [a : Mm (p, Is (.lst xs)) L] [n : LenE xs k] : St1 (rLen S [.ref p] H Q) (Q (.int (k : Int)) H) := ⟨fun h => x_lenL F a.m (by rw [n.e]; exact h)⟩
instance i_lenT [F : FH H L] [a : Mm (p, Is (.tup xs)) L] [n : LenE xs k] : St1 (rLen S [.ref p] H Q) (Q (.int (k : Int)) H) := ⟨fun h => x_lenT F a.m (by rw [n.e]; exact h)⟩
instance i_listL [F : FH H L] [a : Mm (p, Is (.lst xs)) L] : St1 (rListOf S [.ref p] H Q) (∀ r H', H r = none → FH H' ((r, Is (.lst xs)) :: L) → Q (.ref r) H') := ⟨fun h => x_listL F a.m h⟩
instance i_listT [F : FH H L] [a : Mm (p, Is (.tup xs)) L] : St1 (rListOf S [.ref p] H Q) (∀ r H', H r = none → FH H' ((r, Is (.lst xs)) :: L) → Q (.ref r) H') := ⟨fun h => x_listT F a.m h⟩
instance i_tupleL [F : FH H L] [a : Mm (p, Is (.lst xs)) L] : St1 (rTupleOf S [.ref p] H Q) (∀ r H', H r = none → FH H' ((r, Is (.tup xs)) :: L) → Q (.ref r) H') := ⟨fun h => x_tupleL F a.m h⟩
instance i_tupleT [F : FH H L] [a : Mm (p, Is (.tup xs)) L] : St1 (rTupleOf S [.ref p] H Q) (Q (.ref p) H) := ⟨fun h => x_tupleT F a.m h⟩
instance i_cat {q : Addr} [F : FH H L] [a : Mm (p, Is (.lst xs)) L] [c : Mm (q, Is (.lst ys)) L] [s1 : Shr 100 xs] [s2 : Shr 100 ys] [e : AppE xs ys zs] : St1 (rAdd (.ref p) (.ref q) H Q) (∀ r H', H r = none → FH H' ((r, Is (.lst zs)) :: L) → Q (.ref r) H') := ⟨fun h => by
  have e1 := e.e
  subst e1
  exact x_cat F a.m c.m (len_leN (by rw [List.length_append]; exact Nat.le_trans (Nat.add_le_add s1.l s2.l) (by decide))) h⟩
instance i_allT [F : FH H L] [a : Mm (p, AllT) L] : St1 (rAll S [.ref p] H Q) (Q (.bl true) H) := ⟨fun h => x_allT F a.m h⟩
instance i_eqLs {q : Addr} {ns : List Int} [F : FH H L] [a : Mm (p, Is (.lst (ns.map V.int))) L] [b : Mm (q, Is (.lst (ns.map V.int))) L] : St1 (rEqP S (.ref p) (.ref q) H Q) (Q (.bl true) H) := ⟨fun h => x_eqPL F a.m b.m flat_ints flat_ints (by rw [eqv_ints, decide_eq_true rfl]) h⟩
instance i_neLs {q : Addr} {ns : List Int} [F : FH H L] [a : Mm (p, Is (.lst (ns.map V.int))) L] [b : Mm (q, Is (.lst (ns.map V.int))) L] : St1 (rNeP S (.ref p) (.ref q) H Q) (Q (.bl false) H) := ⟨fun h => x_nePL (b := true) F a.m b.m flat_ints flat_ints (by rw [eqv_ints, decide_eq_true rfl]) h⟩
instance (priority := 2000) i_eqPIs : St1 (rEqP S (.int i) (.int i) H Q) (Q (.bl true) H) := ⟨fun h => x_eqPI (by rw [decide_eq_true rfl]; exact h)⟩
instance (priority := 2000) i_nePIs : St1 (rNeP S (.int i) (.int i) H Q) (Q (.bl false) H) := ⟨fun h => x_nePI (by rw [decide_eq_false (fun z => z rfl)]; exact h)⟩
instance (priority := 2000) i_eqPBs : St1 (rEqP S (.bl b) (.bl b) H Q) (Q (.bl true) H) := ⟨fun h => x_eqPB (by rw [decide_eq_true rfl]; exact h)⟩
instance (priority := 2000) i_nePBs : St1 (rNeP S (.bl b) (.bl b) H Q) (Q (.bl false) H) := ⟨fun h => x_nePB (by rw [decide_eq_false (fun z => z rfl)]; exact h)⟩
instance i_eqPSd {a b : Str} [n : NeS a b] : St1 (rEqP S (.str a) (.str b) H Q) (Q (.bl false) H) := ⟨fun h => x_eqPSd n.ne h⟩
instance i_nePSd {a b : Str} [n : NeS a b] : St1 (rNeP S (.str a) (.str b) H Q) (Q (.bl true) H) := ⟨fun h => x_nePSd n.ne h⟩
/-! errors -/
instance i_mkC1 {C : Addr} {f : Str} [F : FH H L] : St1 (KmkC C [f] E [v] H) (∀ d H', FH H' ((d, Is (.xd [(f, v)])) :: L) → E (.ref C) (some d) H') := ⟨fun h => x_mkC1 F h⟩
instance i_mkC2 {C : Addr} {f g : Str} {w : V} [F : FH H L] : St1 (KmkC C [f, g] E [v, w] H) (∀ d H', FH H' ((d, Is (.xd [(g, w), (f, v)])) :: L) → E (.ref C) (some d) H') := ⟨fun h => x_mkC2 F h⟩
def KXf (b : Addr) (cls : Value) (d : Option Addr) (Cs : List Addr) (f : Str) (x : V) (H1 : Hp) (Q : VK) : Prop := x = .ref b ∧ ∃ C, C ∈ Cs ∧ cls = .ref C ∧ ∃ (dd : Addr) (fs : List (Str × V)) (v : V), d = some dd ∧ H1 dd = some (.xd fs) ∧ fs.lookup f = some v ∧ Q v H1
instance i_xf {b : Addr} {cls : Value} {d : Option Addr} : St1 (eXf b cls d Cs f te σ H Q) (te σ H fun x H1 => KXf b cls d Cs f x H1 Q) := ⟨id⟩
instance i_xfG {b C : Addr} [F : FH H L] [a : Mm (p, Is (.xd fs)) L] [c : Mm C Cs] [l : LookF fs f v] : St1 (KXf b (.ref C) (some p) Cs f (.ref b) H Q) (Q v H) := ⟨fun h => ⟨rfl, C, c.m, rfl, p, fs, v, rfl, F.get a.m, l.l, h⟩⟩
instance i_isX {b C : Addr} {tbl : List (Value × V × Bool)} {c : V} {k : Bool} [F : FH H L] [a : Mm (p, Is (.xd fs)) L] [n : Mm (Value.ref C, c, k) tbl] : St1 (rIsX tbl b (.ref C) (some p) [.ref b, c] H Q) (Q (.bl k) H) := ⟨fun h => x_isX F a.m n.m h⟩
instance i_isr_list_int [F : FH H L] [a : Mm (p, Is (.lst xs)) L] : St1 (rIsI [.ref p, .ty "int"] H Q) (Q (.bl false) H) := ⟨fun h => x_isr_list_int F a.m h⟩
instance i_isr_list_bool [F : FH H L] [a : Mm (p, Is (.lst xs)) L] : St1 (rIsI [.ref p, .ty "bool"] H Q) (Q (.bl false) H) := ⟨fun h => x_isr_list_bool F a.m h⟩
instance i_isr_list_str [F : FH H L] [a : Mm (p, Is (.lst xs)) L] : St1 (rIsI [.ref p, .ty "str"] H Q) (Q (.bl false) H) := ⟨fun h => x_isr_list_str F a.m h⟩
instance i_isr_list_list [F : FH H L] [a : Mm (p, Is (.lst xs)) L] : St1 (rIsI [.ref p, .ty "list"] H Q) (Q (.bl true) H) := ⟨fun h => x_isr_list_list F a.m h⟩
instance i_isr_list_tuple [F : FH H L] [a : Mm (p, Is (.lst xs)) L] : St1 (rIsI [.ref p, .ty "tuple"] H Q) (Q (.bl false) H) := ⟨fun h => x_isr_list_tuple F a.m h⟩
instance i_isr_list_dict [F : FH H L] [a : Mm (p, Is (.lst xs)) L] : St1 (rIsI [.ref p, .ty "dict"] H Q) (Q (.bl false) H) := ⟨fun h => x_isr_list_dict F a.m h⟩
instance i_isr_tuple_int [F : FH H L] [a : Mm (p, Is (.tup xs)) L] : St1 (rIsI [.ref p, .ty "int"] H Q) (Q (.bl false) H) := ⟨fun h => x_isr_tuple_int F a.m h⟩
instance i_isr_tuple_bool [F : FH H L] [a : Mm (p, Is (.tup xs)) L] : St1 (rIsI [.ref p, .ty "bool"] H Q) (Q (.bl false) H) := ⟨fun h => x_isr_tuple_bool F a.m h⟩
instance i_isr_tuple_str [F : FH H L] [a : Mm (p, Is (.tup xs)) L] : St1 (rIsI [.ref p, .ty "str"] H Q) (Q (.bl false) H) := ⟨fun h => x_isr_tuple_str F a.m h⟩
instance i_isr_tuple_list [F : FH H L] [a : Mm (p, Is (.tup xs)) L] : St1 (rIsI [.ref p, .ty "list"] H Q) (Q (.bl false) H) := ⟨fun h => x_isr_tuple_list F a.m h⟩
instance i_isr_tuple_tuple [F : FH H L] [a : Mm (p, Is (.tup xs)) L] : St1 (rIsI [.ref p, .ty "tuple"] H Q) (Q (.bl true) H) := ⟨fun h => x_isr_tuple_tuple F a.m h⟩
instance i_isr_tuple_dict [F : FH H L] [a : Mm (p, Is (.tup xs)) L] : St1 (rIsI [.ref p, .ty "dict"] H Q) (Q (.bl false) H) := ⟨fun h => x_isr_tuple_dict F a.m h⟩
instance i_slp1 {b0 : V} [F : FH H L] [a : Mm (p, Is (.lst (b0 :: xs))) L] : St1 (rSl S (.ref p) none (some 1) H Q) (∀ q H', H q = none → FH H' ((q, Is (.lst [b0])) :: L) → Q (.ref q) H') := ⟨fun h => x_slL F a.m (by rw [show cutV (b0 :: xs) none (some 1) = [b0] from cutV_pre (ys := [b0]) (n := 1) rfl]; exact h)⟩
instance i_slp2 {b0 b1 : V} [F : FH H L] [a : Mm (p, Is (.lst (b0 :: b1 :: xs))) L] : St1 (rSl S (.ref p) none (some 2) H Q) (∀ q H', H q = none → FH H' ((q, Is (.lst [b0, b1])) :: L) → Q (.ref q) H') := ⟨fun h => x_slL F a.m (by rw [show cutV (b0 :: b1 :: xs) none (some 2) = [b0, b1] from cutV_pre (ys := [b0, b1]) (n := 2) rfl]; exact h)⟩
instance i_slp3 {b0 b1 b2 : V} [F : FH H L] [a : Mm (p, Is (.lst (b0 :: b1 :: b2 :: xs))) L] : St1 (rSl S (.ref p) none (some 3) H Q) (∀ q H', H q = none → FH H' ((q, Is (.lst [b0, b1, b2])) :: L) → Q (.ref q) H') := ⟨fun h => x_slL F a.m (by rw [show cutV (b0 :: b1 :: b2 :: xs) none (some 3) = [b0, b1, b2] from cutV_pre (ys := [b0, b1, b2]) (n := 3) rfl]; exact h)⟩
instance i_slp4 {b0 b1 b2 b3 : V} [F : FH H L] [a : Mm (p, Is (.lst (b0 :: b1 :: b2 :: b3 :: xs))) L] : St1 (rSl S (.ref p) none (some 4) H Q) (∀ q H', H q = none → FH H' ((q, Is (.lst [b0, b1, b2, b3])) :: L) → Q (.ref q) H') := ⟨fun h => x_slL F a.m (by rw [show cutV (b0 :: b1 :: b2 :: b3 :: xs) none (some 4) = [b0, b1, b2, b3] from cutV_pre (ys := [b0, b1, b2, b3]) (n := 4) rfl]; exact h)⟩
instance i_slp5 {b0 b1 b2 b3 b4 : V} [F : FH H L] [a : Mm (p, Is (.lst (b0 :: b1 :: b2 :: b3 :: b4 :: xs))) L] : St1 (rSl S (.ref p) none (some 5) H Q) (∀ q H', H q = none → FH H' ((q, Is (.lst [b0, b1, b2, b3, b4])) :: L) → Q (.ref q) H') := ⟨fun h => x_slL F a.m (by rw [show cutV (b0 :: b1 :: b2 :: b3 :: b4 :: xs) none (some 5) = [b0, b1, b2, b3, b4] from cutV_pre (ys := [b0, b1, b2, b3, b4]) (n := 5) rfl]; exact h)⟩
instance i_slp6 {b0 b1 b2 b3 b4 b5 : V} [F : FH H L] [a : Mm (p, Is (.lst (b0 :: b1 :: b2 :: b3 :: b4 :: b5 :: xs))) L] : St1 (rSl S (.ref p) none (some 6) H Q) (∀ q H', H q = none → FH H' ((q, Is (.lst [b0, b1, b2, b3, b4, b5])) :: L) → Q (.ref q) H') := ⟨fun h => x_slL F a.m (by rw [show cutV (b0 :: b1 :: b2 :: b3 :: b4 :: b5 :: xs) none (some 6) = [b0, b1, b2, b3, b4, b5] from cutV_pre (ys := [b0, b1, b2, b3, b4, b5]) (n := 6) rfl]; exact h)⟩
instance i_slp7 {b0 b1 b2 b3 b4 b5 b6 : V} [F : FH H L] [a : Mm (p, Is (.lst (b0 :: b1 :: b2 :: b3 :: b4 :: b5 :: b6 :: xs))) L] : St1 (rSl S (.ref p) none (some 7) H Q) (∀ q H', H q = none → FH H' ((q, Is (.lst [b0, b1, b2, b3, b4, b5, b6])) :: L) → Q (.ref q) H') := ⟨fun h => x_slL F a.m (by rw [show cutV (b0 :: b1 :: b2 :: b3 :: b4 :: b5 :: b6 :: xs) none (some 7) = [b0, b1, b2, b3, b4, b5, b6] from cutV_pre (ys := [b0, b1, b2, b3, b4, b5, b6]) (n := 7) rfl]; exact h)⟩
instance i_slp8 {b0 b1 b2 b3 b4 b5 b6 b7 : V} [F : FH H L] [a : Mm (p, Is (.lst (b0 :: b1 :: b2 :: b3 :: b4 :: b5 :: b6 :: b7 :: xs))) L] : St1 (rSl S (.ref p) none (some 8) H Q) (∀ q H', H q = none → FH H' ((q, Is (.lst [b0, b1, b2, b3, b4, b5, b6, b7])) :: L) → Q (.ref q) H') := ⟨fun h => x_slL F a.m (by rw [show cutV (b0 :: b1 :: b2 :: b3 :: b4 :: b5 :: b6 :: b7 :: xs) none (some 8) = [b0, b1, b2, b3, b4, b5, b6, b7] from cutV_pre (ys := [b0, b1, b2, b3, b4, b5, b6, b7]) (n := 8) rfl]; exact h)⟩
instance i_slp9 {b0 b1 b2 b3 b4 b5 b6 b7 b8 : V} [F : FH H L] [a : Mm (p, Is (.lst (b0 :: b1 :: b2 :: b3 :: b4 :: b5 :: b6 :: b7 :: b8 :: xs))) L] : St1 (rSl S (.ref p) none (some 9) H Q) (∀ q H', H q = none → FH H' ((q, Is (.lst [b0, b1, b2, b3, b4, b5, b6, b7, b8])) :: L) → Q (.ref q) H') := ⟨fun h => x_slL F a.m (by rw [show cutV (b0 :: b1 :: b2 :: b3 :: b4 :: b5 :: b6 :: b7 :: b8 :: xs) none (some 9) = [b0, b1, b2, b3, b4, b5, b6, b7, b8] from cutV_pre (ys := [b0, b1, b2, b3, b4, b5, b6, b7, b8]) (n := 9) rfl]; exact h)⟩
instance i_slp10 {b0 b1 b2 b3 b4 b5 b6 b7 b8 b9 : V} [F : FH H L] [a : Mm (p, Is (.lst (b0 :: b1 :: b2 :: b3 :: b4 :: b5 :: b6 :: b7 :: b8 :: b9 :: xs))) L] : St1 (rSl S (.ref p) none (some 10) H Q) (∀ q H', H q = none → FH H' ((q, Is (.lst [b0, b1, b2, b3, b4, b5, b6, b7, b8, b9])) :: L) → Q (.ref q) H') := ⟨fun h => x_slL F a.m (by rw [show cutV (b0 :: b1 :: b2 :: b3 :: b4 :: b5 :: b6 :: b7 :: b8 :: b9 :: xs) none (some 10) = [b0, b1, b2, b3, b4, b5, b6, b7, b8, b9] from cutV_pre (ys := [b0, b1, b2, b3, b4, b5, b6, b7, b8, b9]) (n := 10) rfl]; exact h)⟩
instance i_slp11 {b0 b1 b2 b3 b4 b5 b6 b7 b8 b9 b10 : V} [F : FH H L] [a : Mm (p, Is (.lst (b0 :: b1 :: b2 :: b3 :: b4 :: b5 :: b6 :: b7 :: b8 :: b9 :: b10 :: xs))) L] : St1 (rSl S (.ref p) none (some 11) H Q) (∀ q H', H q = none → FH H' ((q, Is (.lst [b0, b1, b2, b3, b4, b5, b6, b7, b8, b9, b10])) :: L) → Q (.ref q) H') := ⟨fun h => x_slL F a.m (by rw [show cutV (b0 :: b1 :: b2 :: b3 :: b4 :: b5 :: b6 :: b7 :: b8 :: b9 :: b10 :: xs) none (some 11) = [b0, b1, b2, b3, b4, b5, b6, b7, b8, b9, b10] from cutV_pre (ys := [b0, b1, b2, b3, b4, b5, b6, b7, b8, b9, b10]) (n := 11) rfl]; exact h)⟩
instance i_slp12 {b0 b1 b2 b3 b4 b5 b6 b7 b8 b9 b10 b11 : V} [F : FH H L] [a : Mm (p, Is (.lst (b0 :: b1 :: b2 :: b3 :: b4 :: b5 :: b6 :: b7 :: b8 :: b9 :: b10 :: b11 :: xs))) L] : St1 (rSl S (.ref p) none (some 12) H Q) (∀ q H', H q = none → FH H' ((q, Is (.lst [b0, b1, b2, b3, b4, b5, b6, b7, b8, b9, b10, b11])) :: L) → Q (.ref q) H') := ⟨fun h => x_slL F a.m (by rw [show cutV (b0 :: b1 :: b2 :: b3 :: b4 :: b5 :: b6 :: b7 :: b8 :: b9 :: b10 :: b11 :: xs) none (some 12) = [b0, b1, b2, b3, b4, b5, b6, b7, b8, b9, b10, b11] from cutV_pre (ys := [b0, b1, b2, b3, b4, b5, b6, b7, b8, b9, b10, b11]) (n := 12) rfl]; exact h)⟩
instance i_sl1 {b0 : V} [F : FH H L] [a : Mm (p, Is (.lst (b0 :: xs))) L] : St1 (rSl S (.ref p) (some 1) none H Q) (∀ q H', H q = none → FH H' ((q, Is (.lst xs)) :: L) → Q (.ref q) H') := ⟨fun h => x_sl1 F a.m h⟩
/-! enumerate; isinstance of several types; insert; messages; dicts without a key -/
instance i_forEn {gi gj : TG} : St1 (sForEn S te gi gj s1 ⟨nx, rt, bk, ct⟩ σ H) (te σ H fun x H1 => EnS S gi gj s1 nx rt x σ H1) := ⟨id⟩
theorem enL {gi gj : TG} (Pv : Nat → L2.St → Prop) (F : FH H L) (m : (p, Is (.lst xs)) ∈ L ∨ (p, Is (.tup xs)) ∈ L) (h0 : Pv 0 σ)
    (hs : ∀ (i : Nat) y σ H, xs[i]? = some y → Pv i σ → FH H L → gi (.int (i : Int)) σ H fun σ' H' => gj y σ' H' fun σ2 H2 => s1 ⟨fun σ H => Pv (i + 1) σ ∧ FH H L, rt, nx, fun σ H => Pv (i + 1) σ ∧ FH H L⟩ σ2 H2) (hd : ∀ σ H, Pv xs.length σ → FH H L → nx σ H) : EnS S gi gj s1 nx rt (.ref p) σ H := by
  refine ⟨p, xs, rfl, fun i σ H => Pv i σ ∧ FH H L, ⟨h0, F⟩, ?_, fun i y σ H T e q hT => hs i y σ _ e q.1 (q.2.other hT), fun σ H q => hd σ H q.1 q.2⟩
  rcases m with m | m
  · exact .inl fun i H _ ⟨σ, q⟩ => .inl (.inl (q.2.get m))
  · exact .inr fun i H _ ⟨σ, q⟩ => .inl (.inl (q.2.get m))
instance i_dnew [F : FH H L] : St1 (tDNewK σ H Q) (∀ p H', FH H' ((p, Is (.dK [])) :: L) → Q (.ref p) H') := ⟨fun h p hp => h p _ (F.new hp)⟩
def KFm (vs : List V) (A : Prop) : Prop := (∀ y ∈ vs, fmtOk y) ∧ A
instance i_raiseF {C : Addr} {gs : List Str} {D : Ends} : St1 (sRaise E (tMkF C gs tl) D σ H) (tl σ H fun vs H1 => KFm vs (KmkC C gs E vs H1)) := ⟨id⟩
instance i_raiseSF {C : Addr} {gs : List Str} {D : Ends} {W : WX} : St1 (sRaiseS W (tMkF C gs tl) D σ H) (tl σ H fun vs H1 => KFm vs (KmkC C gs (WE W σ) vs H1)) := ⟨id⟩
theorem x_fmI (h1 : -18446744073709551616 < i ∧ i < 18446744073709551616) (h : A) : KFm [.int i] A := ⟨fun y hy => by
  have e : y = .int i := by simpa using hy
  subst e
  show i.natAbs.log2 < 1920
  by_cases e : i.natAbs = 0
  · rw [e]; decide
  · have h2 := Nat.log2_self_le e
    have h3 : 2 ^ i.natAbs.log2 < 2 ^ 64 := by
      have : (2 : Nat) ^ 64 = 18446744073709551616 := by decide
      omega
    have := (Nat.pow_lt_pow_iff_right (by decide : 1 < 2)).mp h3
    omega, h⟩
class TyE (H : Hp) (v : V) (t : outParam String) : Prop where
  t : TyN H v t
instance ty_non : TyE H .non "NoneType" := ⟨.non⟩
instance ty_bl : TyE H (.bl b) "bool" := ⟨.bl b⟩
instance ty_int : TyE H (.int i) "int" := ⟨.int i⟩
instance ty_str {z : Str} : TyE H (.str z) "str" := ⟨.str z⟩
instance ty_lst [F : FH H L] [a : Mm (p, Is (.lst xs)) L] : TyE H (.ref p) "list" := ⟨.lst (.inl (F.get a.m))⟩
instance ty_tup [F : FH H L] [a : Mm (p, Is (.tup xs)) L] : TyE H (.ref p) "tuple" := ⟨.tup (.inl (F.get a.m))⟩
instance ty_dk {kvs : List (Key × V)} [F : FH H L] [a : Mm (p, Is (.dK kvs)) L] : TyE H (.ref p) "dict" := ⟨.dK (F.get a.m)⟩
class Kit1 (t n : String) (c : outParam Bool) : Prop where
  k : kitB t n = some c
  e : isA t n = c
class OrE (a b : Bool) (c : outParam Bool) : Prop where
  e : (a || b) = c
instance or_t {b : Bool} : OrE true b true := ⟨rfl⟩
instance or_f {b : Bool} : OrE false b b := ⟨rfl⟩
class KitA (t : String) (vs : List V) (c : outParam Bool) : Prop where
  e : ∃ ns, Tys vs ns ∧ (∀ n ∈ ns, kitB t n = some (isA t n)) ∧ ns.any (isA t) = c
instance kita_nil {t : String} : KitA t [] false := ⟨[], .nil, (fun _ h => nomatch h), rfl⟩
instance kita_cons {t n : String} {vs : List V} {c d e : Bool} [a : Kit1 t n c] [b : KitA t vs d] [o : OrE c d e] : KitA t (.ty n :: vs) e := ⟨by
  obtain ⟨ns, h1, h2, h3⟩ := b.e
  refine ⟨n :: ns, .cons h1, fun m hm => ?_, ?_⟩
  · rcases List.mem_cons.mp hm with z | z
    · subst z; rw [a.e]; exact a.k
    · exact h2 m z
  · rw [List.any_cons, a.e, h3, o.e]⟩
instance i_isT {vs : List V} {t : String} {c : Bool} [F : FH H L] [ty : TyE H x t] [a : Mm (p, Is (.tup vs)) L] [k : KitA t vs c] : St1 (rIsT [x, .ref p] H Q) (Q (.bl c) H) := ⟨fun h => by
  obtain ⟨ns, h1, h2, h3⟩ := k.e
  exact ⟨x, p, vs, ns, t, rfl, F.get a.m, h1, ty.t, h2, by rw [h3]; exact h⟩⟩
def KIns (x : V) (H1 : Hp) (B : Prop) : Prop := ∃ l, x = .ref l ∧ (∃ xs, H1 l = some (.lst xs)) ∧ B
instance i_ins : St1 (eIns te tl σ H Q) (te σ H fun x H1 => KIns x H1 (tl σ H1 fun vs H2 => rIns x vs H2 Q)) := ⟨id⟩
instance i_insG [F : FH H L] [a : Mm (p, Is (.lst xs)) L] : St1 (KIns (.ref p) H B) B := ⟨fun h => ⟨p, rfl, ⟨xs, F.get a.m⟩, h⟩⟩
theorem x_insL (F : FH H L) (pu : Put p (Is (.lst xs)) (Is (.lst (xs.take i.toNat ++ [y] ++ xs.drop i.toNat))) L L') (sz : xs.length < 16777216) (h0 : 0 ≤ i) (h1 : i < 9223372036854775808) (h : ∀ H', FH H' L' → Q .non H') : rIns (.ref p) [.int i, y] H Q := by
  have e : (2 : Int) ^ 63 = 9223372036854775808 := by decide
  exact ⟨p, xs, i, y, rfl, rfl, F.get pu.mem, by rw [sizeLine_eq]; exact sz, h0, by rw [e]; exact h1, h _ (F.put pu trivial)⟩
/-! instances: their class, its constants; static tuples; texts; index; keywords -/
instance i_isO {D C dx : Addr} {fs : List (Str × V)} {tbl : List (Addr × Bool)} {b : Bool} [F : FH H L] [a : Mm (p, Is (.ins C dx fs)) L] [c : Mm (C, b) tbl] : St1 (rIsO D tbl [.ref p, .ref D] H Q) (Q (.bl b) H) := ⟨fun h => ⟨p, C, dx, fs, b, rfl, F.get a.m, c.m, h⟩⟩
def KCo (l : List (Addr × V)) (f : Str) (x : V) (H1 : Hp) (Q : VK) : Prop := ∃ a C dx fs v, x = .ref a ∧ H1 a = some (.ins C dx fs) ∧ (C, v) ∈ l ∧ fs.lookup f = none ∧ Q v H1
instance i_conD {l : List (Addr × V)} : St1 (eConD l f te σ H Q) (te σ H fun x H1 => KCo l f x H1 Q) := ⟨id⟩
instance i_conDG {l : List (Addr × V)} [F : FH H L] [a : Mm (p, Is (.ins C dx fs)) L] [c : Mm (C, v) l] [n : NoF fs f] : St1 (KCo l f (.ref p) H Q) (Q v H) := ⟨fun h => ⟨p, C, dx, fs, v, rfl, F.get a.m, c.m, n.l, h⟩⟩
class StT (S : Sta) (p : Addr) (xs : outParam (List V)) : Prop where
  s : S p (.tup xs)
instance i_isS {n : String} [s : StT S p xs] [k : Kit1 "tuple" n b] : St1 (rIsS S [.ref p, .ty n] H Q) (Q (.bl b) H) := ⟨fun h => ⟨p, xs, n, rfl, s.s, by rw [k.e]; exact k.k, by rw [k.e]; exact h⟩⟩
instance i_lenS {k : Nat} [s : StT S p xs] [n : LenE xs k] : St1 (rLen S [.ref p] H Q) (Q (.int (k : Int)) H) := ⟨fun h => .inl ⟨p, xs, rfl, .inr (.inr s.s), by rw [n.e]; exact h⟩⟩
instance i_listS [s : StT S p xs] [F : FH H L] : St1 (rListOf S [.ref p] H Q) (∀ r H', H r = none → FH H' ((r, Is (.lst xs)) :: L) → Q (.ref r) H') := ⟨fun h => ⟨p, xs, rfl, .inr (.inr s.s), fun r hr => h r _ hr (F.new hr)⟩⟩
instance i_rdS [s : StT S p xs] : St1 (RdS S H p (.tup xs) ∧ A) A := ⟨fun h => ⟨.inr s.s, h⟩⟩
def KIdx (x : V) (H1 : Hp) (B : Prop) : Prop := ∃ l, x = .ref l ∧ (∃ xs, H1 l = some (.lst xs)) ∧ B
instance i_idx : St1 (eIdx te tl σ H Q) (te σ H fun x H1 => KIdx x H1 (tl σ H1 fun vs H2 => rIdx x vs H2 Q)) := ⟨id⟩
instance i_idxG [F : FH H L] [a : Mm (p, Is (.lst xs)) L] : St1 (KIdx (.ref p) H B) B := ⟨fun h => ⟨p, rfl, ⟨xs, F.get a.m⟩, h⟩⟩
def KmKw (C : Addr) (n m : Nat) (sp : Sp) (vs zs : List V) (H2 : Hp) (Q : VK) (E : XK) : Prop := vs.length = n ∧ zs.length = m ∧ ∀ x dx, H2 x = none → H2 dx = none → dx ≠ x → sp (.ref x :: (vs ++ zs)) (upd (upd H2 dx (.own x)) x (.ins C dx [])) (fun v H3 => v = .non ∧ Q (.ref x) H3) E
instance i_makeKw {n m : Nat} {tk : TA} : St1 (tMakeKw C n m sp E tl tk σ H Q) (tl σ H fun vs H1 => tk σ H1 fun zs H2 => KmKw C n m sp vs zs H2 Q E) := ⟨id⟩
instance i_makeKwG {n m : Nat} {ws : List V} [F : FH H L] [l1 : LenE xs n] [l2 : LenE ys m] [ap : AppE xs ys ws] : St1 (KmKw C n m sp xs ys H Q E) (∀ x dx H', FH H' ((x, Is (.ins C dx [])) :: L) → sp (.ref x :: ws) H' (fun v H2 => v = .non ∧ Q (.ref x) H2) E) := ⟨fun h => ⟨l1.e, l2.e, fun x dx hx hd ne => by
  rw [ap.e]
  exact h x dx _ ((F.other hd).new (by rw [upd_ne (Ne.symm ne)]; exact hx))⟩⟩
/-! tuples as targets; == of unlike kinds -/
instance i_gTup {k : Nat} {u : TGs} [F : FH H L] [a : Mm (p, Is (.tup xs)) L] [n : LenE xs k] : St1 (gTupS S k u (.ref p) σ H QS) (u xs σ H QS) := ⟨fun h => ⟨p, xs, rfl, .inl (.inl (F.get a.m)), n.e, h⟩⟩
instance i_gCons {u : TGs} : St1 (gCons g u (v :: vs) σ H QS) (g v σ H fun σ' H' => u vs σ' H' QS) := ⟨fun h => ⟨v, vs, rfl, h⟩⟩
instance i_gNil : St1 (gNil [] σ H QS) (QS σ H) := ⟨fun h => ⟨rfl, h⟩⟩
class StrK (z : Str) : Prop where
  k : PyData.canLay0 (.str z) = true
class FltA (xs : List V) : Prop where
  f : xs.all flatOk = true
instance flta_nil : FltA [] := ⟨rfl⟩
instance flta_non [a : FltA xs] : FltA (.non :: xs) := ⟨by rw [List.all_cons, a.f]; rfl⟩
instance flta_bl [a : FltA xs] : FltA (.bl b :: xs) := ⟨by rw [List.all_cons, a.f]; rfl⟩
instance flta_int [a : FltA xs] : FltA (.int i :: xs) := ⟨by rw [List.all_cons, a.f]; rfl⟩
instance flta_str {z : Str} [k : StrK z] [a : FltA xs] : FltA (.str z :: xs) := ⟨by rw [List.all_cons, a.f, Bool.and_true]; exact k.k⟩
instance flta_ints {ns : List Int} : FltA (ns.map V.int) := ⟨flat_ints⟩
class DpC (S : Sta) (H : Hp) (v : V) (d : outParam PyData) : Prop where
  p : DpS S H v d
  s : SeqAt.shaped d = true
instance dpc_non : DpC S H .non .none := ⟨.non, rfl⟩
instance dpc_bl : DpC S H (.bl b) (.bool b) := ⟨.bl b, rfl⟩
instance dpc_int : DpC S H (.int i) (.int i) := ⟨.int i, rfl⟩
instance dpc_str {z : Str} [k : StrK z] : DpC S H (.str z) (.str z) := ⟨.str z, by unfold SeqAt.shaped; rw [k.k]; rfl⟩
instance dpc_lst [F : FH H L] [a : Mm (p, Is (.lst xs)) L] [f : FltA xs] : DpC S H (.ref p) (.list (xs.map flatD)) := ⟨.lst (.inl (.inl (F.get a.m))) (dps_flat f.f), shaped_flatL f.f⟩
instance dpc_tup [F : FH H L] [a : Mm (p, Is (.tup xs)) L] [f : FltA xs] : DpC S H (.ref p) (.tuple (xs.map flatD)) := ⟨.tup (.inl (.inl (F.get a.m))) (dps_flat f.f), shaped_flatT f.f⟩
class EqvC (d e : PyData) (b : outParam Bool) : Prop where
  e : PyData.eqv d e = b
theorem eqG {d e : PyData} (h1 : DpS S H x d) (h2 : DpS S H y e) (s1 : SeqAt.shaped d = true) (s2 : SeqAt.shaped e = true) (ev : PyData.eqv d e = b) (h : Q (.bl b) H) : rEqP S x y H Q := .inr ⟨d, e, h1, h2, s1, s2, by rw [ev]; exact h⟩
theorem neG {d e : PyData} (h1 : DpS S H x d) (h2 : DpS S H y e) (s1 : SeqAt.shaped d = true) (s2 : SeqAt.shaped e = true) (ev : PyData.eqv d e = b) (h : Q (.bl (!b)) H) : rNeP S x y H Q := .inr ⟨d, e, h1, h2, s1, s2, by rw [ev]; exact h⟩
instance (priority := 50) i_eqG {d e : PyData} [h1 : DpC S H x d] [h2 : DpC S H y e] [v : EqvC d e b] : St1 (rEqP S x y H Q) (Q (.bl b) H) := ⟨fun h => eqG h1.p h2.p h1.s h2.s v.e h⟩
instance (priority := 50) i_neGt {d e : PyData} [h1 : DpC S H x d] [h2 : DpC S H y e] [v : EqvC d e true] : St1 (rNeP S x y H Q) (Q (.bl false) H) := ⟨fun h => neG h1.p h2.p h1.s h2.s v.e h⟩
instance (priority := 50) i_neGf {d e : PyData} [h1 : DpC S H x d] [h2 : DpC S H y e] [v : EqvC d e false] : St1 (rNeP S x y H Q) (Q (.bl true) H) := ⟨fun h => neG h1.p h2.p h1.s h2.s v.e h⟩
instance eqv_none_list {ds : List PyData} : EqvC (.none) (.list ds) false := ⟨rfl⟩
instance eqv_none_tuple {es : List PyData} : EqvC (.none) (.tuple es) false := ⟨rfl⟩
instance eqv_bool_list {b : Bool} {ds : List PyData} : EqvC (.bool b) (.list ds) false := ⟨rfl⟩
instance eqv_bool_tuple {b : Bool} {es : List PyData} : EqvC (.bool b) (.tuple es) false := ⟨rfl⟩
instance eqv_int_list {i : Int} {ds : List PyData} : EqvC (.int i) (.list ds) false := ⟨rfl⟩
instance eqv_int_tuple {i : Int} {es : List PyData} : EqvC (.int i) (.tuple es) false := ⟨rfl⟩
instance eqv_str_list {z : Str} {ds : List PyData} : EqvC (.str z) (.list ds) false := ⟨rfl⟩
instance eqv_str_tuple {z : Str} {es : List PyData} : EqvC (.str z) (.tuple es) false := ⟨rfl⟩
instance eqv_list_none {ds : List PyData} : EqvC (.list ds) (.none) false := ⟨rfl⟩
instance eqv_list_bool {ds : List PyData} {b : Bool} : EqvC (.list ds) (.bool b) false := ⟨rfl⟩
instance eqv_list_int {ds : List PyData} {i : Int} : EqvC (.list ds) (.int i) false := ⟨rfl⟩
instance eqv_list_str {ds : List PyData} {z : Str} : EqvC (.list ds) (.str z) false := ⟨rfl⟩
instance eqv_list_tuple {ds : List PyData} {es : List PyData} : EqvC (.list ds) (.tuple es) false := ⟨rfl⟩
instance eqv_tuple_none {es : List PyData} : EqvC (.tuple es) (.none) false := ⟨rfl⟩
instance eqv_tuple_bool {es : List PyData} {b : Bool} : EqvC (.tuple es) (.bool b) false := ⟨rfl⟩
instance eqv_tuple_int {es : List PyData} {i : Int} : EqvC (.tuple es) (.int i) false := ⟨rfl⟩
instance eqv_tuple_str {es : List PyData} {z : Str} : EqvC (.tuple es) (.str z) false := ⟨rfl⟩
instance eqv_tuple_list {es : List PyData} {ds : List PyData} : EqvC (.tuple es) (.list ds) false := ⟨rfl⟩
instance kit1_int_int : Kit1 "int" "int" true := ⟨kit_int_int, by decide⟩
instance kit1_int_bool : Kit1 "int" "bool" false := ⟨kit_int_bool, by decide⟩
instance kit1_int_str : Kit1 "int" "str" false := ⟨kit_int_str, by decide⟩
instance kit1_int_list : Kit1 "int" "list" false := ⟨kit_int_list, by decide⟩
instance kit1_int_tuple : Kit1 "int" "tuple" false := ⟨kit_int_tuple, by decide⟩
instance kit1_int_dict : Kit1 "int" "dict" false := ⟨kit_int_dict, by decide⟩
instance kit1_bool_int : Kit1 "bool" "int" true := ⟨kit_bool_int, by decide⟩
instance kit1_bool_bool : Kit1 "bool" "bool" true := ⟨kit_bool_bool, by decide⟩
instance kit1_bool_str : Kit1 "bool" "str" false := ⟨kit_bool_str, by decide⟩
instance kit1_bool_list : Kit1 "bool" "list" false := ⟨kit_bool_list, by decide⟩
instance kit1_bool_tuple : Kit1 "bool" "tuple" false := ⟨kit_bool_tuple, by decide⟩
instance kit1_bool_dict : Kit1 "bool" "dict" false := ⟨kit_bool_dict, by decide⟩
instance kit1_str_int : Kit1 "str" "int" false := ⟨kit_str_int, by decide⟩
instance kit1_str_bool : Kit1 "str" "bool" false := ⟨kit_str_bool, by decide⟩
instance kit1_str_str : Kit1 "str" "str" true := ⟨kit_str_str, by decide⟩
instance kit1_str_list : Kit1 "str" "list" false := ⟨kit_str_list, by decide⟩
instance kit1_str_tuple : Kit1 "str" "tuple" false := ⟨kit_str_tuple, by decide⟩
instance kit1_str_dict : Kit1 "str" "dict" false := ⟨kit_str_dict, by decide⟩
instance kit1_NoneType_int : Kit1 "NoneType" "int" false := ⟨kit_NoneType_int, by decide⟩
instance kit1_NoneType_bool : Kit1 "NoneType" "bool" false := ⟨kit_NoneType_bool, by decide⟩
instance kit1_NoneType_str : Kit1 "NoneType" "str" false := ⟨kit_NoneType_str, by decide⟩
instance kit1_NoneType_list : Kit1 "NoneType" "list" false := ⟨kit_NoneType_list, by decide⟩
instance kit1_NoneType_tuple : Kit1 "NoneType" "tuple" false := ⟨kit_NoneType_tuple, by decide⟩
instance kit1_NoneType_dict : Kit1 "NoneType" "dict" false := ⟨kit_NoneType_dict, by decide⟩
instance kit1_list_int : Kit1 "list" "int" false := ⟨kit_list_int, by decide⟩
instance kit1_list_bool : Kit1 "list" "bool" false := ⟨kit_list_bool, by decide⟩
instance kit1_list_str : Kit1 "list" "str" false := ⟨kit_list_str, by decide⟩
instance kit1_list_list : Kit1 "list" "list" true := ⟨kit_list_list, by decide⟩
instance kit1_list_tuple : Kit1 "list" "tuple" false := ⟨kit_list_tuple, by decide⟩
instance kit1_list_dict : Kit1 "list" "dict" false := ⟨kit_list_dict, by decide⟩
instance kit1_tuple_int : Kit1 "tuple" "int" false := ⟨kit_tuple_int, by decide⟩
instance kit1_tuple_bool : Kit1 "tuple" "bool" false := ⟨kit_tuple_bool, by decide⟩
instance kit1_tuple_str : Kit1 "tuple" "str" false := ⟨kit_tuple_str, by decide⟩
instance kit1_tuple_list : Kit1 "tuple" "list" false := ⟨kit_tuple_list, by decide⟩
instance kit1_tuple_tuple : Kit1 "tuple" "tuple" true := ⟨kit_tuple_tuple, by decide⟩
instance kit1_tuple_dict : Kit1 "tuple" "dict" false := ⟨kit_tuple_dict, by decide⟩
instance kit1_dict_int : Kit1 "dict" "int" false := ⟨kit_dict_int, by decide⟩
instance i_isr_dict_int {kvs : List (Key × V)} [F : FH H L] [a : Mm (p, Is (.dK kvs)) L] : St1 (rIsI [.ref p, .ty "int"] H Q) (Q (.bl false) H) := ⟨fun h => isi_of (.dK (F.get a.m)) kit_dict_int rfl h⟩
instance kit1_dict_bool : Kit1 "dict" "bool" false := ⟨kit_dict_bool, by decide⟩
instance i_isr_dict_bool {kvs : List (Key × V)} [F : FH H L] [a : Mm (p, Is (.dK kvs)) L] : St1 (rIsI [.ref p, .ty "bool"] H Q) (Q (.bl false) H) := ⟨fun h => isi_of (.dK (F.get a.m)) kit_dict_bool rfl h⟩
instance kit1_dict_str : Kit1 "dict" "str" false := ⟨kit_dict_str, by decide⟩
instance i_isr_dict_str {kvs : List (Key × V)} [F : FH H L] [a : Mm (p, Is (.dK kvs)) L] : St1 (rIsI [.ref p, .ty "str"] H Q) (Q (.bl false) H) := ⟨fun h => isi_of (.dK (F.get a.m)) kit_dict_str rfl h⟩
instance kit1_dict_list : Kit1 "dict" "list" false := ⟨kit_dict_list, by decide⟩
instance i_isr_dict_list {kvs : List (Key × V)} [F : FH H L] [a : Mm (p, Is (.dK kvs)) L] : St1 (rIsI [.ref p, .ty "list"] H Q) (Q (.bl false) H) := ⟨fun h => isi_of (.dK (F.get a.m)) kit_dict_list rfl h⟩
instance kit1_dict_tuple : Kit1 "dict" "tuple" false := ⟨kit_dict_tuple, by decide⟩
instance i_isr_dict_tuple {kvs : List (Key × V)} [F : FH H L] [a : Mm (p, Is (.dK kvs)) L] : St1 (rIsI [.ref p, .ty "tuple"] H Q) (Q (.bl false) H) := ⟨fun h => isi_of (.dK (F.get a.m)) kit_dict_tuple rfl h⟩
instance kit1_dict_dict : Kit1 "dict" "dict" true := ⟨kit_dict_dict, by decide⟩
instance i_isr_dict_dict {kvs : List (Key × V)} [F : FH H L] [a : Mm (p, Is (.dK kvs)) L] : St1 (rIsI [.ref p, .ty "dict"] H Q) (Q (.bl true) H) := ⟨fun h => isi_of (.dK (F.get a.m)) kit_dict_dict rfl h⟩
/-- a comprehension over a range: a map -/
theorem lcRM {tel : TE} {us : List Nat} {σw : L2.St} (n : Nat) (f : Nat → V) (ej : j = (n : Int)) (hn : n < 16777216) (F : FH H L) (ew : wipe σ us = σw)
    (hs : ∀ (i : Nat) H (QX : V → Hp → Prop), i < n → FH H L → QX (f i) H → g (.int (i : Int)) σw H fun σ2 H2 => wipe σ2 us = σw ∧ tel σ2 H2 QX)
    (hd : ∀ D H', FH H' ((D, Is (.lst ((List.range n).map f))) :: L) → Q (.ref D) H') : LcR g tYes tel us Q (.int j) σ H := by
  subst ew ej
  have e62 : (2 : Int) ^ 62 = 4611686018427387904 := by decide
  refine ⟨_, rfl, ⟨by rw [e62]; decide, by rw [e62]; decide, by rw [e62]; omega, by rw [e62]; omega⟩, fun D hD => ⟨fun i H => FH H ((D, Is (.lst ((List.range i).map f))) :: L), F.new hD, fun i H hi q => ?_, fun H q => hd D H ?_⟩⟩
  · have h := hs i H (fun z H4 => ∃ acc, H4 D = some (.lst acc) ∧ acc.length < sizeLine ∧ FH (upd H4 D (.lst (acc ++ [z]))) ((D, Is (.lst ((List.range (i + 1)).map f))) :: L)) (by omega) q.tail ⟨_, q.get (List.Mem.head _), by rw [sizeLine_eq, List.length_map, List.length_range]; omega, by rw [List.range_succ, List.map_append]; exact q.put .here trivial⟩
    rw [Int.zero_add]
    exact h
  · have e1 : ((n : Int) - 0).toNat = n := by omega
    dsimp only at q
    rw [e1] at q
    exact q
/-! unrolled where Unr is an instance -/
class Unr : Prop where
  t : True
class Lit (xs : List V) : Prop where
  t : True
instance lit_nil : Lit [] := ⟨trivial⟩
instance lit_cons [a : Lit xs] : Lit (x :: xs) := ⟨trivial⟩
class RgE (j : Int) (n : outParam Nat) (xs : outParam (List V)) : Prop where
  j : j = (n : Int)
  l : n < 1000
  e : (List.range n).map (fun (i : Nat) => V.int (0 + (i : Int))) = xs
def forKL (g : TG) (s1 : TS) (P bk : K0) (rt : VK) : List V → L2.St → Hp → Prop
  | [], σ, H => P σ H
  | x :: xs, σ, H => g x σ H fun σ' H' => s1 ⟨forKL g s1 P bk rt xs, rt, bk, forKL g s1 P bk rt xs⟩ σ' H'
instance i_forKL {P : K0} : St1 (forKL g s1 P bk rt (x :: xs) σ H) (g x σ H fun σ' H' => s1 ⟨forKL g s1 P bk rt xs, rt, bk, forKL g s1 P bk rt xs⟩ σ' H') := ⟨id⟩
instance i_forKL0 {P : K0} : St1 (forKL g s1 P bk rt [] σ H) (P σ H) := ⟨id⟩
theorem forRU (n : Nat) (ej : j = (n : Int)) (hn : n < 1000) (exs : (List.range n).map (fun (i : Nat) => V.int (0 + (i : Int))) = xs) (h : forKL g s1 nx nx rt xs σ H) : ForR g s1 nx rt 0 j σ H := by
  subst ej exs
  have e62 : (2 : Int) ^ 62 = 4611686018427387904 := by decide
  refine ⟨⟨by rw [e62]; decide, by rw [e62]; decide, by rw [e62]; omega, by rw [e62]; omega⟩, fun i σ H => forKL g s1 nx nx rt (((List.range n).map (fun (i : Nat) => V.int (0 + (i : Int)))).drop i) σ H, by (dsimp only; rw [List.drop_zero]; exact h), fun i σ H hi q => ?_, fun σ H q => ?_⟩
  · dsimp only at q
    have hl : i < ((List.range n).map (fun (i : Nat) => V.int (0 + (i : Int)))).length := by rw [List.length_map, List.length_range]; omega
    rw [List.drop_eq_getElem_cons hl] at q
    rw [List.getElem_map, List.getElem_range] at q
    exact q
  · have e1 : ((n : Int) - 0).toNat = n := by omega
    dsimp only at q
    rw [e1, List.drop_of_length_le (by rw [List.length_map, List.length_range]; exact Nat.le_refl _)] at q
    exact q
instance i_forRU [Unr] {n : Nat} [r : RgE j n xs] : St1 (ForR g s1 nx rt 0 j σ H) (forKL g s1 nx nx rt xs σ H) := ⟨fun h => forRU n r.j r.l r.e h⟩
instance i_lcRU [Unr] {tt : TT} {tel : TE} {us : List Nat} {σw : L2.St} {n : Nat} [F : FH H L] [r : RgE j n xs] [e : WipeE σ us σw] : St1 (LcR g tt tel us Q (.int j) σ H) (∀ D H', FH H' ((D, Is (.lst [])) :: L) → lcKR g tt tel us σw D Q xs H') := ⟨fun h => lcRU n r.j (by have := r.l; omega) r.e F e.e h⟩
instance i_lcLU [Unr] {tt : TT} {tel : TE} {us : List Nat} {σw : L2.St} [F : FH H L] [a : Mm (p, Is (.lst xs)) L] [l : Lit xs] [e : WipeE σ us σw] : St1 (LcS S g tt tel us Q (.ref p) σ H) (∀ D H', FH H' ((D, Is (.lst [])) :: L) → lcKS S p (.lst xs) g tt tel us σw D Q xs H') := ⟨fun h => lcLU F a.m e.e h⟩
theorem lcSU {tt : TT} {tel : TE} {vs : List Nat} {σw : L2.St} (F : FH H L) (st : S p (.tup xs)) (ew : wipe σ vs = σw) (h : ∀ D H', FH H' ((D, Is (.lst [])) :: L) → lcKS S p (.tup xs) g tt tel vs σw D Q xs H') : LcS S g tt tel vs Q (.ref p) σ H := by
  subst ew
  refine ⟨p, xs, rfl, false, .inr st, fun D hD => ⟨fun i H => RdS S H p (.tup xs) ∧ lcKS S p (.tup xs) g tt tel vs (wipe σ vs) D Q (xs.drop i) H, ⟨.inr st, by rw [List.drop_zero]; exact h D _ (F.new hD)⟩, fun i H _ q => q.1, fun i y H e q => ?_, fun H q => ?_⟩⟩
  · obtain ⟨_, q⟩ := q
    have hi := (List.getElem?_eq_some_iff.mp e)
    rw [List.drop_eq_getElem_cons hi.1, hi.2] at q
    exact q
  · obtain ⟨_, q⟩ := q
    rw [List.drop_length] at q
    exact q
instance i_lcSU [Unr] {tt : TT} {tel : TE} {us : List Nat} {σw : L2.St} [F : FH H L] [a : StT S p xs] [e : WipeE σ us σw] : St1 (LcS S g tt tel us Q (.ref p) σ H) (∀ D H', FH H' ((D, Is (.lst [])) :: L) → lcKS S p (.tup xs) g tt tel us σw D Q xs H') := ⟨fun h => lcSU F a.s e.e h⟩
instance i_forLU [Unr] [F : FH H L] [a : Mm (p, Is (.lst xs)) L] [l : Lit xs] : St1 (ForS S g s1 nx rt (.ref p) σ H) (forKS S p (.lst xs) g s1 nx nx rt xs σ H) := ⟨fun h => forLU F a.m h⟩
instance rg0 : RgE 0 0 [] := ⟨rfl, by decide, rfl⟩
instance rg1 : RgE 1 1 [.int 0] := ⟨rfl, by decide, rfl⟩
instance rg2 : RgE 2 2 [.int 0, .int 1] := ⟨rfl, by decide, rfl⟩
instance rg3 : RgE 3 3 [.int 0, .int 1, .int 2] := ⟨rfl, by decide, rfl⟩
instance rg4 : RgE 4 4 [.int 0, .int 1, .int 2, .int 3] := ⟨rfl, by decide, rfl⟩
instance rg5 : RgE 5 5 [.int 0, .int 1, .int 2, .int 3, .int 4] := ⟨rfl, by decide, rfl⟩
instance rg6 : RgE 6 6 [.int 0, .int 1, .int 2, .int 3, .int 4, .int 5] := ⟨rfl, by decide, rfl⟩
instance rg7 : RgE 7 7 [.int 0, .int 1, .int 2, .int 3, .int 4, .int 5, .int 6] := ⟨rfl, by decide, rfl⟩
instance rg8 : RgE 8 8 [.int 0, .int 1, .int 2, .int 3, .int 4, .int 5, .int 6, .int 7] := ⟨rfl, by decide, rfl⟩
instance rg9 : RgE 9 9 [.int 0, .int 1, .int 2, .int 3, .int 4, .int 5, .int 6, .int 7, .int 8] := ⟨rfl, by decide, rfl⟩
instance rg10 : RgE 10 10 [.int 0, .int 1, .int 2, .int 3, .int 4, .int 5, .int 6, .int 7, .int 8, .int 9] := ⟨rfl, by decide, rfl⟩
instance rg11 : RgE 11 11 [.int 0, .int 1, .int 2, .int 3, .int 4, .int 5, .int 6, .int 7, .int 8, .int 9, .int 10] := ⟨rfl, by decide, rfl⟩
instance rg12 : RgE 12 12 [.int 0, .int 1, .int 2, .int 3, .int 4, .int 5, .int 6, .int 7, .int 8, .int 9, .int 10, .int 11] := ⟨rfl, by decide, rfl⟩
instance rg13 : RgE 13 13 [.int 0, .int 1, .int 2, .int 3, .int 4, .int 5, .int 6, .int 7, .int 8, .int 9, .int 10, .int 11, .int 12] := ⟨rfl, by decide, rfl⟩
instance rg14 : RgE 14 14 [.int 0, .int 1, .int 2, .int 3, .int 4, .int 5, .int 6, .int 7, .int 8, .int 9, .int 10, .int 11, .int 12, .int 13] := ⟨rfl, by decide, rfl⟩
instance rg15 : RgE 15 15 [.int 0, .int 1, .int 2, .int 3, .int 4, .int 5, .int 6, .int 7, .int 8, .int 9, .int 10, .int 11, .int 12, .int 13, .int 14] := ⟨rfl, by decide, rfl⟩
instance rg16 : RgE 16 16 [.int 0, .int 1, .int 2, .int 3, .int 4, .int 5, .int 6, .int 7, .int 8, .int 9, .int 10, .int 11, .int 12, .int 13, .int 14, .int 15] := ⟨rfl, by decide, rfl⟩
/-! heads -/
class HdAr (G : Prop) : Prop where
  t : True
theorem hdAr_is {G : Prop} [HdAr G] (h : G) : G := h
class HdIx (G : Prop) : Prop where
  t : True
theorem hdIx_is {G : Prop} [HdIx G] (h : G) : G := h
class HdEq (G : Prop) : Prop where
  t : True
theorem hdEq_is {G : Prop} [HdEq G] (h : G) : G := h
class HdIn (G : Prop) : Prop where
  t : True
theorem hdIn_is {G : Prop} [HdIn G] (h : G) : G := h
class HdTy (G : Prop) : Prop where
  t : True
theorem hdTy_is {G : Prop} [HdTy G] (h : G) : G := h
class HdFm (G : Prop) : Prop where
  t : True
theorem hdFm_is {G : Prop} [HdFm G] (h : G) : G := h
class HdK (G : Prop) : Prop where
  t : True
theorem hdK_is {G : Prop} [HdK G] (h : G) : G := h
instance hd0 : HdIx (rIx S x y H Q) := ⟨trivial⟩
instance hd1 : HdIx (rLen S xs H Q) := ⟨trivial⟩
instance hd2 : HdIx (rSl S x lo hi H Q) := ⟨trivial⟩
instance hd3 : HdEq (rEqP S x y H Q) := ⟨trivial⟩
instance hd4 : HdEq (rNeP S x y H Q) := ⟨trivial⟩
instance hd5 : HdEq (rEq x y H Q) := ⟨trivial⟩
instance hd6 : HdEq (rNe x y H Q) := ⟨trivial⟩
instance hd7 : HdAr (rMul x y H Q) := ⟨trivial⟩
instance hd8 : HdAr (rFdiv x y H Q) := ⟨trivial⟩
instance hd9 : HdAr (rMod x y H Q) := ⟨trivial⟩
instance hd10 : HdAr (rPow x y H Q) := ⟨trivial⟩
instance hd11 : HdAr (rShl x y H Q) := ⟨trivial⟩
instance hd12 : HdAr (rStrI xs H Q) := ⟨trivial⟩
instance hd13 : HdIn (rInA S b x y H Q) := ⟨trivial⟩
instance hd14 : Hd (rSum S xs H Q) := ⟨trivial⟩
instance hd15 : Hd (rAll S xs H Q) := ⟨trivial⟩
instance hd16 : Hd (rAdd x y H Q) := ⟨trivial⟩
instance hd17 : HdTy (rIsI xs H Q) := ⟨trivial⟩
instance hd18 {tbl : List (Value × V × Bool)} {a : Value} {z : Option Addr} : Hd (rIsX tbl C a z xs H Q) := ⟨trivial⟩
instance hd19 : Hd (rGetL x y H Q) := ⟨trivial⟩
instance hd20 {QH : Hp → Prop} : Hd (rSetL x y v H QH) := ⟨trivial⟩
instance hd21 : Hd (Klst xs H Q) := ⟨trivial⟩
instance hd22 : Hd (Ktup xs H Q) := ⟨trivial⟩
instance hd23 {QH : Hp → Prop} : Hd (lcPut p v QH H) := ⟨trivial⟩
instance hd24 : Hd (rAppend x xs H Q) := ⟨trivial⟩
instance hd25 : Hd (tSupM Cs sp E tl σ H Q) := ⟨trivial⟩
instance hd26 {QK : Bool → Prop} : HdK (KBl x QK) := ⟨trivial⟩
instance hd27 {QK : Int → Prop} : HdK (KIn x QK) := ⟨trivial⟩
instance hd28 : HdK (KFl C f x H Q) := ⟨trivial⟩
instance hd29 : HdK (KFlD Cs f x H Q) := ⟨trivial⟩
instance hd30 {QH : Hp → Prop} : HdK (KSf C f x y H QH) := ⟨trivial⟩
instance hd31 {QH : Hp → Prop} : HdK (KSfD Cs f x y H QH) := ⟨trivial⟩
instance hd32 {QAV : Addr → V → Prop} : HdK (KAf C f x H QAV) := ⟨trivial⟩
instance hd33 {QH : Hp → Prop} : HdK (KAs C f p x H QH) := ⟨trivial⟩
instance hd34 {QAV : Addr → Addr → V → Prop} : HdK (KAfD Cs f x H QAV) := ⟨trivial⟩
instance hd35 : HdK (KMe C m x H B) := ⟨trivial⟩
instance hd36 {QB2 : Sp → Prop} : HdK (KMD ls m x H QB2) := ⟨trivial⟩
instance hd37 {QA : Addr → Prop} : HdK (KPr C x H QA) := ⟨trivial⟩
instance hd38 {QA : Addr → Sp → Prop} : HdK (KPrD ls x H QA) := ⟨trivial⟩
instance hd39 : HdK (KAp x H B) := ⟨trivial⟩
instance hd40 {tab : List (Value × Nat)} {cl : List Sui} {D : Ends} {cls : Value} {d : Option Addr} : Hd (wT tab cl D cls d σ H) := ⟨trivial⟩
instance hd41 : Hd (A ∧ B) := ⟨trivial⟩
instance hd42 : HdFm (KFm xs A) := ⟨trivial⟩
instance hd43 : Hd (rIsT xs H Q) := ⟨trivial⟩
instance hd44 : Hd (rIns x xs H Q) := ⟨trivial⟩
instance hd45 : Hd (rListOf S xs H Q) := ⟨trivial⟩
instance hd46 : Hd (rTupleOf S xs H Q) := ⟨trivial⟩
instance hd47 {D : Addr} {tbl : List (Addr × Bool)} : Hd (rIsO D tbl xs H Q) := ⟨trivial⟩
instance hd48 {l : List (Addr × V)} : HdK (KCo l f x H Q) := ⟨trivial⟩
instance hd49 : Hd (rIsS S xs H Q) := ⟨trivial⟩
instance hd50 : HdK (KIdx x H B) := ⟨trivial⟩
instance hd51 : Hd (rIdx x xs H Q) := ⟨trivial⟩
end
end Y

namespace Y.k55
open PySem PySem.Spec PyProof.Rows L2
/-! ### the readings -/
structure Cl where
  S : Sta
def t_bag (a : Cl) (E : XK) : TS :=
  (tRet (tLst (tCons (eLc a.S (L2.tSl (rSl a.S) (tVar 0) tNoPart (tPart (tC (.int 63)))) (gName 1) tYes (tCB rInt (tCons (tVar 1) tNil)) [1]) (tCons (tC (.int 0)) (tCons (tC (.int 0)) (tCons (tC (.int 0)) tNil))))))
def sp_bag (a : Cl) : Sp := spB 2 1 (t_bag a)
theorem in_bag {a : Cl} {v0 : V} {H : Hp} {Q : VK} {E : XK} (h : (tRet (tLst (tCons (eLc a.S (L2.tSl (rSl a.S) (tVar 0) tNoPart (tPart (tC (.int 63)))) (gName 1) tYes (tCB rInt (tCons (tVar 1) tNil)) [1]) (tCons (tC (.int 0)) (tCons (tC (.int 0)) (tCons (tC (.int 0)) tNil)))))) ⟨fun _ H' => Q .non H', Q, fun _ _ => False, fun _ _ => False⟩ [some v0, none] H) : sp_bag a [v0] H Q E := ⟨rfl, h⟩
def t_repeats_mark (a : Cl) (E : XK) : TS :=
  (tSeq (sFor a.S (tVar 1) (gName 2) (tIfS (tAnd (tTest (tOp (rEqP a.S) (tOp (rIx a.S) (tVar 2) (tC (.int 0))) (tOp (rIx a.S) (tVar 0) (tC (.int 0))))) (tTest (tOp (rEqP a.S) (tOp (rIx a.S) (tVar 2) (tC (.int 1))) (tOp (rIx a.S) (tVar 0) (tC (.int 1)))))) (tRet (tC (.bl true))) tNext))
    (tRet (tC (.bl false))))
def sp_repeats_mark (a : Cl) : Sp := spB 3 2 (t_repeats_mark a)
theorem in_repeats_mark {a : Cl} {v0 v1 : V} {H : Hp} {Q : VK} {E : XK} (h : (tSeq (sFor a.S (tVar 1) (gName 2) (tIfS (tAnd (tTest (tOp (rEqP a.S) (tOp (rIx a.S) (tVar 2) (tC (.int 0))) (tOp (rIx a.S) (tVar 0) (tC (.int 0))))) (tTest (tOp (rEqP a.S) (tOp (rIx a.S) (tVar 2) (tC (.int 1))) (tOp (rIx a.S) (tVar 0) (tC (.int 1)))))) (tRet (tC (.bl true))) tNext))
    (tRet (tC (.bl false)))) ⟨fun _ H' => Q .non H', Q, fun _ _ => False, fun _ _ => False⟩ [some v0, some v1, none] H) : sp_repeats_mark a [v0, v1] H Q E := ⟨rfl, h⟩
def t_has_read (a : Cl) (E : XK) : TS :=
  (tRet (tOp rGt (tCB (rLen a.S) (tCons (tOp (rIx a.S) (tVar 0) (tC (.int 4))) tNil)) (tC (.int 0))))
def sp_has_read (a : Cl) : Sp := spB 1 1 (t_has_read a)
theorem in_has_read {a : Cl} {v0 : V} {H : Hp} {Q : VK} {E : XK} (h : (tRet (tOp rGt (tCB (rLen a.S) (tCons (tOp (rIx a.S) (tVar 0) (tC (.int 4))) tNil)) (tC (.int 0)))) ⟨fun _ H' => Q .non H', Q, fun _ _ => False, fun _ _ => False⟩ [some v0] H) : sp_has_read a [v0] H Q E := ⟨rfl, h⟩
def t_repeats_peer (a : Cl) (E : XK) : TS :=
  (tSeq (tIfS (tNot (tB (tCall (sp_has_read a) [] E (tCons (tVar 0) tNil)))) (tRet (tC (.bl false))) tNext)
    (tSeq (sFor a.S (tVar 1) (gName 2) (tIfS (tAnd (tTest (tOp (rEqP a.S) (tOp (rIx a.S) (tVar 2) (tC (.int 0))) (tOp (rIx a.S) (tVar 0) (tC (.int 0))))) (tAnd (tTest (tOp (rEqP a.S) (tOp (rIx a.S) (tVar 2) (tC (.int 2))) (tOp (rIx a.S) (tVar 0) (tC (.int 2))))) (tB (tCall (sp_has_read a) [] E (tCons (tVar 2) tNil))))) (tRet (tC (.bl true))) tNext))
    (tRet (tC (.bl false)))))
def sp_repeats_peer (a : Cl) : Sp := spB 3 2 (t_repeats_peer a)
theorem in_repeats_peer {a : Cl} {v0 v1 : V} {H : Hp} {Q : VK} {E : XK} (h : (tSeq (tIfS (tNot (tB (tCall (sp_has_read a) [] E (tCons (tVar 0) tNil)))) (tRet (tC (.bl false))) tNext)
    (tSeq (sFor a.S (tVar 1) (gName 2) (tIfS (tAnd (tTest (tOp (rEqP a.S) (tOp (rIx a.S) (tVar 2) (tC (.int 0))) (tOp (rIx a.S) (tVar 0) (tC (.int 0))))) (tAnd (tTest (tOp (rEqP a.S) (tOp (rIx a.S) (tVar 2) (tC (.int 2))) (tOp (rIx a.S) (tVar 0) (tC (.int 2))))) (tB (tCall (sp_has_read a) [] E (tCons (tVar 2) tNil))))) (tRet (tC (.bl true))) tNext))
    (tRet (tC (.bl false))))) ⟨fun _ H' => Q .non H', Q, fun _ _ => False, fun _ _ => False⟩ [some v0, some v1, none] H) : sp_repeats_peer a [v0, v1] H Q E := ⟨rfl, h⟩
def t_partner_of (a : Cl) (E : XK) : TS :=
  (tSeq (sFor a.S (tVar 1) (gName 2) (tIfS (tAnd (tTest (tOp (rNeP a.S) (tOp (rIx a.S) (tVar 2) (tC (.int 0))) (tOp (rIx a.S) (tVar 0) (tC (.int 0))))) (tAnd (tTest (tOp (rEqP a.S) (tOp (rIx a.S) (tVar 2) (tC (.int 1))) (tOp (rIx a.S) (tVar 0) (tC (.int 2))))) (tTest (tOp (rEqP a.S) (tOp (rIx a.S) (tVar 2) (tC (.int 2))) (tOp (rIx a.S) (tVar 0) (tC (.int 1))))))) (tRet (tVar 2)) tNext))
    (tRet (tC .non)))
def sp_partner_of (a : Cl) : Sp := spB 3 2 (t_partner_of a)
theorem in_partner_of {a : Cl} {v0 v1 : V} {H : Hp} {Q : VK} {E : XK} (h : (tSeq (sFor a.S (tVar 1) (gName 2) (tIfS (tAnd (tTest (tOp (rNeP a.S) (tOp (rIx a.S) (tVar 2) (tC (.int 0))) (tOp (rIx a.S) (tVar 0) (tC (.int 0))))) (tAnd (tTest (tOp (rEqP a.S) (tOp (rIx a.S) (tVar 2) (tC (.int 1))) (tOp (rIx a.S) (tVar 0) (tC (.int 2))))) (tTest (tOp (rEqP a.S) (tOp (rIx a.S) (tVar 2) (tC (.int 2))) (tOp (rIx a.S) (tVar 0) (tC (.int 1))))))) (tRet (tVar 2)) tNext))
    (tRet (tC .non))) ⟨fun _ H' => Q .non H', Q, fun _ _ => False, fun _ _ => False⟩ [some v0, some v1, none] H) : sp_partner_of a [v0, v1] H Q E := ⟨rfl, h⟩
def t_is_prefix (a : Cl) (E : XK) : TS :=
  (tRet (tOp (rEqP a.S) (tCB (rTupleOf a.S) (tCons (L2.tSl (rTSl a.S) (tVar 1) tNoPart (tPart (tCB (rLen a.S) (tCons (tVar 0) tNil)))) tNil)) (tCB (rTupleOf a.S) (tCons (tVar 0) tNil))))
def sp_is_prefix (a : Cl) : Sp := spB 2 2 (t_is_prefix a)
theorem in_is_prefix {a : Cl} {v0 v1 : V} {H : Hp} {Q : VK} {E : XK} (h : (tRet (tOp (rEqP a.S) (tCB (rTupleOf a.S) (tCons (L2.tSl (rTSl a.S) (tVar 1) tNoPart (tPart (tCB (rLen a.S) (tCons (tVar 0) tNil)))) tNil)) (tCB (rTupleOf a.S) (tCons (tVar 0) tNil)))) ⟨fun _ H' => Q .non H', Q, fun _ _ => False, fun _ _ => False⟩ [some v0, some v1] H) : sp_is_prefix a [v0, v1] H Q E := ⟨rfl, h⟩
def t_broken_rule (a : Cl) (E : XK) : TS :=
  (tSeq (tIfS (tB (tCall (sp_repeats_mark a) [] E (tCons (tVar 0) (tCons (tVar 1) tNil)))) (tRet (tC (.str "mark"))) tNext)
    (tSeq (tIfS (tB (tCall (sp_repeats_peer a) [] E (tCons (tVar 0) (tCons (tVar 1) tNil)))) (tRet (tC (.str "peer"))) tNext)
    (tSeq (tIfS (tNot (tB (tCall (sp_has_read a) [] E (tCons (tVar 0) tNil)))) (tRet (tC .non)) tNext)
    (tSeq (tAsg (tCall (sp_partner_of a) [] E (tCons (tVar 0) (tCons (tVar 2) tNil))) (gName 3))
    (tSeq (tIfS (tTest (tOp rIs (tVar 3) (tC .non))) (tRet (tC (.str "pair"))) tNext)
    (tSeq (tIfS (tNot (tB (tCall (sp_is_prefix a) [] E (tCons (tOp (rIx a.S) (tVar 0) (tC (.int 4))) (tCons (tOp (rIx a.S) (tVar 3) (tC (.int 3))) tNil))))) (tRet (tC (.str "prefix"))) tNext)
    (tRet (tC .non))))))))
def sp_broken_rule (a : Cl) : Sp := spB 4 3 (t_broken_rule a)
theorem in_broken_rule {a : Cl} {v0 v1 v2 : V} {H : Hp} {Q : VK} {E : XK} (h : (tSeq (tIfS (tB (tCall (sp_repeats_mark a) [] E (tCons (tVar 0) (tCons (tVar 1) tNil)))) (tRet (tC (.str "mark"))) tNext)
    (tSeq (tIfS (tB (tCall (sp_repeats_peer a) [] E (tCons (tVar 0) (tCons (tVar 1) tNil)))) (tRet (tC (.str "peer"))) tNext)
    (tSeq (tIfS (tNot (tB (tCall (sp_has_read a) [] E (tCons (tVar 0) tNil)))) (tRet (tC .non)) tNext)
    (tSeq (tAsg (tCall (sp_partner_of a) [] E (tCons (tVar 0) (tCons (tVar 2) tNil))) (gName 3))
    (tSeq (tIfS (tTest (tOp rIs (tVar 3) (tC .non))) (tRet (tC (.str "pair"))) tNext)
    (tSeq (tIfS (tNot (tB (tCall (sp_is_prefix a) [] E (tCons (tOp (rIx a.S) (tVar 0) (tC (.int 4))) (tCons (tOp (rIx a.S) (tVar 3) (tC (.int 3))) tNil))))) (tRet (tC (.str "prefix"))) tNext)
    (tRet (tC .non)))))))) ⟨fun _ H' => Q .non H', Q, fun _ _ => False, fun _ _ => False⟩ [some v0, some v1, some v2, none] H) : sp_broken_rule a [v0, v1, v2] H Q E := ⟨rfl, h⟩
def t_unsound (a : Cl) (E : XK) : TS :=
  (tSeq (sForEn a.S (tVar 0) (gName 1) (gName 2) (tSeq (tAsg (tCall (sp_broken_rule a) [] E (tCons (tVar 2) (tCons (L2.tSl (rSl a.S) (tVar 0) tNoPart (tPart (tVar 1))) (tCons (tVar 0) tNil)))) (gName 3))
    (tIfS (tTest (tOp rIsNot (tVar 3) (tC .non))) (tRet (tTup (tCons (tVar 1) (tCons (tVar 3) tNil)))) tNext)))
    (tRet (tC .non)))
def sp_unsound (a : Cl) : Sp := spB 4 1 (t_unsound a)
theorem in_unsound {a : Cl} {v0 : V} {H : Hp} {Q : VK} {E : XK} (h : (tSeq (sForEn a.S (tVar 0) (gName 1) (gName 2) (tSeq (tAsg (tCall (sp_broken_rule a) [] E (tCons (tVar 2) (tCons (L2.tSl (rSl a.S) (tVar 0) tNoPart (tPart (tVar 1))) (tCons (tVar 0) tNil)))) (gName 3))
    (tIfS (tTest (tOp rIsNot (tVar 3) (tC .non))) (tRet (tTup (tCons (tVar 1) (tCons (tVar 3) tNil)))) tNext)))
    (tRet (tC .non))) ⟨fun _ H' => Q .non H', Q, fun _ _ => False, fun _ _ => False⟩ [some v0, none, none, none] H) : sp_unsound a [v0] H Q E := ⟨rfl, h⟩
def t_broken (a : Cl) (E : XK) : TS :=
  (tSeq (tAsg (tOp (rIx a.S) (tVar 0) (tVar 1)) (gName 2))
    (tSeq (tAsg (eLc a.S (L2.tSl (rSl a.S) (tVar 0) tNoPart (tPart (tVar 1))) (gName 4) (tTest (tOp (rEqP a.S) (tOp (rIx a.S) (tVar 4) (tC (.int 0))) (tOp (rIx a.S) (tVar 2) (tC (.int 0))))) (tVar 4) [4]) (gName 3))
    (tSeq (tIfS (tTest (tOp (rNeP a.S) (eLc a.S (tVar 3) (gName 4) (tTest (tOp (rEqP a.S) (tOp (rIx a.S) (tVar 4) (tC (.int 1))) (tOp (rIx a.S) (tVar 2) (tC (.int 1))))) (tVar 4) [4]) (tLst tNil))) (tRet (tC (.str "mark"))) tNext)
    (tSeq (tIfS (tTest (tOp (rEqP a.S) (tCB (rLen a.S) (tCons (tOp (rIx a.S) (tVar 2) (tC (.int 4))) tNil)) (tC (.int 0)))) (tRet (tC (.str ""))) tNext)
    (tSeq (tIfS (tTest (tOp (rNeP a.S) (eLc a.S (tVar 3) (gName 4) (tAnd (tTest (tOp (rEqP a.S) (tOp (rIx a.S) (tVar 4) (tC (.int 2))) (tOp (rIx a.S) (tVar 2) (tC (.int 2))))) (tTest (tOp rGt (tCB (rLen a.S) (tCons (tOp (rIx a.S) (tVar 4) (tC (.int 4))) tNil)) (tC (.int 0))))) (tVar 4) [4]) (tLst tNil))) (tRet (tC (.str "peer"))) tNext)
    (tSeq (tAsg (eLc a.S (tVar 0) (gName 4) (tAnd (tTest (tOp (rNeP a.S) (tOp (rIx a.S) (tVar 4) (tC (.int 0))) (tOp (rIx a.S) (tVar 2) (tC (.int 0))))) (tAnd (tTest (tOp (rEqP a.S) (tOp (rIx a.S) (tVar 4) (tC (.int 1))) (tOp (rIx a.S) (tVar 2) (tC (.int 2))))) (tTest (tOp (rEqP a.S) (tOp (rIx a.S) (tVar 4) (tC (.int 2))) (tOp (rIx a.S) (tVar 2) (tC (.int 1))))))) (tVar 4) [4]) (gName 5))
    (tSeq (tIfS (tTest (tOp (rEqP a.S) (tVar 5) (tLst tNil))) (tRet (tC (.str "pair"))) tNext)
    (tSeq (tIfS (tTest (tOp (rNeP a.S) (L2.tSl (rTSl a.S) (tOp (rIx a.S) (tOp (rIx a.S) (tVar 5) (tC (.int 0))) (tC (.int 3))) tNoPart (tPart (tCB (rLen a.S) (tCons (tOp (rIx a.S) (tVar 2) (tC (.int 4))) tNil)))) (tOp (rIx a.S) (tVar 2) (tC (.int 4))))) (tRet (tC (.str "prefix"))) tNext)
    (tRet (tC (.str "")))))))))))
def sp_broken (a : Cl) : Sp := spB 6 2 (t_broken a)
theorem in_broken {a : Cl} {v0 v1 : V} {H : Hp} {Q : VK} {E : XK} (h : (tSeq (tAsg (tOp (rIx a.S) (tVar 0) (tVar 1)) (gName 2))
    (tSeq (tAsg (eLc a.S (L2.tSl (rSl a.S) (tVar 0) tNoPart (tPart (tVar 1))) (gName 4) (tTest (tOp (rEqP a.S) (tOp (rIx a.S) (tVar 4) (tC (.int 0))) (tOp (rIx a.S) (tVar 2) (tC (.int 0))))) (tVar 4) [4]) (gName 3))
    (tSeq (tIfS (tTest (tOp (rNeP a.S) (eLc a.S (tVar 3) (gName 4) (tTest (tOp (rEqP a.S) (tOp (rIx a.S) (tVar 4) (tC (.int 1))) (tOp (rIx a.S) (tVar 2) (tC (.int 1))))) (tVar 4) [4]) (tLst tNil))) (tRet (tC (.str "mark"))) tNext)
    (tSeq (tIfS (tTest (tOp (rEqP a.S) (tCB (rLen a.S) (tCons (tOp (rIx a.S) (tVar 2) (tC (.int 4))) tNil)) (tC (.int 0)))) (tRet (tC (.str ""))) tNext)
    (tSeq (tIfS (tTest (tOp (rNeP a.S) (eLc a.S (tVar 3) (gName 4) (tAnd (tTest (tOp (rEqP a.S) (tOp (rIx a.S) (tVar 4) (tC (.int 2))) (tOp (rIx a.S) (tVar 2) (tC (.int 2))))) (tTest (tOp rGt (tCB (rLen a.S) (tCons (tOp (rIx a.S) (tVar 4) (tC (.int 4))) tNil)) (tC (.int 0))))) (tVar 4) [4]) (tLst tNil))) (tRet (tC (.str "peer"))) tNext)
    (tSeq (tAsg (eLc a.S (tVar 0) (gName 4) (tAnd (tTest (tOp (rNeP a.S) (tOp (rIx a.S) (tVar 4) (tC (.int 0))) (tOp (rIx a.S) (tVar 2) (tC (.int 0))))) (tAnd (tTest (tOp (rEqP a.S) (tOp (rIx a.S) (tVar 4) (tC (.int 1))) (tOp (rIx a.S) (tVar 2) (tC (.int 2))))) (tTest (tOp (rEqP a.S) (tOp (rIx a.S) (tVar 4) (tC (.int 2))) (tOp (rIx a.S) (tVar 2) (tC (.int 1))))))) (tVar 4) [4]) (gName 5))
    (tSeq (tIfS (tTest (tOp (rEqP a.S) (tVar 5) (tLst tNil))) (tRet (tC (.str "pair"))) tNext)
    (tSeq (tIfS (tTest (tOp (rNeP a.S) (L2.tSl (rTSl a.S) (tOp (rIx a.S) (tOp (rIx a.S) (tVar 5) (tC (.int 0))) (tC (.int 3))) tNoPart (tPart (tCB (rLen a.S) (tCons (tOp (rIx a.S) (tVar 2) (tC (.int 4))) tNil)))) (tOp (rIx a.S) (tVar 2) (tC (.int 4))))) (tRet (tC (.str "prefix"))) tNext)
    (tRet (tC (.str ""))))))))))) ⟨fun _ H' => Q .non H', Q, fun _ _ => False, fun _ _ => False⟩ [some v0, some v1, none, none, none, none] H) : sp_broken a [v0, v1] H Q E := ⟨rfl, h⟩
def t_is_whole (a : Cl) (E : XK) : TS :=
  (tRet (tAndV (tCB rIsI (tCons (tVar 0) (tCons (tC (.ty "int")) tNil))) (tNotV (tCB rIsI (tCons (tVar 0) (tCons (tC (.ty "bool")) tNil))))))
def sp_is_whole (a : Cl) : Sp := spB 1 1 (t_is_whole a)
theorem in_is_whole {a : Cl} {v0 : V} {H : Hp} {Q : VK} {E : XK} (h : (tRet (tAndV (tCB rIsI (tCons (tVar 0) (tCons (tC (.ty "int")) tNil))) (tNotV (tCB rIsI (tCons (tVar 0) (tCons (tC (.ty "bool")) tNil)))))) ⟨fun _ H' => Q .non H', Q, fun _ _ => False, fun _ _ => False⟩ [some v0] H) : sp_is_whole a [v0] H Q E := ⟨rfl, h⟩
def t_holds (a : Cl) (E : XK) : TS :=
  (tSeq (tAsg (tCB (rListOf a.S) (tCons (tVar 0) tNil)) (gName 1))
    (tSeq (tAsg (tCB (rRepr a.S) (tCons (tVar 1) tNil)) (gName 2))
    (tSeq (tAsg (tCall (sp_unsound a) [] E (tCons (tVar 1) tNil)) (gName 3))
    (tSeq (tIfS (tTest (tOp (rNeP a.S) (tCB (rRepr a.S) (tCons (tVar 1) tNil)) (tVar 2))) (tRet (tC (.bl false))) tNext)
    (tSeq (sForR none (tCB (rLen a.S) (tCons (tVar 0) tNil)) (gName 4) (tSeq (tAsg (tCall (sp_broken a) [] E (tCons (tVar 0) (tCons (tVar 4) tNil))) (gName 5))
    (tIfS (tTest (tOp (rNeP a.S) (tVar 5) (tC (.str "")))) (tSeq (tIfS (tOr (tNot (tB (tCB rIsI (tCons (tVar 3) (tCons (tC (.ty "tuple")) tNil))))) (tOr (tTest (tOp (rNeP a.S) (tCB (rLen a.S) (tCons (tVar 3) tNil)) (tC (.int 2)))) (tNot (tB (tCB rIsI (tCons (tOp (rIx a.S) (tVar 3) (tC (.int 1))) (tCons (tC (.ty "str")) tNil))))))) (tRet (tC (.bl false))) tNext)
    (tRet (tAndV (tCall (sp_is_whole a) [] E (tCons (tOp (rIx a.S) (tVar 3) (tC (.int 0))) tNil)) (tAndV (tOp (rEqP a.S) (tOp (rIx a.S) (tVar 3) (tC (.int 0))) (tVar 4)) (tOp (rEqP a.S) (tOp (rIx a.S) (tVar 3) (tC (.int 1))) (tVar 5)))))) tNext)))
    (tRet (tOp rIs (tVar 3) (tC .non))))))))
def sp_holds (a : Cl) : Sp := spB 6 1 (t_holds a)
theorem in_holds {a : Cl} {v0 : V} {H : Hp} {Q : VK} {E : XK} (h : (tSeq (tAsg (tCB (rListOf a.S) (tCons (tVar 0) tNil)) (gName 1))
    (tSeq (tAsg (tCB (rRepr a.S) (tCons (tVar 1) tNil)) (gName 2))
    (tSeq (tAsg (tCall (sp_unsound a) [] E (tCons (tVar 1) tNil)) (gName 3))
    (tSeq (tIfS (tTest (tOp (rNeP a.S) (tCB (rRepr a.S) (tCons (tVar 1) tNil)) (tVar 2))) (tRet (tC (.bl false))) tNext)
    (tSeq (sForR none (tCB (rLen a.S) (tCons (tVar 0) tNil)) (gName 4) (tSeq (tAsg (tCall (sp_broken a) [] E (tCons (tVar 0) (tCons (tVar 4) tNil))) (gName 5))
    (tIfS (tTest (tOp (rNeP a.S) (tVar 5) (tC (.str "")))) (tSeq (tIfS (tOr (tNot (tB (tCB rIsI (tCons (tVar 3) (tCons (tC (.ty "tuple")) tNil))))) (tOr (tTest (tOp (rNeP a.S) (tCB (rLen a.S) (tCons (tVar 3) tNil)) (tC (.int 2)))) (tNot (tB (tCB rIsI (tCons (tOp (rIx a.S) (tVar 3) (tC (.int 1))) (tCons (tC (.ty "str")) tNil))))))) (tRet (tC (.bl false))) tNext)
    (tRet (tAndV (tCall (sp_is_whole a) [] E (tCons (tOp (rIx a.S) (tVar 3) (tC (.int 0))) tNil)) (tAndV (tOp (rEqP a.S) (tOp (rIx a.S) (tVar 3) (tC (.int 0))) (tVar 4)) (tOp (rEqP a.S) (tOp (rIx a.S) (tVar 3) (tC (.int 1))) (tVar 5)))))) tNext)))
    (tRet (tOp rIs (tVar 3) (tC .non)))))))) ⟨fun _ H' => Q .non H', Q, fun _ _ => False, fun _ _ => False⟩ [some v0, none, none, none, none, none] H) : sp_holds a [v0] H Q E := ⟨rfl, h⟩
def t_take (a : Cl) (E : XK) : TS :=
  (tSeq (tIfS (tTest (tOp (rEqP a.S) (tOp (rIx a.S) (tVar 0) (tC (.int 2))) (tC (.int 0)))) (tSeq (tAsg (tC (.int 0)) (gName 2))
    (tSeq (tIfS (tTest (tOp rLt (tOp (rIx a.S) (tVar 0) (tC (.int 1))) (tCB (rLen a.S) (tCons (tOp (rIx a.S) (tVar 0) (tC (.int 0))) tNil)))) (tSeq (tAsg (tCB rInt (tCons (tOp (rIx a.S) (tOp (rIx a.S) (tVar 0) (tC (.int 0))) (tOp (rIx a.S) (tVar 0) (tC (.int 1)))) tNil)) (gName 2))
    (tAsg (tOp rAdd (tOp (rIx a.S) (tVar 0) (tC (.int 1))) (tC (.int 1))) (gSub (tVar 0) (tC (.int 1)) rSetL))) tNext)
    (tSeq (tAsg (tOp rMod (tCB rInt (tCons (tOp rAdd (tOp rMul (tOp (rIx a.S) (tVar 0) (tC (.int 3))) (tC (.int 48271))) (tOp rMul (tVar 2) (tC (.int 69621)))) tNil)) (tC (.int 2147483647))) (gSub (tVar 0) (tC (.int 3)) rSetL))
    (tIfS (tTest (tOp rGe (tVar 2) (tOp rPow (tC (.int 10)) (tC (.int 18))))) (tAsg (tVar 2) (gSub (tVar 0) (tC (.int 2)) rSetL)) tNext)))) tNext)
    (tSeq (tIfS (tTest (tOp rGt (tOp (rIx a.S) (tVar 0) (tC (.int 2))) (tC (.int 0)))) (tSeq (tAsg (tOp rMod (tCB rInt (tCons (tOp (rIx a.S) (tVar 0) (tC (.int 2))) tNil)) (tVar 1)) (gName 3))
    (tSeq (tAsg (tOp rFdiv (tCB rInt (tCons (tOp (rIx a.S) (tVar 0) (tC (.int 2))) tNil)) (tVar 1)) (gSub (tVar 0) (tC (.int 2)) rSetL))
    (tRet (tVar 3)))) tNext)
    (tSeq (tAsg (tOp rMul (tOp rMod (tCB rInt (tCons (tOp (rIx a.S) (tVar 0) (tC (.int 3))) tNil)) (tC (.int 46337))) (tOp rAdd (tOp rFdiv (tCB rInt (tCons (tOp (rIx a.S) (tVar 0) (tC (.int 3))) tNil)) (tC (.int 46337))) (tC (.int 1)))) (gName 4))
    (tRet (tOp rMod (tOp rMod (tCB rInt (tCons (tVar 4) tNil)) (tC (.int 1000003))) (tVar 1))))))
def sp_take (a : Cl) : Sp := spB 5 2 (t_take a)
theorem in_take {a : Cl} {v0 v1 : V} {H : Hp} {Q : VK} {E : XK} (h : (tSeq (tIfS (tTest (tOp (rEqP a.S) (tOp (rIx a.S) (tVar 0) (tC (.int 2))) (tC (.int 0)))) (tSeq (tAsg (tC (.int 0)) (gName 2))
    (tSeq (tIfS (tTest (tOp rLt (tOp (rIx a.S) (tVar 0) (tC (.int 1))) (tCB (rLen a.S) (tCons (tOp (rIx a.S) (tVar 0) (tC (.int 0))) tNil)))) (tSeq (tAsg (tCB rInt (tCons (tOp (rIx a.S) (tOp (rIx a.S) (tVar 0) (tC (.int 0))) (tOp (rIx a.S) (tVar 0) (tC (.int 1)))) tNil)) (gName 2))
    (tAsg (tOp rAdd (tOp (rIx a.S) (tVar 0) (tC (.int 1))) (tC (.int 1))) (gSub (tVar 0) (tC (.int 1)) rSetL))) tNext)
    (tSeq (tAsg (tOp rMod (tCB rInt (tCons (tOp rAdd (tOp rMul (tOp (rIx a.S) (tVar 0) (tC (.int 3))) (tC (.int 48271))) (tOp rMul (tVar 2) (tC (.int 69621)))) tNil)) (tC (.int 2147483647))) (gSub (tVar 0) (tC (.int 3)) rSetL))
    (tIfS (tTest (tOp rGe (tVar 2) (tOp rPow (tC (.int 10)) (tC (.int 18))))) (tAsg (tVar 2) (gSub (tVar 0) (tC (.int 2)) rSetL)) tNext)))) tNext)
    (tSeq (tIfS (tTest (tOp rGt (tOp (rIx a.S) (tVar 0) (tC (.int 2))) (tC (.int 0)))) (tSeq (tAsg (tOp rMod (tCB rInt (tCons (tOp (rIx a.S) (tVar 0) (tC (.int 2))) tNil)) (tVar 1)) (gName 3))
    (tSeq (tAsg (tOp rFdiv (tCB rInt (tCons (tOp (rIx a.S) (tVar 0) (tC (.int 2))) tNil)) (tVar 1)) (gSub (tVar 0) (tC (.int 2)) rSetL))
    (tRet (tVar 3)))) tNext)
    (tSeq (tAsg (tOp rMul (tOp rMod (tCB rInt (tCons (tOp (rIx a.S) (tVar 0) (tC (.int 3))) tNil)) (tC (.int 46337))) (tOp rAdd (tOp rFdiv (tCB rInt (tCons (tOp (rIx a.S) (tVar 0) (tC (.int 3))) tNil)) (tC (.int 46337))) (tC (.int 1)))) (gName 4))
    (tRet (tOp rMod (tOp rMod (tCB rInt (tCons (tVar 4) tNil)) (tC (.int 1000003))) (tVar 1)))))) ⟨fun _ H' => Q .non H', Q, fun _ _ => False, fun _ _ => False⟩ [some v0, some v1, none, none, none] H) : sp_take a [v0, v1] H Q E := ⟨rfl, h⟩
def t_wide (a : Cl) (E : XK) : TS :=
  (tSeq (tAsg (tCall (sp_take a) [] E (tCons (tVar 0) (tCons (tC (.int 65536)) tNil))) (gName 1))
    (tRet (tOp rAdd (tOp rMul (tC (.int 65536)) (tVar 1)) (tCall (sp_take a) [] E (tCons (tVar 0) (tCons (tC (.int 65536)) tNil))))))
def sp_wide (a : Cl) : Sp := spB 2 1 (t_wide a)
theorem in_wide {a : Cl} {v0 : V} {H : Hp} {Q : VK} {E : XK} (h : (tSeq (tAsg (tCall (sp_take a) [] E (tCons (tVar 0) (tCons (tC (.int 65536)) tNil))) (gName 1))
    (tRet (tOp rAdd (tOp rMul (tC (.int 65536)) (tVar 1)) (tCall (sp_take a) [] E (tCons (tVar 0) (tCons (tC (.int 65536)) tNil)))))) ⟨fun _ H' => Q .non H', Q, fun _ _ => False, fun _ _ => False⟩ [some v0, none] H) : sp_wide a [v0] H Q E := ⟨rfl, h⟩
def t_mark (a : Cl) (E : XK) : TS :=
  (tSeq (tAsg (tCall (sp_take a) [] E (tCons (tVar 0) (tCons (tC (.int 4)) tNil))) (gName 2))
    (tSeq (tIfS (tTest (tOp (rEqP a.S) (tVar 2) (tC (.int 3)))) (tRet (tOp rAdd (tC (.int 1)) (tOp rMod (tCB rInt (tCons (tCall (sp_wide a) [] E (tCons (tVar 0) tNil)) tNil)) (tC (.int 4294967295))))) tNext)
    (tSeq (tIfS (tTest (tOp (rEqP a.S) (tVar 2) (tC (.int 2)))) (tRet (tOp rAdd (tC (.int 65537)) (tCall (sp_take a) [] E (tCons (tVar 0) (tCons (tC (.int 4)) tNil))))) tNext)
    (tRet (tOp rAdd (tC (.int 65537)) (tVar 1))))))
def sp_mark (a : Cl) : Sp := spB 3 2 (t_mark a)
theorem in_mark {a : Cl} {v0 v1 : V} {H : Hp} {Q : VK} {E : XK} (h : (tSeq (tAsg (tCall (sp_take a) [] E (tCons (tVar 0) (tCons (tC (.int 4)) tNil))) (gName 2))
    (tSeq (tIfS (tTest (tOp (rEqP a.S) (tVar 2) (tC (.int 3)))) (tRet (tOp rAdd (tC (.int 1)) (tOp rMod (tCB rInt (tCons (tCall (sp_wide a) [] E (tCons (tVar 0) tNil)) tNil)) (tC (.int 4294967295))))) tNext)
    (tSeq (tIfS (tTest (tOp (rEqP a.S) (tVar 2) (tC (.int 2)))) (tRet (tOp rAdd (tC (.int 65537)) (tCall (sp_take a) [] E (tCons (tVar 0) (tCons (tC (.int 4)) tNil))))) tNext)
    (tRet (tOp rAdd (tC (.int 65537)) (tVar 1)))))) ⟨fun _ H' => Q .non H', Q, fun _ _ => False, fun _ _ => False⟩ [some v0, some v1, none] H) : sp_mark a [v0, v1] H Q E := ⟨rfl, h⟩
def t_bytes (a : Cl) (E : XK) : TS :=
  (tRet (tCB (rTupleOf a.S) (tCons (eLcR none (tVar 1) (gName 2) tYes (tCall (sp_take a) [] E0 (tCons (tVar 0) (tCons (tC (.int 256)) tNil))) [2]) tNil)))
def sp_bytes (a : Cl) : Sp := spB 3 2 (t_bytes a)
theorem in_bytes {a : Cl} {v0 v1 : V} {H : Hp} {Q : VK} {E : XK} (h : (tRet (tCB (rTupleOf a.S) (tCons (eLcR none (tVar 1) (gName 2) tYes (tCall (sp_take a) [] E0 (tCons (tVar 0) (tCons (tC (.int 256)) tNil))) [2]) tNil))) ⟨fun _ H' => Q .non H', Q, fun _ _ => False, fun _ _ => False⟩ [some v0, some v1, none] H) : sp_bytes a [v0, v1] H Q E := ⟨rfl, h⟩
def t_couple (a : Cl) (E : XK) : TS :=
  (tSeq (tAsg (tCall (sp_mark a) [] E (tCons (tVar 0) (tCons (tVar 1) tNil))) (gName 2))
    (tSeq (tAsg (tCall (sp_mark a) [] E (tCons (tVar 0) (tCons (tOp rAdd (tVar 1) (tC (.int 1))) tNil))) (gName 3))
    (tSeq (tAsg (tCall (sp_bytes a) [] E (tCons (tVar 0) (tCons (tOp rSub (tC (.int 6)) (tCall (sp_take a) [] E (tCons (tVar 0) (tCons (tC (.int 7)) tNil)))) tNil))) (gName 4))
    (tSeq (tAsg (tCall (sp_bytes a) [] E (tCons (tVar 0) (tCons (tOp rSub (tC (.int 6)) (tCall (sp_take a) [] E (tCons (tVar 0) (tCons (tC (.int 7)) tNil)))) tNil))) (gName 5))
    (tSeq (tAsg (L2.tSl (rTSl a.S) (tVar 5) tNoPart (tPart (tOp rSub (tCB (rLen a.S) (tCons (tVar 5) tNil)) (tCall (sp_take a) [] E (tCons (tVar 0) (tCons (tOp rAdd (tCB (rLen a.S) (tCons (tVar 5) tNil)) (tC (.int 1))) tNil)))))) (gName 6))
    (tSeq (tAsg (L2.tSl (rTSl a.S) (tVar 4) tNoPart (tPart (tOp rSub (tCB (rLen a.S) (tCons (tVar 4) tNil)) (tCall (sp_take a) [] E (tCons (tVar 0) (tCons (tOp rAdd (tCB (rLen a.S) (tCons (tVar 4) tNil)) (tC (.int 1))) tNil)))))) (gName 7))
    (tRet (tLst (tCons (tTup (tCons (tC (.int 0)) (tCons (tVar 2) (tCons (tVar 3) (tCons (tVar 4) (tCons (tVar 6) tNil)))))) (tCons (tTup (tCons (tC (.int 1)) (tCons (tVar 3) (tCons (tVar 2) (tCons (tVar 5) (tCons (tVar 7) tNil)))))) tNil))))))))))
def sp_couple (a : Cl) : Sp := spB 8 2 (t_couple a)
theorem in_couple {a : Cl} {v0 v1 : V} {H : Hp} {Q : VK} {E : XK} (h : (tSeq (tAsg (tCall (sp_mark a) [] E (tCons (tVar 0) (tCons (tVar 1) tNil))) (gName 2))
    (tSeq (tAsg (tCall (sp_mark a) [] E (tCons (tVar 0) (tCons (tOp rAdd (tVar 1) (tC (.int 1))) tNil))) (gName 3))
    (tSeq (tAsg (tCall (sp_bytes a) [] E (tCons (tVar 0) (tCons (tOp rSub (tC (.int 6)) (tCall (sp_take a) [] E (tCons (tVar 0) (tCons (tC (.int 7)) tNil)))) tNil))) (gName 4))
    (tSeq (tAsg (tCall (sp_bytes a) [] E (tCons (tVar 0) (tCons (tOp rSub (tC (.int 6)) (tCall (sp_take a) [] E (tCons (tVar 0) (tCons (tC (.int 7)) tNil)))) tNil))) (gName 5))
    (tSeq (tAsg (L2.tSl (rTSl a.S) (tVar 5) tNoPart (tPart (tOp rSub (tCB (rLen a.S) (tCons (tVar 5) tNil)) (tCall (sp_take a) [] E (tCons (tVar 0) (tCons (tOp rAdd (tCB (rLen a.S) (tCons (tVar 5) tNil)) (tC (.int 1))) tNil)))))) (gName 6))
    (tSeq (tAsg (L2.tSl (rTSl a.S) (tVar 4) tNoPart (tPart (tOp rSub (tCB (rLen a.S) (tCons (tVar 4) tNil)) (tCall (sp_take a) [] E (tCons (tVar 0) (tCons (tOp rAdd (tCB (rLen a.S) (tCons (tVar 4) tNil)) (tC (.int 1))) tNil)))))) (gName 7))
    (tRet (tLst (tCons (tTup (tCons (tC (.int 0)) (tCons (tVar 2) (tCons (tVar 3) (tCons (tVar 4) (tCons (tVar 6) tNil)))))) (tCons (tTup (tCons (tC (.int 1)) (tCons (tVar 3) (tCons (tVar 2) (tCons (tVar 5) (tCons (tVar 7) tNil)))))) tNil)))))))))) ⟨fun _ H' => Q .non H', Q, fun _ _ => False, fun _ _ => False⟩ [some v0, some v1, none, none, none, none, none, none] H) : sp_couple a [v0, v1] H Q E := ⟨rfl, h⟩
def t_single (a : Cl) (E : XK) : TS :=
  (tSeq (tAsg (tC .non) (gName 2))
    (tSeq (tIfS (tTest (tOp (rEqP a.S) (tCall (sp_take a) [] E (tCons (tVar 0) (tCons (tC (.int 2)) tNil))) (tC (.int 1)))) (tAsg (tCall (sp_mark a) [] E (tCons (tVar 0) (tCons (tVar 1) tNil))) (gName 2)) tNext)
    (tRet (tTup (tCons (tCall (sp_take a) [] E (tCons (tVar 0) (tCons (tC (.int 2)) tNil))) (tCons (tCall (sp_mark a) [] E (tCons (tVar 0) (tCons (tOp rAdd (tC (.int 20)) (tVar 1)) tNil))) (tCons (tVar 2) (tCons (tCall (sp_bytes a) [] E (tCons (tVar 0) (tCons (tCall (sp_take a) [] E (tCons (tVar 0) (tCons (tC (.int 4)) tNil))) tNil))) (tCons (tTup tNil) tNil)))))))))
def sp_single (a : Cl) : Sp := spB 3 2 (t_single a)
theorem in_single {a : Cl} {v0 v1 : V} {H : Hp} {Q : VK} {E : XK} (h : (tSeq (tAsg (tC .non) (gName 2))
    (tSeq (tIfS (tTest (tOp (rEqP a.S) (tCall (sp_take a) [] E (tCons (tVar 0) (tCons (tC (.int 2)) tNil))) (tC (.int 1)))) (tAsg (tCall (sp_mark a) [] E (tCons (tVar 0) (tCons (tVar 1) tNil))) (gName 2)) tNext)
    (tRet (tTup (tCons (tCall (sp_take a) [] E (tCons (tVar 0) (tCons (tC (.int 2)) tNil))) (tCons (tCall (sp_mark a) [] E (tCons (tVar 0) (tCons (tOp rAdd (tC (.int 20)) (tVar 1)) tNil))) (tCons (tVar 2) (tCons (tCall (sp_bytes a) [] E (tCons (tVar 0) (tCons (tCall (sp_take a) [] E (tCons (tVar 0) (tCons (tC (.int 4)) tNil))) tNil))) (tCons (tTup tNil) tNil))))))))) ⟨fun _ H' => Q .non H', Q, fun _ _ => False, fun _ _ => False⟩ [some v0, some v1, none] H) : sp_single a [v0, v1] H Q E := ⟨rfl, h⟩
def t_ledger (a : Cl) (E : XK) : TS :=
  (tSeq (tAsg (tOp rSub (tC (.int 4)) (tCall (sp_take a) [] E (tCons (tVar 0) (tCons (tC (.int 5)) tNil)))) (gName 1))
    (tSeq (tIfS (tTest (tOp (rEqP a.S) (tCall (sp_take a) [] E (tCons (tVar 0) (tCons (tC (.int 8)) tNil))) (tC (.int 7)))) (tAsg (tC (.int 12)) (gName 1)) tNext)
    (tSeq (tAsg (tLst tNil) (gName 2))
    (tSeq (sForR none (tVar 1) (gName 3) (sFor a.S (tCall (sp_couple a) [] E (tCons (tVar 0) (tCons (tOp rMul (tC (.int 2)) (tVar 3)) tNil))) (gName 4) (tSeq (tAsg (tOp rSub (tCB (rLen a.S) (tCons (tVar 2) tNil)) (tCall (sp_take a) [] E (tCons (tVar 0) (tCons (tOp rAdd (tCB (rLen a.S) (tCons (tVar 2) tNil)) (tC (.int 1))) tNil)))) (gName 5))
    (tAsg (tOp rAdd (tOp rAdd (L2.tSl (rSl a.S) (tVar 2) tNoPart (tPart (tVar 5))) (tLst (tCons (tVar 4) tNil))) (L2.tSl (rSl a.S) (tVar 2) (tPart (tVar 5)) tNoPart)) (gName 2)))))
    (tSeq (sForR none (tCall (sp_take a) [] E (tCons (tVar 0) (tCons (tC (.int 4)) tNil))) (gName 3) (tSeq (tAsg (tCall (sp_take a) [] E (tCons (tVar 0) (tCons (tOp rAdd (tCB (rLen a.S) (tCons (tVar 2) tNil)) (tC (.int 1))) tNil))) (gName 5))
    (tAsg (tOp rAdd (tOp rAdd (L2.tSl (rSl a.S) (tVar 2) tNoPart (tPart (tVar 5))) (tLst (tCons (tCall (sp_single a) [] E (tCons (tVar 0) (tCons (tVar 3) tNil))) tNil))) (L2.tSl (rSl a.S) (tVar 2) (tPart (tVar 5)) tNoPart)) (gName 2))))
    (tRet (tVar 2)))))))
def sp_ledger (a : Cl) : Sp := spB 6 1 (t_ledger a)
theorem in_ledger {a : Cl} {v0 : V} {H : Hp} {Q : VK} {E : XK} (h : (tSeq (tAsg (tOp rSub (tC (.int 4)) (tCall (sp_take a) [] E (tCons (tVar 0) (tCons (tC (.int 5)) tNil)))) (gName 1))
    (tSeq (tIfS (tTest (tOp (rEqP a.S) (tCall (sp_take a) [] E (tCons (tVar 0) (tCons (tC (.int 8)) tNil))) (tC (.int 7)))) (tAsg (tC (.int 12)) (gName 1)) tNext)
    (tSeq (tAsg (tLst tNil) (gName 2))
    (tSeq (sForR none (tVar 1) (gName 3) (sFor a.S (tCall (sp_couple a) [] E (tCons (tVar 0) (tCons (tOp rMul (tC (.int 2)) (tVar 3)) tNil))) (gName 4) (tSeq (tAsg (tOp rSub (tCB (rLen a.S) (tCons (tVar 2) tNil)) (tCall (sp_take a) [] E (tCons (tVar 0) (tCons (tOp rAdd (tCB (rLen a.S) (tCons (tVar 2) tNil)) (tC (.int 1))) tNil)))) (gName 5))
    (tAsg (tOp rAdd (tOp rAdd (L2.tSl (rSl a.S) (tVar 2) tNoPart (tPart (tVar 5))) (tLst (tCons (tVar 4) tNil))) (L2.tSl (rSl a.S) (tVar 2) (tPart (tVar 5)) tNoPart)) (gName 2)))))
    (tSeq (sForR none (tCall (sp_take a) [] E (tCons (tVar 0) (tCons (tC (.int 4)) tNil))) (gName 3) (tSeq (tAsg (tCall (sp_take a) [] E (tCons (tVar 0) (tCons (tOp rAdd (tCB (rLen a.S) (tCons (tVar 2) tNil)) (tC (.int 1))) tNil))) (gName 5))
    (tAsg (tOp rAdd (tOp rAdd (L2.tSl (rSl a.S) (tVar 2) tNoPart (tPart (tVar 5))) (tLst (tCons (tCall (sp_single a) [] E (tCons (tVar 0) (tCons (tVar 3) tNil))) tNil))) (L2.tSl (rSl a.S) (tVar 2) (tPart (tVar 5)) tNoPart)) (gName 2))))
    (tRet (tVar 2))))))) ⟨fun _ H' => Q .non H', Q, fun _ _ => False, fun _ _ => False⟩ [some v0, none, none, none, none, none] H) : sp_ledger a [v0] H Q E := ⟨rfl, h⟩
def t_altered (a : Cl) (E : XK) : TS :=
  (tSeq (tIfS (tTest (tOp (rEqP a.S) (tCB (rLen a.S) (tCons (tVar 1) tNil)) (tC (.int 0)))) (tRet (tTup (tCons (tCall (sp_take a) [] E (tCons (tVar 0) (tCons (tC (.int 256)) tNil))) tNil))) tNext)
    (tSeq (tAsg (tCall (sp_take a) [] E (tCons (tVar 0) (tCons (tCB (rLen a.S) (tCons (tVar 1) tNil)) tNil))) (gName 2))
    (tRet (tOp (rTAdd a.S) (tOp (rTAdd a.S) (L2.tSl (rTSl a.S) (tVar 1) tNoPart (tPart (tVar 2))) (tTup (tCons (tOp rMod (tCB rInt (tCons (tOp rAdd (tOp rAdd (tOp (rIx a.S) (tVar 1) (tVar 2)) (tC (.int 1))) (tCall (sp_take a) [] E (tCons (tVar 0) (tCons (tC (.int 255)) tNil)))) tNil)) (tC (.int 256))) tNil))) (L2.tSl (rTSl a.S) (tVar 1) (tPart (tOp rAdd (tVar 2) (tC (.int 1)))) tNoPart)))))
def sp_altered (a : Cl) : Sp := spB 3 2 (t_altered a)
theorem in_altered {a : Cl} {v0 v1 : V} {H : Hp} {Q : VK} {E : XK} (h : (tSeq (tIfS (tTest (tOp (rEqP a.S) (tCB (rLen a.S) (tCons (tVar 1) tNil)) (tC (.int 0)))) (tRet (tTup (tCons (tCall (sp_take a) [] E (tCons (tVar 0) (tCons (tC (.int 256)) tNil))) tNil))) tNext)
    (tSeq (tAsg (tCall (sp_take a) [] E (tCons (tVar 0) (tCons (tCB (rLen a.S) (tCons (tVar 1) tNil)) tNil))) (gName 2))
    (tRet (tOp (rTAdd a.S) (tOp (rTAdd a.S) (L2.tSl (rTSl a.S) (tVar 1) tNoPart (tPart (tVar 2))) (tTup (tCons (tOp rMod (tCB rInt (tCons (tOp rAdd (tOp rAdd (tOp (rIx a.S) (tVar 1) (tVar 2)) (tC (.int 1))) (tCall (sp_take a) [] E (tCons (tVar 0) (tCons (tC (.int 255)) tNil)))) tNil)) (tC (.int 256))) tNil))) (L2.tSl (rTSl a.S) (tVar 1) (tPart (tOp rAdd (tVar 2) (tC (.int 1)))) tNoPart))))) ⟨fun _ H' => Q .non H', Q, fun _ _ => False, fun _ _ => False⟩ [some v0, some v1, none] H) : sp_altered a [v0, v1] H Q E := ⟨rfl, h⟩
def t_new_row (a : Cl) (E : XK) : TS :=
  (tSeq (tAsg (tTup (tCons (tOp (rIx a.S) (tVar 1) (tC (.int 0))) (tCons (tOp (rIx a.S) (tVar 1) (tC (.int 1))) (tCons (tOp (rIx a.S) (tVar 1) (tC (.int 2))) (tCons (tOp (rIx a.S) (tVar 1) (tC (.int 3))) (tCons (tOp (rIx a.S) (tVar 1) (tC (.int 4))) tNil)))))) (gTupS a.S 5 (gCons (gName 4) (gCons (gName 5) (gCons (gName 6) (gCons (gName 7) (gCons (gName 8) gNil)))))))
    (tSeq (tIfS (tTest (tOp (rEqP a.S) (tVar 3) (tC (.int 0)))) (tAsg (tOp (rTAdd a.S) (tVar 8) (tTup (tCons (tCall (sp_take a) [] E (tCons (tVar 0) (tCons (tC (.int 256)) tNil))) tNil))) (gName 8)) tNext)
    (tSeq (tIfS (tTest (tOp (rEqP a.S) (tVar 3) (tC (.int 1)))) (tAsg (tCall (sp_altered a) [] E (tCons (tVar 0) (tCons (tVar 8) tNil))) (gName 8)) tNext)
    (tSeq (tIfS (tTest (tOp (rEqP a.S) (tVar 3) (tC (.int 2)))) (tAsg (tOp (rIx a.S) (tVar 2) (tC (.int 1))) (gName 5)) tNext)
    (tSeq (tIfS (tTest (tOp (rEqP a.S) (tVar 3) (tC (.int 3)))) (tAsg (tOp (rIx a.S) (tVar 2) (tC (.int 2))) (gName 6)) tNext)
    (tSeq (tIfS (tTest (tOp (rEqP a.S) (tVar 3) (tC (.int 4)))) (tAsg (tOp rSub (tC (.int 1)) (tVar 4)) (gName 4)) tNext)
    (tSeq (tIfS (tTest (tOp (rEqP a.S) (tVar 3) (tC (.int 5)))) (tAsg (L2.tSl (rTSl a.S) (tVar 7) tNoPart (tPart (tCall (sp_take a) [] E (tCons (tVar 0) (tCons (tOp rAdd (tCB (rLen a.S) (tCons (tVar 7) tNil)) (tC (.int 1))) tNil))))) (gName 7)) tNext)
    (tSeq (tIfS (tTest (tOp (rEqP a.S) (tVar 3) (tC (.int 6)))) (tAsg (tCall (sp_altered a) [] E (tCons (tVar 0) (tCons (tVar 7) tNil))) (gName 7)) tNext)
    (tSeq (tIfS (tTest (tOp (rEqP a.S) (tVar 3) (tC (.int 7)))) (tAsg (L2.tSl (rTSl a.S) (tOp (rIx a.S) (tVar 2) (tC (.int 3))) tNoPart (tPart (tOp rSub (tCB (rLen a.S) (tCons (tOp (rIx a.S) (tVar 2) (tC (.int 3))) tNil)) (tCall (sp_take a) [] E (tCons (tVar 0) (tCons (tOp rAdd (tCB (rLen a.S) (tCons (tOp (rIx a.S) (tVar 2) (tC (.int 3))) tNil)) (tC (.int 1))) tNil)))))) (gName 8)) tNext)
    (tSeq (tIfS (tTest (tOp (rEqP a.S) (tVar 3) (tC (.int 8)))) (tAsg (tCall (sp_mark a) [] E (tCons (tVar 0) (tCons (tC (.int 40)) tNil))) (gName 5)) tNext)
    (tSeq (tIfS (tTest (tOp (rEqP a.S) (tVar 3) (tC (.int 9)))) (tAsg (tOp (rIx a.S) (tLst (tCons (tC .non) (tCons (tCall (sp_mark a) [] E (tCons (tVar 0) (tCons (tC (.int 41)) tNil))) tNil))) (tCall (sp_take a) [] E (tCons (tVar 0) (tCons (tC (.int 2)) tNil)))) (gName 6)) tNext)
    (tSeq (tIfS (tTest (tOp (rEqP a.S) (tVar 3) (tC (.int 10)))) (tAsg (L2.tSl (rTSl a.S) (tVar 8) tNoPart (tPart (tCall (sp_take a) [] E (tCons (tVar 0) (tCons (tOp rAdd (tCB (rLen a.S) (tCons (tVar 8) tNil)) (tC (.int 1))) tNil))))) (gName 8)) tNext)
    (tSeq (tIfS (tTest (tOp (rEqP a.S) (tVar 3) (tC (.int 11)))) (tAsg (tOp (rIx a.S) (tVar 2) (tC (.int 1))) (gName 6)) tNext)
    (tRet (tTup (tCons (tVar 4) (tCons (tVar 5) (tCons (tVar 6) (tCons (tVar 7) (tCons (tVar 8) tNil))))))))))))))))))))
def sp_new_row (a : Cl) : Sp := spB 9 4 (t_new_row a)
theorem in_new_row {a : Cl} {v0 v1 v2 v3 : V} {H : Hp} {Q : VK} {E : XK} (h : (tSeq (tAsg (tTup (tCons (tOp (rIx a.S) (tVar 1) (tC (.int 0))) (tCons (tOp (rIx a.S) (tVar 1) (tC (.int 1))) (tCons (tOp (rIx a.S) (tVar 1) (tC (.int 2))) (tCons (tOp (rIx a.S) (tVar 1) (tC (.int 3))) (tCons (tOp (rIx a.S) (tVar 1) (tC (.int 4))) tNil)))))) (gTupS a.S 5 (gCons (gName 4) (gCons (gName 5) (gCons (gName 6) (gCons (gName 7) (gCons (gName 8) gNil)))))))
    (tSeq (tIfS (tTest (tOp (rEqP a.S) (tVar 3) (tC (.int 0)))) (tAsg (tOp (rTAdd a.S) (tVar 8) (tTup (tCons (tCall (sp_take a) [] E (tCons (tVar 0) (tCons (tC (.int 256)) tNil))) tNil))) (gName 8)) tNext)
    (tSeq (tIfS (tTest (tOp (rEqP a.S) (tVar 3) (tC (.int 1)))) (tAsg (tCall (sp_altered a) [] E (tCons (tVar 0) (tCons (tVar 8) tNil))) (gName 8)) tNext)
    (tSeq (tIfS (tTest (tOp (rEqP a.S) (tVar 3) (tC (.int 2)))) (tAsg (tOp (rIx a.S) (tVar 2) (tC (.int 1))) (gName 5)) tNext)
    (tSeq (tIfS (tTest (tOp (rEqP a.S) (tVar 3) (tC (.int 3)))) (tAsg (tOp (rIx a.S) (tVar 2) (tC (.int 2))) (gName 6)) tNext)
    (tSeq (tIfS (tTest (tOp (rEqP a.S) (tVar 3) (tC (.int 4)))) (tAsg (tOp rSub (tC (.int 1)) (tVar 4)) (gName 4)) tNext)
    (tSeq (tIfS (tTest (tOp (rEqP a.S) (tVar 3) (tC (.int 5)))) (tAsg (L2.tSl (rTSl a.S) (tVar 7) tNoPart (tPart (tCall (sp_take a) [] E (tCons (tVar 0) (tCons (tOp rAdd (tCB (rLen a.S) (tCons (tVar 7) tNil)) (tC (.int 1))) tNil))))) (gName 7)) tNext)
    (tSeq (tIfS (tTest (tOp (rEqP a.S) (tVar 3) (tC (.int 6)))) (tAsg (tCall (sp_altered a) [] E (tCons (tVar 0) (tCons (tVar 7) tNil))) (gName 7)) tNext)
    (tSeq (tIfS (tTest (tOp (rEqP a.S) (tVar 3) (tC (.int 7)))) (tAsg (L2.tSl (rTSl a.S) (tOp (rIx a.S) (tVar 2) (tC (.int 3))) tNoPart (tPart (tOp rSub (tCB (rLen a.S) (tCons (tOp (rIx a.S) (tVar 2) (tC (.int 3))) tNil)) (tCall (sp_take a) [] E (tCons (tVar 0) (tCons (tOp rAdd (tCB (rLen a.S) (tCons (tOp (rIx a.S) (tVar 2) (tC (.int 3))) tNil)) (tC (.int 1))) tNil)))))) (gName 8)) tNext)
    (tSeq (tIfS (tTest (tOp (rEqP a.S) (tVar 3) (tC (.int 8)))) (tAsg (tCall (sp_mark a) [] E (tCons (tVar 0) (tCons (tC (.int 40)) tNil))) (gName 5)) tNext)
    (tSeq (tIfS (tTest (tOp (rEqP a.S) (tVar 3) (tC (.int 9)))) (tAsg (tOp (rIx a.S) (tLst (tCons (tC .non) (tCons (tCall (sp_mark a) [] E (tCons (tVar 0) (tCons (tC (.int 41)) tNil))) tNil))) (tCall (sp_take a) [] E (tCons (tVar 0) (tCons (tC (.int 2)) tNil)))) (gName 6)) tNext)
    (tSeq (tIfS (tTest (tOp (rEqP a.S) (tVar 3) (tC (.int 10)))) (tAsg (L2.tSl (rTSl a.S) (tVar 8) tNoPart (tPart (tCall (sp_take a) [] E (tCons (tVar 0) (tCons (tOp rAdd (tCB (rLen a.S) (tCons (tVar 8) tNil)) (tC (.int 1))) tNil))))) (gName 8)) tNext)
    (tSeq (tIfS (tTest (tOp (rEqP a.S) (tVar 3) (tC (.int 11)))) (tAsg (tOp (rIx a.S) (tVar 2) (tC (.int 1))) (gName 6)) tNext)
    (tRet (tTup (tCons (tVar 4) (tCons (tVar 5) (tCons (tVar 6) (tCons (tVar 7) (tCons (tVar 8) tNil)))))))))))))))))))) ⟨fun _ H' => Q .non H', Q, fun _ _ => False, fun _ _ => False⟩ [some v0, some v1, some v2, some v3, none, none, none, none, none] H) : sp_new_row a [v0, v1, v2, v3] H Q E := ⟨rfl, h⟩
def t_change (a : Cl) (E : XK) : TS :=
  (tSeq (tIfS (tTest (tOp (rEqP a.S) (tVar 1) (tLst tNil))) (tRet (tLst (tCons (tTup (tCons (tC (.int 0)) (tCons (tC (.int 1)) (tCons (tC (.int 2)) (tCons (tTup tNil) (tCons (tTup (tCons (tC (.int 5)) tNil)) tNil)))))) tNil))) tNext)
    (tSeq (tAsg (tCall (sp_take a) [] E (tCons (tVar 0) (tCons (tCB (rLen a.S) (tCons (tVar 1) tNil)) tNil))) (gName 3))
    (tSeq (tAsg (tOp (rIx a.S) (tVar 1) (tCall (sp_take a) [] E (tCons (tVar 0) (tCons (tCB (rLen a.S) (tCons (tVar 1) tNil)) tNil)))) (gName 4))
    (tSeq (tIfS (tTest (tOp rLt (tVar 2) (tC (.int 12)))) (tRet (tOp rAdd (tOp rAdd (L2.tSl (rSl a.S) (tVar 1) tNoPart (tPart (tVar 3))) (tLst (tCons (tCall (sp_new_row a) [] E (tCons (tVar 0) (tCons (tOp (rIx a.S) (tVar 1) (tVar 3)) (tCons (tVar 4) (tCons (tVar 2) tNil))))) tNil))) (L2.tSl (rSl a.S) (tVar 1) (tPart (tOp rAdd (tVar 3) (tC (.int 1)))) tNoPart))) tNext)
    (tSeq (tIfS (tTest (tOp (rEqP a.S) (tVar 2) (tC (.int 12)))) (tRet (tOp rAdd (L2.tSl (rSl a.S) (tVar 1) tNoPart (tPart (tVar 3))) (L2.tSl (rSl a.S) (tVar 1) (tPart (tOp rAdd (tVar 3) (tC (.int 1)))) tNoPart))) tNext)
    (tSeq (tAsg (tVar 1) (gName 5))
    (tSeq (tIfS (tTest (tOp (rEqP a.S) (tVar 2) (tC (.int 14)))) (tAsg (tOp rAdd (L2.tSl (rSl a.S) (tVar 1) tNoPart (tPart (tVar 3))) (L2.tSl (rSl a.S) (tVar 1) (tPart (tOp rAdd (tVar 3) (tC (.int 1)))) tNoPart)) (gName 5)) tNext)
    (tSeq (tAsg (tCall (sp_take a) [] E (tCons (tVar 0) (tCons (tOp rAdd (tCB (rLen a.S) (tCons (tVar 5) tNil)) (tC (.int 1))) tNil))) (gName 6))
    (tRet (tOp rAdd (tOp rAdd (L2.tSl (rSl a.S) (tVar 5) tNoPart (tPart (tVar 6))) (tLst (tCons (tOp (rIx a.S) (tVar 1) (tVar 3)) tNil))) (L2.tSl (rSl a.S) (tVar 5) (tPart (tVar 6)) tNoPart)))))))))))
def sp_change (a : Cl) : Sp := spB 7 3 (t_change a)
theorem in_change {a : Cl} {v0 v1 v2 : V} {H : Hp} {Q : VK} {E : XK} (h : (tSeq (tIfS (tTest (tOp (rEqP a.S) (tVar 1) (tLst tNil))) (tRet (tLst (tCons (tTup (tCons (tC (.int 0)) (tCons (tC (.int 1)) (tCons (tC (.int 2)) (tCons (tTup tNil) (tCons (tTup (tCons (tC (.int 5)) tNil)) tNil)))))) tNil))) tNext)
    (tSeq (tAsg (tCall (sp_take a) [] E (tCons (tVar 0) (tCons (tCB (rLen a.S) (tCons (tVar 1) tNil)) tNil))) (gName 3))
    (tSeq (tAsg (tOp (rIx a.S) (tVar 1) (tCall (sp_take a) [] E (tCons (tVar 0) (tCons (tCB (rLen a.S) (tCons (tVar 1) tNil)) tNil)))) (gName 4))
    (tSeq (tIfS (tTest (tOp rLt (tVar 2) (tC (.int 12)))) (tRet (tOp rAdd (tOp rAdd (L2.tSl (rSl a.S) (tVar 1) tNoPart (tPart (tVar 3))) (tLst (tCons (tCall (sp_new_row a) [] E (tCons (tVar 0) (tCons (tOp (rIx a.S) (tVar 1) (tVar 3)) (tCons (tVar 4) (tCons (tVar 2) tNil))))) tNil))) (L2.tSl (rSl a.S) (tVar 1) (tPart (tOp rAdd (tVar 3) (tC (.int 1)))) tNoPart))) tNext)
    (tSeq (tIfS (tTest (tOp (rEqP a.S) (tVar 2) (tC (.int 12)))) (tRet (tOp rAdd (L2.tSl (rSl a.S) (tVar 1) tNoPart (tPart (tVar 3))) (L2.tSl (rSl a.S) (tVar 1) (tPart (tOp rAdd (tVar 3) (tC (.int 1)))) tNoPart))) tNext)
    (tSeq (tAsg (tVar 1) (gName 5))
    (tSeq (tIfS (tTest (tOp (rEqP a.S) (tVar 2) (tC (.int 14)))) (tAsg (tOp rAdd (L2.tSl (rSl a.S) (tVar 1) tNoPart (tPart (tVar 3))) (L2.tSl (rSl a.S) (tVar 1) (tPart (tOp rAdd (tVar 3) (tC (.int 1)))) tNoPart)) (gName 5)) tNext)
    (tSeq (tAsg (tCall (sp_take a) [] E (tCons (tVar 0) (tCons (tOp rAdd (tCB (rLen a.S) (tCons (tVar 5) tNil)) (tC (.int 1))) tNil))) (gName 6))
    (tRet (tOp rAdd (tOp rAdd (L2.tSl (rSl a.S) (tVar 5) tNoPart (tPart (tVar 6))) (tLst (tCons (tOp (rIx a.S) (tVar 1) (tVar 3)) tNil))) (L2.tSl (rSl a.S) (tVar 5) (tPart (tVar 6)) tNoPart))))))))))) ⟨fun _ H' => Q .non H', Q, fun _ _ => False, fun _ _ => False⟩ [some v0, some v1, some v2, none, none, none, none] H) : sp_change a [v0, v1, v2] H Q E := ⟨rfl, h⟩
def t_law (a : Cl) (E : XK) : TS :=
  (tSeq (tAsg (tCall (sp_bag a) [] E (tCons (tVar 0) tNil)) (gName 1))
    (tSeq (tIfS (tNot (tB (tCall (sp_holds a) [] E (tCons (tLst tNil) tNil)))) (tRet (tC (.bl false))) tNext)
    (tSeq (tAsg (tCall (sp_ledger a) [] E (tCons (tVar 1) tNil)) (gName 2))
    (tSeq (tIfS (tNot (tB (tCall (sp_holds a) [] E (tCons (tVar 2) tNil)))) (tRet (tC (.bl false))) tNext)
    (tSeq (sForR none (tOp rAdd (tC (.int 1)) (tCall (sp_take a) [] E (tCons (tVar 1) (tCons (tC (.int 4)) tNil)))) (gName 3) (tSeq (tAsg (tCall (sp_change a) [] E (tCons (tVar 1) (tCons (tVar 2) (tCons (tOp rMod (tCB rInt (tCons (tOp rAdd (tCall (sp_take a) [] E (tCons (tVar 1) (tCons (tC (.int 15)) tNil))) (tVar 3)) tNil)) (tC (.int 15))) tNil)))) (gName 2))
    (tIfS (tNot (tB (tCall (sp_holds a) [] E (tCons (tVar 2) tNil)))) (tRet (tC (.bl false))) tNext)))
    (tRet (tC (.bl true))))))))
def sp_law (a : Cl) : Sp := spB 4 1 (t_law a)
theorem in_law {a : Cl} {v0 : V} {H : Hp} {Q : VK} {E : XK} (h : (tSeq (tAsg (tCall (sp_bag a) [] E (tCons (tVar 0) tNil)) (gName 1))
    (tSeq (tIfS (tNot (tB (tCall (sp_holds a) [] E (tCons (tLst tNil) tNil)))) (tRet (tC (.bl false))) tNext)
    (tSeq (tAsg (tCall (sp_ledger a) [] E (tCons (tVar 1) tNil)) (gName 2))
    (tSeq (tIfS (tNot (tB (tCall (sp_holds a) [] E (tCons (tVar 2) tNil)))) (tRet (tC (.bl false))) tNext)
    (tSeq (sForR none (tOp rAdd (tC (.int 1)) (tCall (sp_take a) [] E (tCons (tVar 1) (tCons (tC (.int 4)) tNil)))) (gName 3) (tSeq (tAsg (tCall (sp_change a) [] E (tCons (tVar 1) (tCons (tVar 2) (tCons (tOp rMod (tCB rInt (tCons (tOp rAdd (tCall (sp_take a) [] E (tCons (tVar 1) (tCons (tC (.int 15)) tNil))) (tVar 3)) tNil)) (tC (.int 15))) tNil)))) (gName 2))
    (tIfS (tNot (tB (tCall (sp_holds a) [] E (tCons (tVar 2) tNil)))) (tRet (tC (.bl false))) tNext)))
    (tRet (tC (.bl true)))))))) ⟨fun _ H' => Q .non H', Q, fun _ _ => False, fun _ _ => False⟩ [some v0, none, none, none] H) : sp_law a [v0] H Q E := ⟨rfl, h⟩

/-! the walker: «walk_at "y 1"» one step, «walk_at "y"» as far as it goes -/
local macro_rules | `(tactic| walk_at "y mem") => `(tactic| repeat (first | assumption | exact List.Mem.head _ | apply List.Mem.tail))
local macro_rules | `(tactic| walk_at "y sub") => `(tactic| first | exact List.Sublist.refl _ | exact List.nil_sublist _ | (refine List.Sublist.cons₂ _ ?_; walk_at "y sub") | (refine List.Sublist.cons _ ?_; walk_at "y sub"))
local macro_rules | `(tactic| walk_at "y take") => `(tactic| first | exact Y.Take.here | (apply Y.Take.there; walk_at "y take"))
local macro_rules | `(tactic| walk_at "y sel") => `(tactic| first | exact Y.Sel.all | exact Y.Sel.nil | (refine' Y.Sel.cons ?h ?s; (case h => walk_at "y take"); (case s => walk_at "y sel")) | ((fail_if_success (show Y.Sel (_ :: _) _)); apply Y.Sel.drop; walk_at "y sel"))
local macro_rules | `(tactic| walk_at "y src") => `(tactic| first | assumption | (refine Y.Src.is ?_; walk_at "y mem"; done) | (refine Y.Src.rd ?_; walk_at "y mem"; done) | (refine Y.Src.st ?_; assumption) | (apply Y.Src.cons; walk_at "y src"))
local macro_rules | `(tactic| walk_at "y put") => `(tactic| repeat (first | assumption | exact Y.Put.here | apply Y.Put.there))
local macro_rules | `(tactic| walk_at "y at") => `(tactic| first | exact Y.atI_at (j := 0) rfl rfl | exact Y.atI_at (j := 1) rfl rfl | exact Y.atI_at (j := 2) rfl rfl | exact Y.atI_at (j := 3) rfl rfl | exact Y.atI_at (j := 4) rfl rfl | exact Y.atI_at (j := 5) rfl rfl | exact Y.atI_at (j := 6) rfl rfl | exact Y.atI_at (j := 7) rfl rfl | exact Y.atI_at (j := 8) rfl rfl | exact Y.atI_at (j := 9) rfl rfl | exact Y.atI_at (j := 10) rfl rfl | exact Y.atI_at (j := 11) rfl rfl | exact Y.atI_at (j := 12) rfl rfl | exact Y.atI_at (j := 13) rfl rfl | exact Y.atI_at (j := 14) rfl rfl | exact Y.atI_at (j := 15) rfl rfl | assumption | exact Y.atI_ints (by omega) (by omega))
local macro_rules | `(tactic| walk_at "y ix") => `(tactic| first | exact Y.ixN_b (j := 0) rfl rfl | exact Y.ixN_b (j := 1) rfl rfl | exact Y.ixN_b (j := 2) rfl rfl | exact Y.ixN_b (j := 3) rfl rfl | exact Y.ixN_b (j := 4) rfl rfl | exact Y.ixN_b (j := 5) rfl rfl | exact Y.ixN_b (j := 6) rfl rfl | exact Y.ixN_b (j := 7) rfl rfl | exact Y.ixN_b (j := 8) rfl rfl | exact Y.ixN_b (j := 9) rfl rfl | exact Y.ixN_b (j := 10) rfl rfl | exact Y.ixN_b (j := 11) rfl rfl | exact Y.ixN_b (j := 12) rfl rfl | exact Y.ixN_b (j := 13) rfl rfl | exact Y.ixN_b (j := 14) rfl rfl | exact Y.ixN_b (j := 15) rfl rfl | assumption | exact Y.ixN_i (by omega) (by omega))
local macro_rules | `(tactic| walk_at "y field") => `(tactic| first | assumption | exact Y.look_hit | exact Y.look_nil | (refine' Y.look_miss ?hd ?tl; (case hd => decide +kernel); (case tl => walk_at "y field")))
local macro_rules | `(tactic| walk_at "y putf") => `(tactic| first | exact Y.put_nil | exact Y.put_hit | (refine' Y.put_miss ?hd ?tl; (case hd => decide +kernel); (case tl => walk_at "y putf")))
local macro_rules | `(tactic| walk_at "y size") => `(tactic| first | exact Y.len_leB rfl | exact Y.len_ltB rfl | exact Y.f_lt rfl | (refine Y.len_leN ?_; simp only [List.length_append, List.length_cons, List.length_nil, List.length_map]; omega) | (refine Y.len_ltN ?_; simp only [List.length_append, List.length_cons, List.length_nil, List.length_map]; omega))
local macro_rules | `(tactic| walk_at "y flat") => `(tactic| first | exact Y.flat_ints | rfl | assumption | (refine Y.flat_cons ?_ ?_; (first | rfl | decide +kernel | assumption); walk_at "y flat"))
local macro_rules | `(tactic| walk_at "y eqv") => `(tactic| first | exact Y.eqv_nil | exact Y.eqv_nc | exact Y.eqv_cn | exact Y.eqv_ints | assumption | ((try simp (disch := decide +kernel) only [Y.eqv_strS, Y.eqv_strD, Y.eqv_int, Y.eqv_bl, Y.eqv_nil, Y.eqv_nc, Y.eqv_cn, Y.eqv_nn, Y.eqv_ni, Y.eqv_in, Y.eqv_ns, Y.eqv_sn, Y.eqv_si, Y.eqv_is, decide_true, Bool.true_and, Bool.false_and, Bool.and_true, Bool.and_false, eq_self, List.cons_append, List.nil_append]); (try simp only [Y.eqv_str, Y.eqv_int, Y.eqv_bl, Y.eqv_nil, Y.eqv_nc, Y.eqv_cn, Y.eqv_nn, Y.eqv_ni, Y.eqv_in, Y.eqv_ns, Y.eqv_sn, Y.eqv_si, Y.eqv_is, decide_true, Bool.true_and, Bool.false_and, Bool.and_true, Bool.and_false, eq_self, List.cons_append, List.nil_append, ← Bool.decide_and]); rfl))
local macro_rules | `(tactic| walk_at "y side") => `(tactic| fail "side")
local macro_rules | `(tactic| walk_at "y spec") => `(tactic| fail "spec")
local macro_rules | `(tactic| walk_at "y old Ar") => `(tactic| first
  | ((with_reducible refine' Y.x_strI ?c ?_); (case c => omega))
  | ((with_reducible refine' Y.x_mod ?c ?_); (case c => first | omega | decide | walk_at "y side"))
  | ((with_reducible refine' Y.x_fdiv ?c ?_); (case c => first | exact Y.div_small (by omega) (by omega) | walk_at "y side"))
  | ((with_reducible refine' Y.x_mul ?c ?_); (case c => first | exact Y.mulR (by omega) (by omega) | exact Y.mulL (by omega) (by omega) | walk_at "y side"))
  | ((with_reducible refine Y.is_pow ?_); first
    | (with_reducible refine Y.x_pw10_1 ?_)
    | (with_reducible refine Y.x_pw10_2 ?_)
    | (with_reducible refine Y.x_pw10_3 ?_)
    | (with_reducible refine Y.x_pw10_4 ?_)
    | (with_reducible refine Y.x_pw10_5 ?_)
    | (with_reducible refine Y.x_pw10_6 ?_)
    | (with_reducible refine Y.x_pw10_7 ?_)
    | (with_reducible refine Y.x_pw10_8 ?_)
    | (with_reducible refine Y.x_pw10_9 ?_)
    | (with_reducible refine Y.x_pw10_10 ?_)
    | (with_reducible refine Y.x_pw10_11 ?_)
    | (with_reducible refine Y.x_pw10_12 ?_)
    | (with_reducible refine Y.x_pw10_13 ?_)
    | (with_reducible refine Y.x_pw10_14 ?_)
    | (with_reducible refine Y.x_pw10_15 ?_)
    | (with_reducible refine Y.x_pw10_16 ?_)
    | (with_reducible refine Y.x_pw10_17 ?_)
    | (with_reducible refine Y.x_pw10_18 ?_)
    | (with_reducible refine Y.x_pw10_19 ?_)
    | (with_reducible refine Y.x_pw10_20 ?_)
    | (with_reducible refine Y.x_pw10_21 ?_)
    | (with_reducible refine Y.x_pw10_22 ?_)
    | (with_reducible refine Y.x_pw10_23 ?_)
    | (with_reducible refine Y.x_pw10_24 ?_)
    | (with_reducible refine Y.x_pw2_6 ?_)
    | (with_reducible refine Y.x_pw2_10 ?_)
    | (with_reducible refine Y.x_pw2_16 ?_)
    | (with_reducible refine Y.x_pw2_20 ?_)
    | (with_reducible refine Y.x_pw2_30 ?_)
    | (with_reducible refine Y.x_pw2_31 ?_)
    | (with_reducible refine Y.x_pw2_32 ?_)
    | (with_reducible refine Y.x_pw2_40 ?_)
    | (with_reducible refine Y.x_pw2_48 ?_)
    | (with_reducible refine Y.x_pw2_60 ?_)
    | (with_reducible refine Y.x_pw2_62 ?_)
    | (with_reducible refine Y.x_pw2_63 ?_)
    | (with_reducible refine Y.x_pw2_64 ?_))
  | ((with_reducible refine' Y.x_pow ?c ?_); (case c => first | exact ⟨by decide, by decide, by decide⟩ | walk_at "y side"))
  | ((with_reducible refine' Y.x_shl ?c ?_); (case c => first | exact ⟨by omega, by omega, by decide⟩ | walk_at "y side")))
local macro_rules | `(tactic| walk_at "y old Ix") => `(tactic| first
  | ((with_reducible refine Y.is_ix ?_); first
    | ((with_reducible refine' Y.x_ixL ?F ?m ?a ?_); (case F => assumption); (case m => walk_at "y mem"); (case a => walk_at "y at"))
    | ((with_reducible refine' Y.x_ixT ?F ?m ?a ?_); (case F => assumption); (case m => walk_at "y mem"); (case a => walk_at "y at"))
    | ((with_reducible refine' Y.x_ixR ?F ?m ?a ?_); (case F => assumption); (case m => walk_at "y mem"); (case a => walk_at "y at"))
    | ((with_reducible refine' Y.x_ixS ?ms ?a ?_); (case ms => assumption); (case a => walk_at "y at")))
  | ((with_reducible refine Y.is_len ?_); first
    | ((with_reducible refine' Y.x_lenL ?F ?m ?_); (case F => assumption); (case m => walk_at "y mem"))
    | ((with_reducible refine' Y.x_lenT ?F ?m ?_); (case F => assumption); (case m => walk_at "y mem"))
    | ((with_reducible refine' Y.x_lenR ?F ?m ?_); (case F => assumption); (case m => walk_at "y mem"))
    | ((with_reducible refine' Y.x_lenS ?ms ?_); (case ms => assumption)))
  | ((with_reducible refine Y.is_sl ?_); first
    | ((with_reducible refine' Y.x_sl1 ?F ?m ?_); (case F => assumption); (case m => walk_at "y mem"); intro _ _ _ _)
    | ((with_reducible refine' Y.x_slp1 ?F ?m ?_); (case F => assumption); (case m => walk_at "y mem"); intro _ _ _ _)
    | ((with_reducible refine' Y.x_slp2 ?F ?m ?_); (case F => assumption); (case m => walk_at "y mem"); intro _ _ _ _)
    | ((with_reducible refine' Y.x_slp3 ?F ?m ?_); (case F => assumption); (case m => walk_at "y mem"); intro _ _ _ _)
    | ((with_reducible refine' Y.x_slp4 ?F ?m ?_); (case F => assumption); (case m => walk_at "y mem"); intro _ _ _ _)
    | ((with_reducible refine' Y.x_slp5 ?F ?m ?_); (case F => assumption); (case m => walk_at "y mem"); intro _ _ _ _)
    | ((with_reducible refine' Y.x_slp6 ?F ?m ?_); (case F => assumption); (case m => walk_at "y mem"); intro _ _ _ _)
    | ((with_reducible refine' Y.x_slp7 ?F ?m ?_); (case F => assumption); (case m => walk_at "y mem"); intro _ _ _ _)
    | ((with_reducible refine' Y.x_slp8 ?F ?m ?_); (case F => assumption); (case m => walk_at "y mem"); intro _ _ _ _)
    | ((with_reducible refine' Y.x_slL ?F ?m ?_); (case F => assumption); (case m => walk_at "y mem"); intro _ _ _ _)
    | ((with_reducible refine' Y.x_slR ?F ?m ?_); (case F => assumption); (case m => walk_at "y mem"); intro _ _ _ _)
    | ((with_reducible refine' Y.x_slS ?F ?ms ?_); (case F => assumption); (case ms => assumption); intro _ _ _ _)))
local macro_rules | `(tactic| walk_at "y old Eq") => `(tactic| first
  | ((with_reducible refine Y.is_eqP ?_); first
    | (with_reducible refine Y.x_eqPI ?_)
    | (with_reducible refine Y.x_eqPB ?_)
    | (with_reducible refine Y.x_eqPSs ?_)
    | ((with_reducible refine' Y.x_eqPSd ?ne ?_); (case ne => decide +kernel))
    | (with_reducible refine Y.x_eqPS ?_)
    | (with_reducible refine Y.x_eqP_nn ?_)
    | (with_reducible refine Y.x_eqP_ni ?_)
    | (with_reducible refine Y.x_eqP_in ?_)
    | (with_reducible refine Y.x_eqP_nb ?_)
    | (with_reducible refine Y.x_eqP_bn ?_)
    | (with_reducible refine Y.x_eqP_ns ?_)
    | (with_reducible refine Y.x_eqP_sn ?_)
    | (with_reducible refine Y.x_eqP_is ?_)
    | (with_reducible refine Y.x_eqP_si ?_)
    | (with_reducible refine Y.x_eqP_bs ?_)
    | (with_reducible refine Y.x_eqP_sb ?_)
    | ((with_reducible refine' Y.x_eqPL ?F ?m ?n ?f1 ?f2 ?ev ?_); (case F => assumption); (case m => walk_at "y mem"); (case n => walk_at "y mem"); (case f1 => walk_at "y flat"); (case f2 => walk_at "y flat"); (case ev => walk_at "y eqv"))
    | ((with_reducible refine' Y.x_eqPT ?F ?m ?n ?f1 ?f2 ?ev ?_); (case F => assumption); (case m => walk_at "y mem"); (case n => walk_at "y mem"); (case f1 => walk_at "y flat"); (case f2 => walk_at "y flat"); (case ev => walk_at "y eqv")))
  | ((with_reducible refine Y.is_neP ?_); first
    | (with_reducible refine Y.x_nePI ?_)
    | (with_reducible refine Y.x_nePB ?_)
    | (with_reducible refine Y.x_nePSs ?_)
    | ((with_reducible refine' Y.x_nePSd ?ne ?_); (case ne => decide +kernel))
    | (with_reducible refine Y.x_nePS ?_)
    | (with_reducible refine Y.x_neP_nn ?_)
    | (with_reducible refine Y.x_neP_ni ?_)
    | (with_reducible refine Y.x_neP_in ?_)
    | (with_reducible refine Y.x_neP_nb ?_)
    | (with_reducible refine Y.x_neP_bn ?_)
    | (with_reducible refine Y.x_neP_ns ?_)
    | (with_reducible refine Y.x_neP_sn ?_)
    | (with_reducible refine Y.x_neP_is ?_)
    | (with_reducible refine Y.x_neP_si ?_)
    | (with_reducible refine Y.x_neP_bs ?_)
    | (with_reducible refine Y.x_neP_sb ?_)
    | ((with_reducible refine' Y.x_nePL ?F ?m ?n ?f1 ?f2 ?ev ?_); (case F => assumption); (case m => walk_at "y mem"); (case n => walk_at "y mem"); (case f1 => walk_at "y flat"); (case f2 => walk_at "y flat"); (case ev => walk_at "y eqv"))
    | ((with_reducible refine' Y.x_nePT ?F ?m ?n ?f1 ?f2 ?ev ?_); (case F => assumption); (case m => walk_at "y mem"); (case n => walk_at "y mem"); (case f1 => walk_at "y flat"); (case f2 => walk_at "y flat"); (case ev => walk_at "y eqv"))))
local macro_rules | `(tactic| walk_at "y old In") => `(tactic| first
  | ((with_reducible refine' Y.x_inL (bb := false) ?F ?m ?f ?fs ?e ?_); (case F => assumption); (case m => walk_at "y mem"); (case f => rfl); (case fs => rfl); (case e => rfl))
  | ((with_reducible refine' Y.x_inL (bb := true) ?F ?m ?f ?fs ?e ?_); (case F => assumption); (case m => walk_at "y mem"); (case f => rfl); (case fs => rfl); (case e => rfl))
  | ((with_reducible refine' Y.x_inL ?F ?m ?f ?fs ?e ?_); (case F => assumption); (case m => walk_at "y mem"); (case f => rfl); (case fs => rfl); (case e => rfl))
  | ((with_reducible refine' Y.x_inT (bb := false) ?F ?m ?f ?fs ?e ?_); (case F => assumption); (case m => walk_at "y mem"); (case f => rfl); (case fs => rfl); (case e => rfl))
  | ((with_reducible refine' Y.x_inT (bb := true) ?F ?m ?f ?fs ?e ?_); (case F => assumption); (case m => walk_at "y mem"); (case f => rfl); (case fs => rfl); (case e => rfl))
  | ((with_reducible refine' Y.x_inT ?F ?m ?f ?fs ?e ?_); (case F => assumption); (case m => walk_at "y mem"); (case f => rfl); (case fs => rfl); (case e => rfl))
  | ((with_reducible refine' Y.x_ninL (bb := false) ?F ?m ?f ?fs ?e ?_); (case F => assumption); (case m => walk_at "y mem"); (case f => rfl); (case fs => rfl); (case e => rfl))
  | ((with_reducible refine' Y.x_ninL (bb := true) ?F ?m ?f ?fs ?e ?_); (case F => assumption); (case m => walk_at "y mem"); (case f => rfl); (case fs => rfl); (case e => rfl))
  | ((with_reducible refine' Y.x_ninL ?F ?m ?f ?fs ?e ?_); (case F => assumption); (case m => walk_at "y mem"); (case f => rfl); (case fs => rfl); (case e => rfl))
  | ((with_reducible refine' Y.x_ninT (bb := false) ?F ?m ?f ?fs ?e ?_); (case F => assumption); (case m => walk_at "y mem"); (case f => rfl); (case fs => rfl); (case e => rfl))
  | ((with_reducible refine' Y.x_ninT (bb := true) ?F ?m ?f ?fs ?e ?_); (case F => assumption); (case m => walk_at "y mem"); (case f => rfl); (case fs => rfl); (case e => rfl))
  | ((with_reducible refine' Y.x_ninT ?F ?m ?f ?fs ?e ?_); (case F => assumption); (case m => walk_at "y mem"); (case f => rfl); (case fs => rfl); (case e => rfl)))
local macro_rules | `(tactic| walk_at "y old Ty") => `(tactic| first
  | ((with_reducible refine Y.is_isi ?_); first
    | ((with_reducible refine' Y.x_isr_list_int ?F ?m ?_); (case F => assumption); (case m => walk_at "y mem"))
    | ((with_reducible refine' Y.x_isr_list_bool ?F ?m ?_); (case F => assumption); (case m => walk_at "y mem"))
    | ((with_reducible refine' Y.x_isr_list_str ?F ?m ?_); (case F => assumption); (case m => walk_at "y mem"))
    | ((with_reducible refine' Y.x_isr_list_list ?F ?m ?_); (case F => assumption); (case m => walk_at "y mem"))
    | ((with_reducible refine' Y.x_isr_list_tuple ?F ?m ?_); (case F => assumption); (case m => walk_at "y mem"))
    | ((with_reducible refine' Y.x_isr_list_dict ?F ?m ?_); (case F => assumption); (case m => walk_at "y mem"))
    | ((with_reducible refine' Y.x_isr_tuple_int ?F ?m ?_); (case F => assumption); (case m => walk_at "y mem"))
    | ((with_reducible refine' Y.x_isr_tuple_bool ?F ?m ?_); (case F => assumption); (case m => walk_at "y mem"))
    | ((with_reducible refine' Y.x_isr_tuple_str ?F ?m ?_); (case F => assumption); (case m => walk_at "y mem"))
    | ((with_reducible refine' Y.x_isr_tuple_list ?F ?m ?_); (case F => assumption); (case m => walk_at "y mem"))
    | ((with_reducible refine' Y.x_isr_tuple_tuple ?F ?m ?_); (case F => assumption); (case m => walk_at "y mem"))
    | ((with_reducible refine' Y.x_isr_tuple_dict ?F ?m ?_); (case F => assumption); (case m => walk_at "y mem"))))
local macro_rules | `(tactic| walk_at "y old Oth") => `(tactic| first
  | ((with_reducible refine' Y.x_wipe ?e ?_); (case e => rfl))
  | ((with_reducible refine' Y.x_lcPut ?F ?pu ?sz ?_); (case F => assumption); (case pu => walk_at "y put"); (case sz => walk_at "y size"); intro _ _)
  | ((with_reducible refine' Y.x_mDG ?F ?hm ?mt ?l ?_); (case F => assumption); (case hm => walk_at "y mem"); (case mt => walk_at "y mem"); (case l => walk_at "y field"))
  | ((with_reducible refine' Y.x_fldDG ?F ?m ?mt ?l ?_); (case F => assumption); (case m => walk_at "y mem"); (case mt => walk_at "y mem"); (case l => walk_at "y field"))
  | ((with_reducible refine' Y.x_setFDG ?F ?m ?mt ?z ?e ?pu ?_); (case F => assumption); (case m => walk_at "y mem"); (case mt => walk_at "y mem"); (case z => walk_at "y size"); (case e => walk_at "y putf"); (case pu => walk_at "y put"); intro _ _)
  | ((with_reducible refine' Y.x_augFDG ?F ?m ?mt ?l ?_); (case F => assumption); (case m => walk_at "y mem"); (case mt => walk_at "y mem"); (case l => walk_at "y field"))
  | ((with_reducible refine' Y.x_propDG ?F ?m ?mt ?_); (case F => assumption); (case m => walk_at "y mem"); (case mt => walk_at "y mem"))
  | ((with_reducible refine' Y.x_supM ?F ?m ?mt ?_); (case F => assumption); (case m => walk_at "y mem"); (case mt => walk_at "y mem"))
  | ((with_reducible refine' Y.x_getL ?F ?m ?a ?_); (case F => assumption); (case m => walk_at "y mem"); (case a => walk_at "y at"))
  | ((with_reducible refine' Y.x_wTs ?mt ?rf ?_); (case mt => walk_at "y mem"); (case rf => rfl); intro _)
  | ((with_reducible refine' Y.x_wTn ?mt ?rf ?_); (case mt => walk_at "y mem"); (case rf => rfl); intro _)
  | ((with_reducible refine' Y.x_xfG ?F ?m ?mt ?l ?_); (case F => assumption); (case m => walk_at "y mem"); (case mt => walk_at "y mem"); (case l => walk_at "y field"))
  | ((with_reducible refine' Y.x_isX ?F ?m ?mt ?_); (case F => assumption); (case m => walk_at "y mem"); (case mt => walk_at "y mem"))
  | ((with_reducible refine' Y.x_isXi  ?_); )
  | ((with_reducible refine' Y.x_fldG ?F ?m ?l ?_); (case F => assumption); (case m => walk_at "y mem"); (case l => walk_at "y field"))
  | ((with_reducible refine' Y.x_methG ?F ?m ?l ?_); (case F => assumption); (case m => walk_at "y mem"); (case l => walk_at "y field"))
  | ((with_reducible refine' Y.x_inOwnF ?F ?m ?_); (case F => assumption); (case m => walk_at "y mem"))
  | ((with_reducible refine' Y.x_inOwnT ?F ?m ?_); (case F => assumption); (case m => walk_at "y mem"))
  | ((with_reducible refine' Y.x_setFG ?F ?m ?z ?e ?pu ?_); (case F => assumption); (case m => walk_at "y mem"); (case z => walk_at "y size"); (case e => walk_at "y putf"); (case pu => walk_at "y put"); intro _ _)
  | ((with_reducible refine' Y.x_setL ?F ?m ?ax ?pu ?_); (case F => assumption); (case m => walk_at "y mem"); (case ax => walk_at "y ix"); (case pu => walk_at "y put"); intro _ _)
  | ((with_reducible refine' Y.x_apdG ?F ?m ?_); (case F => assumption); (case m => walk_at "y mem"))
  | ((with_reducible refine' Y.x_append ?F ?m ?z ?pu ?_); (case F => assumption); (case m => walk_at "y mem"); (case z => walk_at "y size"); (case pu => walk_at "y put"); intro _ _)
  | ((with_reducible refine' Y.x_lstG ?F ?z ?_); (case F => assumption); (case z => walk_at "y size"); intro _ _ _ _)
  | ((with_reducible refine' Y.x_tupG ?F ?z ?_); (case F => assumption); (case z => walk_at "y size"); intro _ _ _ _)
  | ((with_reducible refine' Y.forTU ?F ?m ?_); (case F => assumption); (case m => walk_at "y mem"))
  | ((with_reducible refine' Y.x_sumL ?F ?m ?_); (case F => assumption); (case m => walk_at "y mem"))
  | ((with_reducible refine' Y.x_cat ?F ?m ?n ?z ?_); (case F => assumption); (case m => walk_at "y mem"); (case n => walk_at "y mem"); (case z => walk_at "y size"); intro _ _ _ _)
  | ((with_reducible refine' Y.x_propG ?F ?m ?_); (case F => assumption); (case m => walk_at "y mem"))
  | ((with_reducible refine' Y.x_augFG ?F ?m ?l ?_); (case F => assumption); (case m => walk_at "y mem"); (case l => walk_at "y field"))
  | ((with_reducible refine' Y.x_augFS ?F ?m ?z ?e ?pu ?_); (case F => assumption); (case m => walk_at "y mem"); (case z => walk_at "y size"); (case e => walk_at "y putf"); (case pu => walk_at "y put"); intro _ _))
local macro_rules | `(tactic| walk_at "y open") => `(tactic| with_reducible first | unfold Y.KFl | unfold Y.KFlD | unfold Y.KSf | unfold Y.KSfD | unfold Y.KAf | unfold Y.KAs | unfold Y.KAfD | unfold Y.KMe | unfold Y.KMD | unfold Y.KPr | unfold Y.KPrD | unfold Y.KAp | unfold Y.KBl | unfold Y.KIn)
local macro_rules | `(tactic| walk_at "y 1") => `(tactic| first
  | ((with_reducible refine Y.go ?_); intros)
  | ((with_reducible refine Y.hdAr_is ?_); walk_at "y old Ar")
  | ((with_reducible refine Y.hdIx_is ?_); walk_at "y old Ix")
  | ((with_reducible refine Y.hdEq_is ?_); walk_at "y old Eq")
  | ((with_reducible refine Y.hdIn_is ?_); walk_at "y old In")
  | ((with_reducible refine Y.hdTy_is ?_); walk_at "y old Ty")
  | ((with_reducible refine Y.hdFm_is ?_); ((with_reducible refine' Y.x_fmI ?b ?_); (case b => omega)))
  | ((with_reducible refine Y.hdK_is ?_); walk_at "y open"; walk_at "y old Oth")
  | ((with_reducible refine Y.hd_is ?_); walk_at "y old Oth"))
local macro_rules | `(tactic| walk_at "y if") => `(tactic| first
  | ((with_reducible refine Y.x_ite ?_ ?_); all_goals (intro _; try (exfalso; omega)))
  | ((with_reducible refine Y.x_niteP ?_ ?_); all_goals (intro _; try (exfalso; omega)))
  | ((with_reducible refine Y.x_itec ?_ ?_); all_goals intro _)
  | ((with_reducible refine Y.x_nitec ?_ ?_); all_goals intro _))
local macro_rules | `(tactic| walk_at "y") => `(tactic| repeat' (first | walk_at "y 1" | walk_at "y if" | walk_at "y spec"))

section
set_option synthInstance.checkSynthOrder false
/-! the rows of a ledger -/
structure Row where
  s : Int
  o : Int
  p : Option Int
  w : List Int
  g : List Int
def oV : Option Int → V
  | none => .non
  | some i => .int i
/-- the row at an address; its tuples stand in X -/
inductive RAt (X : List Ent) (a : Addr) (r : Row) : Prop
  | mk (aw ag : Addr) (m0 : (a, Is (.tup [.int r.s, .int r.o, oV r.p, .ref aw, .ref ag])) ∈ X) (m1 : (aw, Is (.tup (r.w.map V.int))) ∈ X) (m2 : (ag, Is (.tup (r.g.map V.int))) ∈ X)
theorem RAt.mono {X Y : List Ent} {a : Addr} {r : Row} (h : RAt X a r) (s : ∀ e ∈ X, e ∈ Y) : RAt Y a r := by
  obtain ⟨aw, ag, m0, m1, m2⟩ := h
  exact ⟨aw, ag, s _ m0, s _ m1, s _ m2⟩
inductive RAts (X : List Ent) : List V → List Row → Prop
  | nil : RAts X [] []
  | cons {a : Addr} {r : Row} {vs : List V} {rs : List Row} (h : RAt X a r) (t : RAts X vs rs) : RAts X (.ref a :: vs) (r :: rs)
theorem RAts.mono {X Y : List Ent} {vs : List V} {rs : List Row} (h : RAts X vs rs) (s : ∀ e ∈ X, e ∈ Y) : RAts Y vs rs := by
  induction h with
  | nil => exact .nil
  | cons h t ih => exact .cons (h.mono s) ih
theorem RAts.len {X : List Ent} {vs : List V} {rs : List Row} (h : RAts X vs rs) : vs.length = rs.length := by
  induction h with
  | nil => rfl
  | cons h t ih => rw [List.length_cons, List.length_cons, ih]
theorem RAts.get {X : List Ent} {vs : List V} {rs : List Row} (h : RAts X vs rs) {i : Nat} {v : V} (e : vs[i]? = some v) : ∃ a r, v = .ref a ∧ rs[i]? = some r ∧ RAt X a r := by
  induction h generalizing i with
  | nil => cases i <;> cases e
  | @cons a r vs rs h t ih =>
    cases i with
    | zero => cases e; exact ⟨a, r, rfl, rfl, h⟩
    | succ i => exact ih e
theorem RAts.take {X : List Ent} {vs : List V} {rs : List Row} (h : RAts X vs rs) (n : Nat) : RAts X (vs.take n) (rs.take n) := by
  induction h generalizing n with
  | nil => rw [List.take_nil, List.take_nil]; exact .nil
  | cons h t ih =>
    cases n with
    | zero => exact .nil
    | succ n => exact .cons h (ih n)
theorem RAts.drop {X : List Ent} {vs : List V} {rs : List Row} (h : RAts X vs rs) (n : Nat) : RAts X (vs.drop n) (rs.drop n) := by
  induction h generalizing n with
  | nil => rw [List.drop_nil, List.drop_nil]; exact .nil
  | cons h t ih =>
    cases n with
    | zero => exact .cons h t
    | succ n => exact ih n
theorem RAts.app {X : List Ent} {vs ws : List V} {rs ss : List Row} (h : RAts X vs rs) (k : RAts X ws ss) : RAts X (vs ++ ws) (rs ++ ss) := by
  induction h with
  | nil => exact k
  | cons h t ih => exact .cons h ih
/-! the rule of a row -/
def hasR (r : Row) : Bool := decide (0 < r.g.length)
def sameM (r x : Row) : Bool := decide (x.s = r.s) && decide (x.o = r.o)
def sameP (r x : Row) : Bool := decide (x.s = r.s) && (decide (x.p = r.p) && hasR x)
def mate (r x : Row) : Bool := !decide (x.s = r.s) && (decide (some x.o = r.p) && decide (x.p = some r.o))
def rule (r : Row) (es rs : List Row) : Option Str :=
  if es.any (sameM r) = true then some "mark" else if hasR r = false then none else if es.any (sameP r) = true then some "peer" else
  match rs.find? (mate r) with
  | none => some "pair"
  | some x => if x.w.take r.g.length = r.g then none else some "prefix"
theorem any_take {f : Row → Bool} {es : List Row} {i : Nat} {r : Row} (h : es[i]? = some r) : (es.take (i + 1)).any f = ((es.take i).any f || f r) := by
  rw [List.take_add_one, h, List.any_append]
  simp
theorem find_take {f : Row → Bool} {es : List Row} {i : Nat} {r : Row} (h : es[i]? = some r) (hn : (es.take i).find? f = none) : (es.take (i + 1)).find? f = if f r = true then some r else none := by
  rw [List.take_add_one, h, List.find?_append, hn]
  simp [List.find?]
theorem any_of_at {f : Row → Bool} {es : List Row} {i : Nat} {r : Row} (h : es[i]? = some r) (hf : f r = true) : es.any f = true := List.any_eq_true.mpr ⟨r, List.mem_of_getElem? h, hf⟩
theorem find_of_at {f : Row → Bool} {es : List Row} {i : Nat} {r : Row} (h : es[i]? = some r) (hn : (es.take i).find? f = none) (hf : f r = true) : es.find? f = some r := by
  have e := find_take h hn
  rw [if_pos hf] at e
  rw [← List.take_append_drop (i + 1) es, List.find?_append, e]
  rfl
instance mm_appR {α : Type} {x : α} {A B : List α} [m : Mm x B] : Mm x (A ++ B) := ⟨List.mem_append_right _ m.m⟩
instance mm_appL {α : Type} {x : α} {A B : List α} [m : Mm x A] : Mm x (A ++ B) := ⟨List.mem_append_left _ m.m⟩
/-! comparisons with a peer, which may be none -/
instance i_isS {z : Str} {H : Hp} {Q : VK} : St1 (rIs (.str z) .non H Q) (Q (.bl false) H) := ⟨fun h => ⟨rfl, h⟩⟩
instance i_isnS {z : Str} {H : Hp} {Q : VK} : St1 (rIsNot (.str z) .non H Q) (Q (.bl true) H) := ⟨fun h => ⟨rfl, h⟩⟩
theorem eq_oo {S : Sta} {x y : Option Int} {H : Hp} {Q : VK} (h : Q (.bl (decide (x = y))) H) : rEqP S (oV x) (oV y) H Q := by
  cases x <;> cases y
  · exact x_eqP_nn (by simpa using h)
  · exact x_eqP_ni (by simpa using h)
  · exact x_eqP_in (by simpa using h)
  · exact x_eqPI (by simpa using h)
instance i_eqoo {S : Sta} {x y : Option Int} {H : Hp} {Q : VK} : St1 (rEqP S (oV x) (oV y) H Q) (Q (.bl (decide (x = y))) H) := ⟨eq_oo⟩
instance i_eqio {S : Sta} {i : Int} {y : Option Int} {H : Hp} {Q : VK} : St1 (rEqP S (.int i) (oV y) H Q) (Q (.bl (decide (some i = y))) H) := ⟨eq_oo (x := some i)⟩
instance i_eqoi {S : Sta} {i : Int} {y : Option Int} {H : Hp} {Q : VK} : St1 (rEqP S (oV y) (.int i) H Q) (Q (.bl (decide (y = some i))) H) := ⟨eq_oo (y := some i)⟩

theorem has_read_ok {a : Cl} {H : Hp} {L : List Ent} {q : Addr} {r : Row} {Q : VK} {E : XK} (F : FH H L) (hr : RAt L q r) (k : Q (.bl (hasR r)) H) : sp_has_read a [.ref q] H Q E := by
  obtain ⟨aw, ag, m0, m1, m2⟩ := hr
  have i0 : Mm _ L := ⟨m0⟩
  have i2 : Mm _ L := ⟨m2⟩
  refine in_has_read ?_
  walk_at "y"
  have e : decide ((0 : Int) < ((r.g.map V.int).length : Int)) = hasR r := by
    unfold hasR
    rw [List.length_map, Bool.eq_iff_iff]
    simp
  rw [e]
  exact k
theorem rep_mark_ok {a : Cl} {H : Hp} {L : List Ent} {q e : Addr} {r : Row} {vs : List V} {es : List Row} {Q : VK} {E : XK} (F : FH H L) (hr : RAt L q r) (me : (e, Is (.lst vs)) ∈ L) (hv : RAts L vs es) (k : ∀ H', FH H' L → Q (.bl (es.any (sameM r))) H') : sp_repeats_mark a [.ref q, .ref e] H Q E := by
  obtain ⟨aw, ag, m0, m1, m2⟩ := hr
  have i0 : Mm _ L := ⟨m0⟩
  refine in_repeats_mark ?_
  repeat' walk_at "y 1"
  refine forL (fun i σ => (∃ y, σ = [some (.ref q), some (.ref e), y]) ∧ (es.take i).any (sameM r) = false) F (.is me) ⟨⟨_, rfl⟩, by rw [List.take_zero]; rfl⟩ ?_ ?_
  · clear F
    intro i y σ H hy ⟨⟨y0, e1⟩, hn⟩ F
    subst e1
    obtain ⟨b, x, rfl, hx, ra⟩ := hv.get hy
    obtain ⟨bw, bg, n0, n1, n2⟩ := ra
    have j0 : Mm _ L := ⟨n0⟩
    walk_at "y"
    all_goals first
      | (have e3 : es.any (sameM r) = true := any_of_at hx (by simp only [sameM, *, decide_true, Bool.and_self])
         rw [e3] at k
         exact k _ F)
      | (refine ⟨⟨⟨_, rfl⟩, ?_⟩, F⟩
         rw [any_take hx, hn]
         simp only [sameM, *, decide_false, Bool.and_false, Bool.false_and, Bool.or_false])
  · clear F
    intro σ H ⟨⟨y0, e1⟩, hn⟩ F
    subst e1
    rw [hv.len, List.take_length] at hn
    walk_at "y"
    rw [hn] at k
    exact k _ F
theorem rep_peer_ok {a : Cl} {H : Hp} {L : List Ent} {q e : Addr} {r : Row} {vs : List V} {es : List Row} {Q : VK} {E : XK} (F : FH H L) (hr : RAt L q r) (me : (e, Is (.lst vs)) ∈ L) (hv : RAts L vs es) (k : ∀ H', FH H' L → Q (.bl (hasR r && es.any (sameP r))) H') : sp_repeats_peer a [.ref q, .ref e] H Q E := by
  refine in_repeats_peer ?_
  repeat' walk_at "y 1"
  refine has_read_ok F hr ?_
  cases hh : hasR r with
  | false =>
    repeat' walk_at "y 1"
    rw [hh] at k
    exact k _ F
  | true =>
    obtain ⟨aw, ag, m0, m1, m2⟩ := hr
    have i0 : Mm _ L := ⟨m0⟩
    repeat' walk_at "y 1"
    rw [hh] at k
    simp only [Bool.true_and] at k
    refine forL (fun i σ => (∃ y, σ = [some (.ref q), some (.ref e), y]) ∧ (es.take i).any (sameP r) = false) F (.is me) ⟨⟨_, rfl⟩, by rw [List.take_zero]; rfl⟩ ?_ ?_
    · clear F
      intro i y σ H hy ⟨⟨y0, e1⟩, hn⟩ F
      subst e1
      obtain ⟨b, x, rfl, hx, ra⟩ := hv.get hy
      have ra' := ra
      obtain ⟨bw, bg, n0, n1, n2⟩ := ra
      have j0 : Mm _ L := ⟨n0⟩
      repeat' (first | walk_at "y 1" | walk_at "y if" | (refine has_read_ok F ra' ?_; cases hx2 : hasR x))
      all_goals first
        | (have e3 : es.any (sameP r) = true := any_of_at hx (by simp only [sameP, *, decide_true, Bool.and_self])
           rw [e3] at k
           exact k _ F)
        | (refine ⟨⟨⟨_, rfl⟩, ?_⟩, F⟩
           rw [any_take hx, hn]
           simp only [sameP, *, decide_false, Bool.and_false, Bool.false_and, Bool.or_false])
    · clear F
      intro σ H ⟨⟨y0, e1⟩, hn⟩ F
      subst e1
      rw [hv.len, List.take_length] at hn
      walk_at "y"
      rw [hn] at k
      exact k _ F
theorem partner_ok {a : Cl} {H : Hp} {L : List Ent} {q e : Addr} {r : Row} {vs : List V} {rs : List Row} {Q : VK} {E : XK} (F : FH H L) (hr : RAt L q r) (me : (e, Is (.lst vs)) ∈ L) (hv : RAts L vs rs) (k0 : rs.find? (mate r) = none → ∀ H', FH H' L → Q .non H') (k1 : ∀ b x, rs.find? (mate r) = some x → RAt L b x → ∀ H', FH H' L → Q (.ref b) H') : sp_partner_of a [.ref q, .ref e] H Q E := by
  obtain ⟨aw, ag, m0, m1, m2⟩ := hr
  have i0 : Mm _ L := ⟨m0⟩
  refine in_partner_of ?_
  repeat' walk_at "y 1"
  refine forL (fun i σ => (∃ y, σ = [some (.ref q), some (.ref e), y]) ∧ (rs.take i).find? (mate r) = none) F (.is me) ⟨⟨_, rfl⟩, by rw [List.take_zero]; rfl⟩ ?_ ?_
  · clear F
    intro i y σ H hy ⟨⟨y0, e1⟩, hn⟩ F
    subst e1
    obtain ⟨b, x, rfl, hx, ra⟩ := hv.get hy
    have ra' := ra
    obtain ⟨bw, bg, n0, n1, n2⟩ := ra
    have j0 : Mm _ L := ⟨n0⟩
    walk_at "y"
    all_goals first
      | exact k1 b x (find_of_at hx hn (by simp only [mate, *, decide_true, decide_false, Bool.not_false, Bool.and_self])) ra' _ F
      | (refine ⟨⟨⟨_, rfl⟩, ?_⟩, F⟩
         rw [find_take hx hn, if_neg]
         first
           | (simp only [mate, *, decide_true, decide_false, Bool.not_true, Bool.and_false, Bool.false_and, Bool.false_eq_true, not_false_eq_true]; done)
           | simp_all [mate])
  · clear F
    intro σ H ⟨⟨y0, e1⟩, hn⟩ F
    subst e1
    rw [hv.len, List.take_length] at hn
    walk_at "y"
    exact k0 hn _ F
theorem cut_take {xs : List V} {n : Nat} : cutV xs none (some (n : Int)) = xs.take n := by
  unfold cutV
  rw [HT.sIx_none, HT.sIx_nat, List.drop_zero, Nat.sub_zero, ← List.take_eq_take_min]
theorem cut_drop {xs : List V} {n : Nat} : cutV xs (some (n : Int)) none = xs.drop n := by
  unfold cutV
  rw [HT.sIx_none, HT.sIx_nat]
  by_cases h : n ≤ xs.length
  · rw [Nat.min_eq_left h, List.take_of_length_le (by rw [List.length_drop]; exact Nat.le_refl _)]
  · rw [Nat.min_eq_right (by omega), List.drop_length, List.take_nil, List.drop_of_length_le (by omega)]
theorem x_tsl {S : Sta} {H : Hp} {L : List Ent} {p : Addr} {xs : List V} {lo hi : Option Int} {Q : VK} (F : FH H L) (m : (p, Is (.tup xs)) ∈ L) (h : ∀ q Y H', FH H' (Y ++ L) → (q, Is (.tup (cutV xs lo hi))) ∈ Y ++ L → Q (.ref q) H') : rTSl S (.ref p) lo hi H Q :=
  ⟨p, xs, rfl, .inl (.inl (F.get m)), fun e => h p [] H F (by rw [e]; exact m), fun q hq => h q [(q, Is (.tup (cutV xs lo hi)))] _ (F.new hq) List.mem_cons_self⟩
theorem is_prefix_ok {a : Cl} {H : Hp} {L : List Ent} {p q : Addr} {xs ys : List Int} {Q : VK} {E : XK} (F : FH H L) (m1 : (p, Is (.tup (xs.map V.int))) ∈ L) (m2 : (q, Is (.tup (ys.map V.int))) ∈ L) (k : ∀ H', FH H' L → Q (.bl (decide (ys.take xs.length = xs))) H') : sp_is_prefix a [.ref p, .ref q] H Q E := by
  have i1 : Mm _ L := ⟨m1⟩
  have i2 : Mm _ L := ⟨m2⟩
  refine in_is_prefix ?_
  repeat' walk_at "y 1"
  refine x_tsl F m2 fun z Y H1 F1 m3 => ?_
  rw [List.length_map, cut_take, ← List.map_take] at m3
  have n1 : (p, Is (.tup (xs.map V.int))) ∈ Y ++ L := List.mem_append_right _ m1
  have i3 : Mm _ (Y ++ L) := ⟨m3⟩
  have i4 : Mm _ (Y ++ L) := ⟨n1⟩
  repeat' walk_at "y 1"
  exact k _ (F1.sub (List.sublist_append_right _ _))
theorem broken_rule_ok {a : Cl} {H : Hp} {L : List Ent} {q e l : Addr} {r : Row} {us vs : List V} {es rs : List Row} {Q : VK} {E : XK} (F : FH H L) (hr : RAt L q r) (me : (e, Is (.lst us)) ∈ L) (hu : RAts L us es) (ml : (l, Is (.lst vs)) ∈ L) (hv : RAts L vs rs)
    (k0 : rule r es rs = none → ∀ H', FH H' L → Q .non H') (k1 : ∀ z, rule r es rs = some z → ∀ H', FH H' L → Q (.str z) H') : sp_broken_rule a [.ref q, .ref e, .ref l] H Q E := by
  refine in_broken_rule ?_
  unfold rule at k0 k1
  repeat' walk_at "y 1"
  refine rep_mark_ok F hr me hu fun H1 F1 => ?_
  clear F
  cases h1 : es.any (sameM r) with
  | true =>
    rw [h1] at k1
    repeat' walk_at "y 1"
    exact k1 _ rfl _ F1
  | false =>
    rw [h1] at k0 k1
    simp only [Bool.false_eq_true, if_false] at k0 k1
    repeat' walk_at "y 1"
    refine rep_peer_ok F1 hr me hu fun H2 F2 => ?_
    clear F1
    cases h2 : hasR r with
    | false =>
      rw [h2] at k0 k1
      simp only [Bool.false_and]
      repeat' walk_at "y 1"
      refine has_read_ok F2 hr ?_
      rw [h2]
      repeat' walk_at "y 1"
      exact k0 rfl _ F2
    | true =>
      rw [h2] at k0 k1
      simp only [Bool.true_and, Bool.true_eq_false, if_false] at k0 k1 ⊢
      cases h3 : es.any (sameP r) with
      | true =>
        rw [h3] at k1
        repeat' walk_at "y 1"
        exact k1 _ rfl _ F2
      | false =>
        rw [h3] at k0 k1
        simp only [Bool.false_eq_true, if_false] at k0 k1
        repeat' walk_at "y 1"
        refine has_read_ok F2 hr ?_
        rw [h2]
        repeat' walk_at "y 1"
        refine partner_ok F2 hr ml hv (fun h4 H3 F3 => ?_) fun b x h4 hb H3 F3 => ?_
        · rw [h4] at k1
          repeat' walk_at "y 1"
          exact k1 _ rfl _ F3
        · rw [h4] at k0 k1
          clear F2
          obtain ⟨aw, ag, m0, m1, m2⟩ := hr
          obtain ⟨bw, bg, n0, n1, n2⟩ := hb
          have i0 : Mm _ L := ⟨m0⟩
          have j0 : Mm _ L := ⟨n0⟩
          repeat' walk_at "y 1"
          refine is_prefix_ok F3 m2 n1 fun H4 F4 => ?_
          by_cases h5 : x.w.take r.g.length = r.g
          · rw [decide_eq_true h5]
            simp only [h5, if_true] at k0
            repeat' walk_at "y 1"
            exact k0 trivial _ F4
          · rw [decide_eq_false h5]
            simp only [h5, if_false] at k1
            repeat' walk_at "y 1"
            exact k1 _ rfl _ F4

end
section
/-! what a text of data comes to -/
mutual
def costD : PyData → Nat
  | .none => 5
  | .bool _ => 5
  | .int _ => 1921
  | .str x => (reprText x).length
  | .list xs => costDs xs + 3
  | .tuple xs => costDs xs + 3
  | .dict kvs => (PyData.shown (.dict kvs)).length
def costDs : List PyData → Nat
  | [] => 0
  | x :: xs => costD x + 2 + costDs xs
end
mutual
theorem shown_le : ∀ d : PyData, d.showable = true → d.shown.length ≤ costD d
  | .none, _ => by rw [PyData.shown, costD]; decide
  | .bool b, _ => by rw [PyData.shown, costD]; cases b <;> decide
  | .int i, h => by rw [PyData.shown, costD]; exact int_text_len_1921 (by simpa [PyData.showable] using h)
  | .str x, _ => by rw [PyData.shown, costD]; exact Nat.le_refl _
  | .list xs, h => by
    rw [PyData.shown, costD]
    have h1 := listText_len_le (PyData.shownAll xs)
    have h2 := shownAll_le xs (by simpa [PyData.showable] using h)
    omega
  | .tuple xs, h => by
    rw [PyData.shown, costD]
    have h1 := tupleText_len_le (PyData.shownAll xs)
    have h2 := shownAll_le xs (by simpa [PyData.showable] using h)
    omega
  | .dict kvs, _ => by rw [costD]; exact Nat.le_refl _
theorem shownAll_le : ∀ ds : List PyData, PyData.showableAll ds = true → ((PyData.shownAll ds).map (·.length)).sum + 2 * (PyData.shownAll ds).length ≤ costDs ds
  | [], _ => by rw [PyData.shownAll, costDs]; decide
  | x :: xs, h => by
    rw [PyData.showableAll, Bool.and_eq_true] at h
    have h1 := shown_le x h.1
    have h2 := shownAll_le xs h.2
    rw [PyData.shownAll, costDs, List.map_cons, List.sum_cons, List.length_cons]
    omega
end
theorem x_repr {S : Sta} {H : Hp} {v : V} {d : PyData} {Q : VK} (p : DpS S H v d) (h1 : d.showable = true) (h2 : d.hasDict = false) (h3 : d.depth ≤ 20) (h4 : costD d ≤ 16777216) (h : Q (.str d.shown) H) : rRepr S [v] H Q :=
  ⟨v, d, rfl, p, h1, h2, h3, by rw [sizeLine_eq]; exact Nat.le_trans (shown_le d h1) h4, h⟩
theorem log_small {i : Int} (h : -18446744073709551616 < i ∧ i < 18446744073709551616) : i.natAbs.log2 < 1920 := by
  by_cases e : i.natAbs = 0
  · rw [e]; decide
  · have h2 := Nat.log2_self_le e
    have h3 : 2 ^ i.natAbs.log2 < 2 ^ 64 := by
      have : (2 : Nat) ^ 64 = 18446744073709551616 := by decide
      omega
    have := (Nat.pow_lt_pow_iff_right (by decide : 1 < 2)).mp h3
    omega
theorem ints_show : ∀ {ns : List Int}, (∀ n ∈ ns, -18446744073709551616 < n ∧ n < 18446744073709551616) → PyData.showableAll (ns.map PyData.int) = true ∧ PyData.hasDictAll (ns.map PyData.int) = false ∧ PyData.depthAll (ns.map PyData.int) = 0 ∧ costDs (ns.map PyData.int) = 1923 * ns.length ∧ PyData.canLayAll0 (ns.map PyData.int) = true
  | [], _ => ⟨rfl, rfl, rfl, rfl, rfl⟩
  | n :: ns, h => by
    obtain ⟨h1, h2, h3, h4, h5⟩ := ints_show (ns := ns) fun x hx => h x (List.mem_cons_of_mem _ hx)
    have h0 := log_small (h n List.mem_cons_self)
    rw [List.map_cons]
    refine ⟨?_, ?_, ?_, ?_, ?_⟩
    · rw [PyData.showableAll, h1, PyData.showable, decide_eq_true h0]; rfl
    · rw [PyData.hasDictAll, h2, PyData.hasDict]; rfl
    · rw [PyData.depthAll, h3, PyData.depth]; rfl
    · rw [costDs, h4, costD, List.length_cons]; omega
    · rw [PyData.canLayAll0, h5, PyData.canLay0]; rfl
theorem dps_ints {S : Sta} {H : Hp} : ∀ {ns : List Int}, DpSs S H (ns.map V.int) (ns.map PyData.int)
  | [] => .nil
  | n :: ns => .cons (.int n) dps_ints
/-- a comprehension over a list that stands, by an invariant of what was kept -/
theorem lcG {S : Sta} {p : Addr} {xs : List V} {L : List Ent} {g : TG} {tt : TT} {tel : TE} {vs : List Nat} {σ σw : L2.St} {H : Hp} {Q : VK} (Pv : Nat → List V → Prop) (F : FH H L) (m : Src S L p xs) (z : xs.length < 16777216) (ew : wipe σ vs = σw) (h0 : Pv 0 []) (hl : ∀ i ys, Pv i ys → ys.length ≤ i)
    (hs : ∀ i y ys D H (QX : V → Hp → Prop) (A : Hp → Prop), xs[i]? = some y → Pv i ys → FH H ((D, Is (.lst ys)) :: L) → (∀ v H', Pv (i + 1) (ys ++ [v]) → FH H' ((D, Is (.lst ys)) :: L) → QX v H') → (∀ H', Pv (i + 1) ys → FH H' ((D, Is (.lst ys)) :: L) → A H') →
      g y σw H fun σ2 H2 => wipe σ2 vs = σw ∧ tt σ2 H2 fun b H3 => if b = true then tel σ2 H3 QX else A H3)
    (hd : ∀ D ys H', Pv xs.length ys → FH H' ((D, Is (.lst ys)) :: L) → Q (.ref D) H') : LcS S g tt tel vs Q (.ref p) σ H := by
  subst ew
  refine ⟨p, xs, rfl, true, m.rdS F, fun D hD => ⟨fun i H => ∃ ys, Pv i ys ∧ FH H ((D, Is (.lst ys)) :: L), ⟨[], h0, F.new hD⟩, fun i H _ ⟨ys, _, q⟩ => m.rdS q.tail, fun i y H e ⟨ys, hp, q⟩ => ?_, fun H ⟨ys, hp, q⟩ => hd D ys H hp q⟩⟩
  have hi : i < xs.length := (List.getElem?_eq_some_iff.mp e).1
  refine hs i y ys D H _ _ e hp q (fun v H' hp' q' => ⟨ys, q'.get (List.Mem.head _), ?_, ys ++ [v], hp', q'.put .here trivial⟩) fun H' hp' q' => ⟨ys, hp', q'⟩
  have := hl i ys hp
  rw [sizeLine_eq]
  omega

def oD : Option Int → PyData
  | none => .none
  | some i => .int i
def rowD (r : Row) : PyData := .tuple [.int r.s, .int r.o, oD r.p, .tuple (r.w.map PyData.int), .tuple (r.g.map PyData.int)]
def sm (i : Int) : Prop := -18446744073709551616 < i ∧ i < 18446744073709551616
/-- what is shown of a row is short -/
structure Row.Ok (n : Nat) (r : Row) : Prop where
  s : 0 ≤ r.s ∧ r.s ≤ 1
  o : sm r.o
  p : ∀ i, r.p = some i → sm i
  w : ∀ i ∈ r.w, sm i
  g : ∀ i ∈ r.g, sm i
  lw : r.w.length ≤ n
  lg : r.g.length ≤ n
theorem Row.Ok.up {n m : Nat} {r : Row} (h : r.Ok n) (hm : n ≤ m) : r.Ok m := ⟨h.s, h.o, h.p, h.w, h.g, Nat.le_trans h.lw hm, Nat.le_trans h.lg hm⟩
theorem oD_show {p : Option Int} (h : ∀ i, p = some i → sm i) : (oD p).showable = true ∧ (oD p).hasDict = false ∧ (oD p).depth = 0 ∧ costD (oD p) ≤ 1921 ∧ (oD p).canLay0 = true := by
  cases p with
  | none => exact ⟨rfl, rfl, rfl, by show (5 : Nat) ≤ 1921; decide, rfl⟩
  | some i => exact ⟨by show decide (i.natAbs.log2 < 1920) = true; exact decide_eq_true (log_small (h i rfl)), rfl, rfl, by show (1921 : Nat) ≤ 1921; decide, rfl⟩
theorem rowD_show {n : Nat} {r : Row} (h : r.Ok n) : (rowD r).showable = true ∧ (rowD r).hasDict = false ∧ (rowD r).depth ≤ 2 ∧ costD (rowD r) ≤ 5790 + 3846 * n ∧ (rowD r).canLay0 = true := by
  obtain ⟨a1, a2, a3, a4, a5⟩ := ints_show h.w
  obtain ⟨b1, b2, b3, b4, b5⟩ := ints_show h.g
  obtain ⟨c1, c2, c3, c4, c5⟩ := oD_show h.p
  have s1 := decide_eq_true (log_small (i := r.s) (by have := h.s; omega))
  have o1 := decide_eq_true (log_small h.o)
  have lw := h.lw
  have lg := h.lg
  unfold rowD
  refine ⟨?_, ?_, ?_, ?_, ?_⟩
  · simp only [PyData.showable, PyData.showableAll, s1, o1, c1, a1, b1, Bool.and_self]
  · simp only [PyData.hasDict, PyData.hasDictAll, c2, a2, b2, Bool.or_self]
  · simp only [PyData.depth, PyData.depthAll, c3, a3, b3]; decide
  · simp only [costD, costDs, a4, b4]; omega
  · simp only [PyData.canLay0, PyData.canLayAll0, c5, a5, b5, Bool.and_self]
theorem RAt.dps {S : Sta} {H : Hp} {L : List Ent} {a : Addr} {r : Row} (F : FH H L) (h : RAt L a r) : DpS S H (.ref a) (rowD r) := by
  obtain ⟨aw, ag, m0, m1, m2⟩ := h
  refine .tup (.inl (.inl (F.get m0))) (.cons (.int _) (.cons (.int _) (.cons ?_ (.cons (.tup (.inl (.inl (F.get m1))) dps_ints) (.cons (.tup (.inl (.inl (F.get m2))) dps_ints) .nil)))))
  cases r.p with
  | none => exact .non
  | some i => exact .int i
theorem RAts.dps {S : Sta} {H : Hp} {L : List Ent} {vs : List V} {rs : List Row} (F : FH H L) (h : RAts L vs rs) : DpSs S H vs (rs.map rowD) := by
  induction h with
  | nil => exact .nil
  | cons h t ih => exact .cons (h.dps F) ih
theorem rows_show {n : Nat} : ∀ {rs : List Row}, (∀ r ∈ rs, r.Ok n) → PyData.showableAll (rs.map rowD) = true ∧ PyData.hasDictAll (rs.map rowD) = false ∧ PyData.depthAll (rs.map rowD) ≤ 2 ∧ costDs (rs.map rowD) ≤ (5792 + 3846 * n) * rs.length ∧ PyData.canLayAll0 (rs.map rowD) = true
  | [], _ => ⟨rfl, rfl, Nat.zero_le _, Nat.zero_le _, rfl⟩
  | r :: rs, h => by
    obtain ⟨h1, h2, h3, h4, h5⟩ := rows_show (rs := rs) fun x hx => h x (List.mem_cons_of_mem _ hx)
    obtain ⟨a1, a2, a3, a4, a5⟩ := rowD_show (h r List.mem_cons_self)
    rw [List.map_cons]
    refine ⟨?_, ?_, ?_, ?_, ?_⟩
    · rw [PyData.showableAll, h1, a1]; rfl
    · rw [PyData.hasDictAll, h2, a2]; rfl
    · rw [PyData.depthAll]; omega
    · rw [costDs, List.length_cons, Nat.mul_add, Nat.mul_one]
      omega
    · rw [PyData.canLayAll0, h5, a5]; rfl
theorem shaped_rows {n : Nat} {rs : List Row} (h : ∀ r ∈ rs, r.Ok n) : SeqAt.shaped (.list (rs.map rowD)) = true := by
  obtain ⟨h1, h2, h3, h4, h5⟩ := rows_show h
  unfold SeqAt.shaped
  rw [PyData.canLay0, h5, PyData.depth, Bool.true_and]
  exact decide_eq_true (by omega)
theorem eqv_nil_rows {rs : List Row} : PyData.eqv (.list (rs.map rowD)) (.list []) = rs.isEmpty := by cases rs <;> rfl
theorem eq_rows {S : Sta} {H : Hp} {L : List Ent} {p q : Addr} {vs : List V} {rs : List Row} {n : Nat} {Q : VK} (F : FH H L) (m : (p, Is (.lst vs)) ∈ L) (hv : RAts L vs rs) (ho : ∀ r ∈ rs, r.Ok n) (m2 : (q, Is (.lst [])) ∈ L) (h : Q (.bl rs.isEmpty) H) : rEqP S (.ref p) (.ref q) H Q :=
  eqG (.lst (.inl (.inl (F.get m))) (hv.dps F)) (.lst (.inl (.inl (F.get m2))) .nil) (shaped_rows ho) rfl eqv_nil_rows h
theorem ne_rows {S : Sta} {H : Hp} {L : List Ent} {p q : Addr} {vs : List V} {rs : List Row} {n : Nat} {Q : VK} (F : FH H L) (m : (p, Is (.lst vs)) ∈ L) (hv : RAts L vs rs) (ho : ∀ r ∈ rs, r.Ok n) (m2 : (q, Is (.lst [])) ∈ L) (h : Q (.bl (!rs.isEmpty)) H) : rNeP S (.ref p) (.ref q) H Q :=
  neG (.lst (.inl (.inl (F.get m))) (hv.dps F)) (.lst (.inl (.inl (F.get m2))) .nil) (shaped_rows ho) rfl eqv_nil_rows h

end
section
theorem up_cons {L : List Ent} {x : Ent} : ∀ e ∈ L, e ∈ x :: L := fun _ m => List.mem_cons_of_mem _ m
theorem unsound_ok {a : Cl} {H : Hp} {L : List Ent} {l : Addr} {vs : List V} {rs : List Row} {Q : VK} {E : XK} (F : FH H L) (ml : (l, Is (.lst vs)) ∈ L) (hv : RAts L vs rs) (hz : rs.length < 1000000)
    (k0 : (∀ i r, rs[i]? = some r → rule r (rs.take i) rs = none) → ∀ H', FH H' L → Q .non H')
    (k1 : ∀ i r z p H', rs[i]? = some r → rule r (rs.take i) rs = some z → (∀ j x, j < i → rs[j]? = some x → rule x (rs.take j) rs = none) → FH H' ((p, Is (.tup [.int (i : Int), .str z])) :: L) → Q (.ref p) H') : sp_unsound a [.ref l] H Q E := by
  refine in_unsound ?_
  repeat' walk_at "y 1"
  refine enL (fun i σ => (∃ y1 y2 y3, σ = [some (.ref l), y1, y2, y3]) ∧ ∀ j x, j < i → rs[j]? = some x → rule x (rs.take j) rs = none) F (.inl ml) ⟨⟨_, _, _, rfl⟩, fun j x h => absurd h (Nat.not_lt_zero _)⟩ ?_ ?_
  · clear F
    intro i y σ H hy ⟨⟨y1, y2, y3, e1⟩, hn⟩ F
    subst e1
    obtain ⟨b, x, rfl, hx, ra⟩ := hv.get hy
    repeat' walk_at "y 1"
    rename_i e H1 _ F1
    rw [cut_take] at F1
    clear F
    refine broken_rule_ok F1 (ra.mono up_cons) List.mem_cons_self ((hv.take i).mono up_cons) (.tail _ ml) (hv.mono up_cons) (fun h H2 F2 => ?_) fun z h H2 F2 => ?_
    · repeat' walk_at "y 1"
      refine ⟨⟨⟨_, _, _, rfl⟩, fun j x' hj hx' => ?_⟩, F2.tail⟩
      by_cases e : j = i
      · subst e
        rw [hx] at hx'
        cases hx'
        exact h
      · exact hn j x' (by omega) hx'
    · clear F1
      repeat' walk_at "y 1"
      rename_i p H3 _ F3
      exact k1 i x z p H3 hx h hn (FH.sub F3 (by walk_at "y sub"))
  · clear F
    intro σ H ⟨⟨y1, y2, y3, e1⟩, hn⟩ F
    subst e1
    rw [hv.len] at hn
    repeat' walk_at "y 1"
    exact k0 (fun i r hr => hn i r (List.getElem?_eq_some_iff.mp hr).1 hr) _ F
/-- a filter by a comprehension over rows -/
theorem lc_rows {S : Sta} {p : Addr} {vs : List V} {rs : List Row} {L : List Ent} {tt : TT} {us : List Nat} {n : Nat} {σ σw : L2.St} {H : Hp} {Q : VK} (f : Row → Bool) (F : FH H L) (m : (p, Is (.lst vs)) ∈ L) (hv : RAts L vs rs) (z : rs.length < 1000000) (ew : wipe σ us = σw)
    (hs : ∀ b x D ys H (QX : VK) (A : Hp → Prop), RAt L b x → FH H ((D, Is (.lst ys)) :: L) → (f x = true → ∀ H', FH H' ((D, Is (.lst ys)) :: L) → QX (.ref b) H') → (f x = false → ∀ H', FH H' ((D, Is (.lst ys)) :: L) → A H') → gName n (.ref b) σw H fun σ2 H2 => wipe σ2 us = σw ∧ tt σ2 H2 fun c H3 => if c = true then tVar n σ2 H3 (fun v H4 => QX v H4) else A H3)
    (hd : ∀ D ys H', RAts L ys (rs.filter f) → FH H' ((D, Is (.lst ys)) :: L) → Q (.ref D) H') : LcS S (gName n) tt (tVar n) us Q (.ref p) σ H := by
  refine lcG (fun i ys => RAts L ys ((rs.take i).filter f)) F (.is m) (by rw [hv.len]; omega) ew (by rw [List.take_zero]; exact .nil) (fun i ys h => ?_) (fun i y ys D H QX A hy hp F1 hQ hA => ?_) fun D ys H' hp F1 => hd D ys H' (by rw [hv.len, List.take_length] at hp; exact hp) F1
  · rw [h.len]
    exact Nat.le_trans (List.length_filter_le _ _) (by rw [List.length_take]; exact Nat.min_le_left _ _)
  · obtain ⟨b, x, rfl, hx, ra⟩ := hv.get hy
    have et : rs.take (i + 1) = rs.take i ++ [x] := by rw [List.take_add_one, hx]; rfl
    have h := hs b x D ys H QX A ra F1 (fun hf H' F' => hQ _ _ (by
      rw [et, List.filter_append]
      have e1 : [x].filter f = [x] := by simp [hf]
      rw [e1]
      exact hp.app (.cons ra .nil)) F') (fun hf H' F' => hA _ (by
      rw [et, List.filter_append]
      have e1 : [x].filter f = [] := by simp [hf]
      rw [e1, List.append_nil]
      exact hp) F')
    exact h

end
section
theorem whole_ok {a : Cl} {H : Hp} {i : Int} {Q : VK} {E : XK} (k : Q (.bl true) H) : sp_is_whole a [.int i] H Q E := by
  refine in_is_whole ?_
  walk_at "y"
  exact k

def sideE (r x : Row) : Bool := decide (x.s = r.s)
def ownE (r x : Row) : Bool := decide (x.o = r.o)
def peerE (r x : Row) : Bool := decide (x.p = r.p) && hasR x
theorem ff_any {f g h : Row → Bool} (e : ∀ x, h x = (f x && g x)) : ∀ {l : List Row}, (!((l.filter f).filter g).isEmpty) = l.any h
  | [] => rfl
  | x :: l => by
    have ih := ff_any e (l := l)
    rw [List.any_cons, e x, ← ih, List.filter_cons]
    cases hf : f x
    · simp
    · simp only [if_true, List.filter_cons]
      cases hg : g x
      · simp
      · simp
theorem find_head {f : Row → Bool} : ∀ {l : List Row}, l.find? f = (l.filter f).head?
  | [] => rfl
  | x :: l => by
    rw [List.find?_cons, List.filter_cons]
    cases f x
    · exact find_head
    · rfl
theorem broken_ok {a : Cl} {H : Hp} {L : List Ent} {l : Addr} {vs : List V} {rs : List Row} {r : Row} {i n : Nat} {Q : VK} {E : XK} (F : FH H L) (ml : (l, Is (.lst vs)) ∈ L) (hv : RAts L vs rs) (hz : rs.length < 1000000) (ho : ∀ r ∈ rs, r.Ok n) (hr : rs[i]? = some r)
    (k : ∀ H', FH H' L → Q (.str ((rule r (rs.take i) rs).getD "")) H') : sp_broken a [.ref l, .int (i : Int)] H Q E := by
  have hi := (List.getElem?_eq_some_iff.mp hr).1
  obtain ⟨v, hvi⟩ : ∃ v, vs[i]? = some v := ⟨_, List.getElem?_eq_getElem (by rw [hv.len]; exact hi)⟩
  obtain ⟨q, r', rfl, hr', ra⟩ := hv.get hvi
  rw [hr] at hr'
  cases hr'
  have ra0 := ra
  obtain ⟨aw, ag, m0, m1, m2⟩ := ra0
  have i0 := Mm.mk m0
  have i2 := Mm.mk m2
  have ha : atI vs (i : Int) = some (.ref q) := atI_at (j := i) rfl hvi
  refine in_broken ?_
  unfold rule at k
  repeat' walk_at "y 1"
  rename_i e H1 _ F1
  rw [cut_take] at F1
  clear F
  have hoE : ∀ f : Row → Bool, ∀ x ∈ (rs.take i).filter f, x.Ok n := fun f x hx => ho x (List.mem_of_mem_take (List.mem_filter.mp hx).1)
  have zE : (rs.take i).length < 1000000 := by rw [List.length_take]; omega
  refine lc_rows (sideE r) F1 List.mem_cons_self ((hv.take i).mono up_cons) zE WipeE.e (fun b x D ys H QX A rb F hT hF => ?_) fun D ys H2 hys F2 => ?_
  · obtain ⟨bw, bg, n0, n1, n2⟩ := rb
    have j0 := Mm.mk n0
    walk_at "y"
    · exact hT (by simp only [sideE, *, decide_true]) _ F
    · exact hF (by simp only [sideE, *, decide_false]) _ F
  · repeat' walk_at "y 1"
    refine lc_rows (ownE r) F2 List.mem_cons_self (hys.mono up_cons) (Nat.lt_of_le_of_lt (List.length_filter_le _ _) zE) WipeE.e (fun b x D ys H QX A rb F hT hF => ?_) fun D2 ys2 H3 hys2 F3 => ?_
    · obtain ⟨bw, bg, n0, n1, n2⟩ := rb
      have j0 := Mm.mk n0
      walk_at "y"
      · exact hT (by simp only [ownE, *, decide_true]) _ F
      · exact hF (by simp only [ownE, *, decide_false]) _ F
    · repeat' walk_at "y 1"
      rename_i l0 H4 _ F4
      refine ne_rows F4 (.tail _ List.mem_cons_self) ((hys2.mono up_cons).mono up_cons) (fun x hx => hoE _ x (List.mem_filter.mp hx).1) List.mem_cons_self ?_
      rw [ff_any (f := sideE r) (g := ownE r) (h := sameM r) (fun x => rfl)]
      have F5 : FH H4 ((D, Is (.lst ys)) :: (e, Is (.lst (vs.take i))) :: L) := F4.tail.tail
      clear F1 F2 F3 F4
      have up2 : ∀ x ∈ L, x ∈ (D, Is (.lst ys)) :: (e, Is (.lst (vs.take i))) :: L := fun x m => .tail _ (.tail _ m)
      cases h1 : (rs.take i).any (sameM r) with
      | true =>
        rw [h1] at k
        repeat' walk_at "y 1"
        exact k _ F5.tail.tail
      | false =>
        rw [h1] at k
        simp only [Bool.false_eq_true, if_false] at k
        repeat' (first | walk_at "y 1" | walk_at "y if")
        · rename_i hg
          have h2 : hasR r = false := by
            rw [List.length_map] at hg
            exact decide_eq_false (by omega)
          rw [h2] at k
          simp only [if_true] at k
          exact k _ F5.tail.tail
        · rename_i hg
          have h2 : hasR r = true := by
            rw [List.length_map] at hg
            exact decide_eq_true (by omega)
          rw [h2] at k
          simp only [Bool.true_eq_false, if_false] at k
          refine lc_rows (peerE r) F5 List.mem_cons_self (hys.mono up_cons) (Nat.lt_of_le_of_lt (List.length_filter_le _ _) zE) WipeE.e (fun b x D ys H QX A rb F hT hF => ?_) fun D3 ys3 H5 hys3 F6 => ?_
          · obtain ⟨bw, bg, n0, n1, n2⟩ := rb
            have j0 := Mm.mk n0
            have j2 := Mm.mk n2
            walk_at "y"
            · rename_i e1 e2
              rw [List.length_map] at e2
              exact hT (by unfold peerE hasR; rw [decide_eq_true e1, decide_eq_true (by omega)]; rfl) _ F
            · rename_i e1 e2
              rw [List.length_map] at e2
              exact hF (by unfold peerE hasR; rw [decide_eq_true e1, decide_eq_false (by omega)]; rfl) _ F
            · rename_i e1
              exact hF (by unfold peerE; rw [decide_eq_false e1]; rfl) _ F
          · repeat' walk_at "y 1"
            rename_i l1 H6 _ F7
            refine ne_rows F7 (.tail _ List.mem_cons_self) ((hys3.mono up_cons).mono up_cons) (fun x hx => hoE _ x (List.mem_filter.mp hx).1) List.mem_cons_self ?_
            rw [ff_any (f := sideE r) (g := peerE r) (h := sameP r) (fun x => rfl)]
            have F8 : FH H6 L := F7.tail.tail.tail.tail
            clear F5 F6 F7
            cases h3 : (rs.take i).any (sameP r) with
            | true =>
              rw [h3] at k
              repeat' walk_at "y 1"
              exact k _ F8
            | false =>
              rw [h3] at k
              simp only [Bool.false_eq_true, if_false] at k
              repeat' walk_at "y 1"
              refine lc_rows (mate r) F8 ml hv hz WipeE.e (fun b x D ys H QX A rb F hT hF => ?_) fun D4 ys4 H7 hys4 F9 => ?_
              · obtain ⟨bw, bg, n0, n1, n2⟩ := rb
                have j0 := Mm.mk n0
                walk_at "y"
                all_goals first
                  | exact hT (by simp only [mate, *, decide_true, decide_false, Bool.not_false, Bool.and_self]) _ F
                  | exact hF (by first | (simp only [mate, *, decide_true, decide_false, Bool.not_true, Bool.and_false, Bool.false_and]; done) | simp_all [mate]) _ F
              · rw [find_head] at k
                repeat' walk_at "y 1"
                rename_i l2 H8 _ F10
                refine eq_rows F10 (.tail _ List.mem_cons_self) ((hys4.mono up_cons).mono up_cons) (fun x hx => ho x (List.mem_filter.mp hx).1) List.mem_cons_self ?_
                cases hm : rs.filter (mate r) with
                | nil =>
                  rw [hm] at k
                  repeat' walk_at "y 1"
                  exact k _ F10.tail.tail
                | cons x xs =>
                  rw [hm] at k hys4
                  simp only [List.head?_cons] at k
                  cases hys4 with
                  | cons rb hys5 =>
                    obtain ⟨bw, bg, n0, n1, n2⟩ := rb
                    have j0 := Mm.mk n0
                    rw [show (x :: xs).isEmpty = false from rfl]
                    repeat' walk_at "y 1"
                    refine x_tsl F10 (.tail _ (.tail _ n1)) fun z Y H9 F11 m3 => ?_
                    rw [List.length_map, cut_take, ← List.map_take] at m3
                    have i3 := Mm.mk m3
                    repeat' walk_at "y 1"
                    refine x_nePT F11 m3 (List.mem_append_right Y (.tail _ (.tail _ m2))) flat_ints flat_ints eqv_ints ?_
                    have G : FH H9 L := (F11.sub (List.sublist_append_right _ _)).tail.tail
                    by_cases h5 : x.w.take r.g.length = r.g
                    · rw [decide_eq_true h5]
                      simp only [h5, if_true] at k
                      repeat' walk_at "y 1"
                      exact k _ G
                    · rw [decide_eq_false h5]
                      simp only [h5, if_false] at k
                      repeat' walk_at "y 1"
                      exact k _ G
theorem rule_ne {r : Row} {es rs : List Row} {z : Str} (h : rule r es rs = some z) : z ≠ "" := by
  unfold rule at h
  split at h
  · cases h; decide +kernel
  · split at h
    · cases h
    · split at h
      · cases h; decide +kernel
      · split at h
        · cases h; decide +kernel
        · split at h
          · cases h
          · cases h; decide +kernel
theorem holds_ok {a : Cl} {H : Hp} {L : List Ent} {l : Addr} {vs : List V} {rs : List Row} {n : Nat} {Q : VK} {E : XK} (F : FH H L) (ml : (l, Is (.lst vs)) ∈ L) (hv : RAts L vs rs) (hz : rs.length ≤ 60) (ho : ∀ r ∈ rs, r.Ok n) (hn : n ≤ 20) (k : ∀ H', FH H' L → Q (.bl true) H') : sp_holds a [.ref l] H Q E := by
  obtain ⟨c1, c2, c3, c4, c5⟩ := rows_show ho
  have cost : costD (.list (rs.map rowD)) ≤ 16777216 := by
    rw [costD]
    have : (5792 + 3846 * n) * rs.length ≤ (5792 + 3846 * 20) * 60 := Nat.mul_le_mul (by omega) hz
    omega
  have dep : (PyData.list (rs.map rowD)).depth ≤ 20 := by rw [PyData.depth]; omega
  have sho : (PyData.list (rs.map rowD)).showable = true := by rw [PyData.showable]; exact c1
  have hdi : (PyData.list (rs.map rowD)).hasDict = false := by rw [PyData.hasDict]; exact c2
  have il := Mm.mk ml
  refine in_holds ?_
  repeat' walk_at "y 1"
  rename_i d H1 _ F1
  clear F
  refine x_repr (.lst (.inl (.inl (F1.get List.mem_cons_self))) (hv.dps F1.tail)) sho hdi dep cost ?_
  repeat' walk_at "y 1"
  refine unsound_ok F1 List.mem_cons_self (hv.mono up_cons) (by omega) (fun hn0 H2 F2 => ?_) fun i r z p H2 hr hru hlt F2 => ?_
  all_goals
    repeat' walk_at "y 1"
  · refine x_repr (.lst (.inl (.inl (F2.get List.mem_cons_self))) (hv.dps F2.tail)) sho hdi dep cost ?_
    repeat' walk_at "y 1"
    rw [hv.len]
    refine forG (fun j σ H => (∃ y4 y5, σ = [some (.ref l), some (.ref d), some (.str (PyData.list (rs.map rowD)).shown), some .non, y4, y5]) ∧ FH H L) (by omega) (by omega) ⟨⟨_, _, rfl⟩, F2.tail⟩ ?_ ?_
    · clear F1 F2
      intro j σ H hj ⟨⟨y4, y5, e⟩, F⟩
      subst e
      repeat' walk_at "y 1"
      obtain ⟨r, hr⟩ : ∃ r, rs[j]? = some r := ⟨_, List.getElem?_eq_getElem (by omega)⟩
      refine broken_ok F ml hv (by omega) ho hr fun H3 F3 => ?_
      rw [hn0 j r hr]
      show gName 5 (.str "") _ H3 _
      clear F
      repeat' walk_at "y 1"
      exact ⟨⟨_, _, rfl⟩, F3⟩
    · clear F1 F2
      intro σ H ⟨⟨y4, y5, e⟩, F⟩
      subst e
      repeat' walk_at "y 1"
      exact k _ F
  · refine x_repr (.lst (.inl (.inl (F2.get (.tail _ List.mem_cons_self)))) (hv.dps F2.tail.tail)) sho hdi dep cost ?_
    repeat' walk_at "y 1"
    rw [hv.len]
    have hil := (List.getElem?_eq_some_iff.mp hr).1
    refine forG (fun j σ H => (j ≤ i ∧ ∃ y4 y5, σ = [some (.ref l), some (.ref d), some (.str (PyData.list (rs.map rowD)).shown), some (.ref p), y4, y5]) ∧ FH H ((p, Is (.tup [.int (i : Int), .str z])) :: L)) (by omega) (by omega) ⟨⟨Nat.zero_le _, _, _, rfl⟩, FH.sub F2 (by walk_at "y sub")⟩ ?_ ?_
    · clear F1 F2
      intro j σ H hj ⟨⟨hji, y4, y5, e⟩, F⟩
      subst e
      repeat' walk_at "y 1"
      obtain ⟨x, hx⟩ : ∃ r, rs[j]? = some r := ⟨_, List.getElem?_eq_getElem (by omega)⟩
      refine broken_ok F (.tail _ ml) (hv.mono up_cons) (by omega) ho hx fun H3 F3 => ?_
      clear F
      by_cases e : j = i
      · subst e
        rw [hr] at hx
        cases hx
        rw [hru]
        show gName 5 (.str z) _ H3 _
        have nz : NeS z "" := ⟨rule_ne hru⟩
        repeat' walk_at "y 1"
        refine whole_ok ?_
        repeat' walk_at "y 1"
        exact k _ F3.tail
      · rw [hlt j x (by omega) hx]
        show gName 5 (.str "") _ H3 _
        repeat' walk_at "y 1"
        exact ⟨⟨by omega, _, _, rfl⟩, F3⟩
    · clear F1 F2
      intro σ H ⟨⟨hji, y4, y5, e⟩, F⟩
      omega

end
section
/-! the bag of the draws -/
abbrev BagA := Addr × List Int × Int × Int × Int
def bagE (p : Addr) (b : BagA) : List Ent := [(p, Is (.lst [.ref b.1, .int b.2.2.1, .int b.2.2.2.1, .int b.2.2.2.2])), (b.1, Is (.lst (b.2.1.map V.int)))]
def bagP (b : BagA) : Prop := 0 ≤ b.2.2.1 ∧ 0 ≤ b.2.2.2.1 ∧ 0 ≤ b.2.2.2.2 ∧ b.2.2.2.2 < 2147483647
def Bag : Pr := comp bagE bagP
theorem take_ok {a : Cl} {H : Hp} {L : List Ent} {p : Addr} {n : Int} {Q : VK} {E : XK} (F : FH H L) (m : (p, Bag) ∈ L) (hn : 0 < n) (hn2 : n ≤ 1000000000000) (k : ∀ r H', 0 ≤ r → r < n → FH H' L → Q (.int r) H') : sp_take a [.ref p, .int n] H Q E := by
  obtain ⟨R, hR⟩ := pull m
  obtain ⟨⟨c, cs, i, f, s⟩, ⟨h1, h2, h3, h4⟩, F1⟩ := (F.perm hR).unfold
  simp only at h1 h2 h3 h4
  have fin : ∀ (r i' f' s' : Int) (H' : Hp), FH H' ((p, Is (.lst [.ref c, .int i', .int f', .int s'])) :: (c, Is (.lst (cs.map V.int))) :: R) → 0 ≤ r → r < n → 0 ≤ i' → 0 ≤ f' → 0 ≤ s' → s' < 2147483647 → Q (.int r) H' := fun r i' f' s' H' F' b1 b2 b3 b4 b5 b6 =>
    k r H' b1 b2 ((FH.fold (E := bagE) (P := bagP) (c, cs, i', f', s') ⟨b3, b4, b5, b6⟩ F' (List.mem_cons_self)).perm hR.symm)
  clear k F m hR
  have F2 : FH H ((p, Is (.lst [.ref c, .int i, .int f, .int s])) :: (c, Is (.lst (cs.map V.int))) :: R) := F1
  clear F1
  refine in_take ?_
  walk_at "y"
  all_goals
    refine fin _ _ _ _ _ (by assumption) (Int.emod_nonneg _ (by omega)) (Int.emod_lt_of_pos _ hn) ?_ ?_ ?_ ?_
    all_goals first
      | omega
      | exact Int.ediv_nonneg (by omega) (by omega)
      | exact Int.emod_nonneg _ (by omega)
      | exact Int.emod_lt_of_pos _ (by omega)
theorem x_slSrc {S : Sta} {H : Hp} {L : List Ent} {p : Addr} {xs : List V} {lo hi : Option Int} {Q : VK} (F : FH H L) (m : Src S L p xs) (h : ∀ q H', FH H' ((q, Is (.lst (cutV xs lo hi))) :: L) → Q (.ref q) H') : rSl S (.ref p) lo hi H Q := ⟨p, xs, rfl, m.rdS F, fun q hq => h q _ (F.new hq)⟩
theorem bag_ok {a : Cl} {H : Hp} {L : List Ent} {q : Addr} {ns : List Int} {Q : VK} {E : XK} (F : FH H L) (m : Src a.S L q (ns.map V.int)) (hl : ns.length ≤ 63) (k : ∀ p H', FH H' ((p, Bag) :: L) → Q (.ref p) H') : sp_bag a [.ref q] H Q E := by
  refine in_bag ?_
  repeat' walk_at "y 1"
  refine x_slSrc F m fun z H1 F1 => ?_
  rw [show (some (63 : Int)) = some ((63 : Nat) : Int) from rfl, cut_take, ← List.map_take] at F1
  clear F
  refine lcII (σw := [some (.ref q), none]) (fun i => i) F1 (.is List.mem_cons_self) (by rw [List.length_take]; omega) rfl (fun y H QX hy F' hk => ?_) fun D H' F' => ?_
  · repeat' walk_at "y 1"
    exact hk
  · rw [List.map_id'] at F'
    clear F1
    repeat' walk_at "y 1"
    rename_i p H3 _ F3
    refine k p H3 (FH.fold (E := bagE) (P := bagP) (D, ns.take 63, 0, 0, 0) ⟨Int.le_refl 0, Int.le_refl 0, Int.le_refl 0, show (0 : Int) < 2147483647 by decide⟩ (FH.sel F3 ?_) List.mem_cons_self)
    show Sel ((p, Is (.lst [.ref D, .int 0, .int 0, .int 0])) :: (D, Is (.lst ((ns.take 63).map V.int))) :: L) _
    walk_at "y sel"

end
section
local macro_rules | `(tactic| walk_at "y spec") => `(tactic| ((with_reducible refine' take_ok ?F ?m ?hn ?hn2 ?_); (case F => assumption); (case m => walk_at "y mem"); (case hn => omega); (case hn2 => omega); intro _ _ _ _ _))
theorem wide_ok {a : Cl} {H : Hp} {L : List Ent} {p : Addr} {Q : VK} {E : XK} (F : FH H L) (m : (p, Bag) ∈ L) (k : ∀ r H', 0 ≤ r → r < 4294967296 → FH H' L → Q (.int r) H') : sp_wide a [.ref p] H Q E := by
  refine in_wide ?_
  walk_at "y"
  exact k _ _ (by omega) (by omega) (by assumption)
local macro_rules | `(tactic| walk_at "y spec") => `(tactic| ((with_reducible refine' wide_ok ?F ?m ?_); (case F => assumption); (case m => walk_at "y mem"); intro _ _ _ _ _))
theorem mark_ok {a : Cl} {H : Hp} {L : List Ent} {p : Addr} {n : Int} {Q : VK} {E : XK} (F : FH H L) (m : (p, Bag) ∈ L) (hn : 0 ≤ n ∧ n < 1000000) (k : ∀ r H', 0 ≤ r → r < 5000000000 → FH H' L → Q (.int r) H') : sp_mark a [.ref p, .int n] H Q E := by
  refine in_mark ?_
  walk_at "y"
  all_goals exact k _ _ (by omega) (by omega) (by assumption)
class IntsL (vs : List V) (xs : outParam (List Int)) : Prop where
  e : xs.map V.int = vs
instance intsL_nil : IntsL [] [] := ⟨rfl⟩
instance intsL_cons {i : Int} {vs : List V} {xs : List Int} [a : IntsL vs xs] : IntsL (.int i :: vs) (i :: xs) := ⟨by rw [List.map_cons, a.e]⟩
theorem bytes_fin {Q : VK} {L L' : List Ent} {q : Addr} {vs : List V} {xs : List Int} {H : Hp} (k : ∀ q H' (xs : List Int), (∀ x ∈ xs, sm x) → xs.length ≤ 6 → FH H' ((q, Is (.tup (xs.map V.int))) :: L) → Q (.ref q) H') (F : FH H ((q, Is (.tup vs)) :: L')) (s : L.Sublist L') [e : IntsL vs xs] (h1 : ∀ x ∈ xs, sm x) (h2 : xs.length ≤ 6) : Q (.ref q) H :=
  k q H xs h1 h2 (by rw [e.e]; exact F.sub (s.cons_cons _))
local instance : Unr := ⟨trivial⟩
/-- bytes: a tuple of ints -/
theorem bytes_ok {a : Cl} {H : Hp} {L : List Ent} {p : Addr} {n : Int} {Q : VK} {E : XK} (F : FH H L) (m : (p, Bag) ∈ L) (hn : 0 ≤ n ∧ n ≤ 6) (k : ∀ q H' (xs : List Int), (∀ x ∈ xs, sm x) → xs.length ≤ 6 → FH H' ((q, Is (.tup (xs.map V.int))) :: L) → Q (.ref q) H') : sp_bytes a [.ref p, .int n] H Q E := by
  refine in_bytes ?_
  rcases (by omega : n = 0 ∨ n = 1 ∨ n = 2 ∨ n = 3 ∨ n = 4 ∨ n = 5 ∨ n = 6) with rfl | rfl | rfl | rfl | rfl | rfl | rfl
  all_goals walk_at "y"
  all_goals
    refine bytes_fin k (by assumption) (by walk_at "y sub") ?_ ?_
    · simp only [List.forall_mem_cons, List.not_mem_nil, false_imp_iff, implies_true, and_true]
      try (unfold sm; omega)
    · simp only [List.length_cons, List.length_nil]
      omega

end
section

set_option synthInstance.checkSynthOrder false
/-! what stands goes on standing -/
instance (priority := 10) lenE_any {α : Type} {xs : List α} : LenE xs xs.length := ⟨rfl⟩
class SbC (L : outParam (List Ent)) (X : List Ent) : Prop where
  s : ∀ e ∈ L, e ∈ X
instance mm_sb {e : Ent} {L X : List Ent} [s : SbC L X] [m : Mm e L] : Mm e X := ⟨s.s _ m.m⟩
theorem tsl_g {S : Sta} {H : Hp} {L : List Ent} {p : Addr} {xs : List Int} {j : Int} {Q : VK} (F : FH H L) (m : (p, Is (.tup (xs.map V.int))) ∈ L) (hj : 0 ≤ j) (h : ∀ (q : Addr) (zs : List Int) (X : List Ent) (H' : Hp), (∀ x ∈ zs, x ∈ xs) → zs.length = min j.toNat xs.length → SbC L X → FH H' X → (q, Is (.tup (zs.map V.int))) ∈ X → Q (.ref q) H') : rTSl S (.ref p) none (some j) H Q := by
  obtain ⟨n, rfl⟩ : ∃ n : Nat, j = (n : Int) := ⟨j.toNat, by omega⟩
  refine x_tsl F m fun q Y H' F' m' => ?_
  rw [cut_take, ← List.map_take] at m'
  exact h q (xs.take n) _ H' (fun x m => List.mem_of_mem_take m) (by rw [List.length_take]; simp) ⟨fun e z => List.mem_append_right _ z⟩ F' (by simpa using m')
theorem tsd_g {S : Sta} {H : Hp} {L : List Ent} {p : Addr} {xs : List Int} {j : Int} {Q : VK} (F : FH H L) (m : (p, Is (.tup (xs.map V.int))) ∈ L) (hj : 0 ≤ j) (h : ∀ (q : Addr) (zs : List Int) (X : List Ent) (H' : Hp), (∀ x ∈ zs, x ∈ xs) → zs.length = xs.length - j.toNat → SbC L X → FH H' X → (q, Is (.tup (zs.map V.int))) ∈ X → Q (.ref q) H') : rTSl S (.ref p) (some j) none H Q := by
  obtain ⟨n, rfl⟩ : ∃ n : Nat, j = (n : Int) := ⟨j.toNat, by omega⟩
  refine x_tsl F m fun q Y H' F' m' => ?_
  rw [cut_drop, ← List.map_drop] at m'
  exact h q (xs.drop n) _ H' (fun x m => List.mem_of_mem_drop m) (by rw [List.length_drop]; simp) ⟨fun e z => List.mem_append_right _ z⟩ F' (by simpa using m')
theorem tadd_g {S : Sta} {H : Hp} {L : List Ent} {p q : Addr} {xs ys : List Int} {Q : VK} (F : FH H L) (m1 : (p, Is (.tup (xs.map V.int))) ∈ L) (m2 : (q, Is (.tup (ys.map V.int))) ∈ L) (hl : xs.length + ys.length ≤ 1000) (h : ∀ q X H', SbC L X → FH H' X → (q, Is (.tup ((xs ++ ys).map V.int))) ∈ X → Q (.ref q) H') : rTAdd S (.ref p) (.ref q) H Q := by
  refine ⟨p, q, _, _, rfl, rfl, .inl (.inl (F.get m1)), .inl (.inl (F.get m2)), by rw [List.length_map, List.length_map, sizeLine_eq]; omega, fun e => ?_, fun e => ?_, fun r hr => ?_⟩
  · have e2 : xs = [] := by simpa using e
    subst e2
    exact h q L H ⟨fun _ z => z⟩ F m2
  · have e2 : ys = [] := by simpa using e
    subst e2
    exact h p L H ⟨fun _ z => z⟩ F (by rw [List.append_nil]; exact m1)
  · exact h r ((r, Is (.tup (xs.map V.int ++ ys.map V.int))) :: L) _ ⟨fun _ z => List.mem_cons_of_mem _ z⟩ (F.new hr) (by rw [List.map_append]; exact List.mem_cons_self)
theorem sl_g {S : Sta} {H : Hp} {L : List Ent} {p : Addr} {vs : List V} {j : Int} {Q : VK} (F : FH H L) (m : (p, Is (.lst vs)) ∈ L) (hj : 0 ≤ j) (h : ∀ q X H', SbC L X → FH H' X → (q, Is (.lst (vs.take j.toNat))) ∈ X → Q (.ref q) H') : rSl S (.ref p) none (some j) H Q := by
  obtain ⟨n, rfl⟩ : ∃ n : Nat, j = (n : Int) := ⟨j.toNat, by omega⟩
  refine x_slL F m fun q H' _ F' => ?_
  rw [cut_take] at F'
  exact h q _ H' ⟨fun e z => List.mem_cons_of_mem _ z⟩ F' (by simp)
theorem sd_g {S : Sta} {H : Hp} {L : List Ent} {p : Addr} {vs : List V} {j : Int} {Q : VK} (F : FH H L) (m : (p, Is (.lst vs)) ∈ L) (hj : 0 ≤ j) (h : ∀ q X H', SbC L X → FH H' X → (q, Is (.lst (vs.drop j.toNat))) ∈ X → Q (.ref q) H') : rSl S (.ref p) (some j) none H Q := by
  obtain ⟨n, rfl⟩ : ∃ n : Nat, j = (n : Int) := ⟨j.toNat, by omega⟩
  refine x_slL F m fun q H' _ F' => ?_
  rw [cut_drop] at F'
  exact h q _ H' ⟨fun e z => List.mem_cons_of_mem _ z⟩ F' (by simp)
theorem cat_g {H : Hp} {L : List Ent} {p q : Addr} {xs ys : List V} {Q : VK} (F : FH H L) (m1 : (p, Is (.lst xs)) ∈ L) (m2 : (q, Is (.lst ys)) ∈ L) (hl : xs.length + ys.length ≤ 1000) (h : ∀ r X H', SbC L X → FH H' X → (r, Is (.lst (xs ++ ys))) ∈ X → Q (.ref r) H') : rAdd (.ref p) (.ref q) H Q :=
  x_cat F m1 m2 (by rw [List.length_append, sizeLine_eq]; omega) fun r H' _ F' => h r _ H' ⟨fun e z => List.mem_cons_of_mem _ z⟩ F' List.mem_cons_self
theorem sm_take {xs : List Int} {n : Nat} (h : ∀ x ∈ xs, sm x) : ∀ x ∈ xs.take n, sm x := fun x m => h x (List.mem_of_mem_take m)
theorem sm_drop {xs : List Int} {n : Nat} (h : ∀ x ∈ xs, sm x) : ∀ x ∈ xs.drop n, sm x := fun x m => h x (List.mem_of_mem_drop m)
theorem len_take {α : Type} {xs : List α} {n m : Nat} (h : xs.length ≤ m) : (xs.take n).length ≤ m := by rw [List.length_take]; omega
theorem okp {o : Int} (h : sm o) : ∀ i, some o = some i → sm i := fun i e => by cases e; exact h
theorem okn : ∀ i : Int, (none : Option Int) = some i → sm i := fun _ e => nomatch e
theorem sm5 {i : Int} (h0 : 0 ≤ i) (h1 : i < 5000000000) : sm i := by unfold sm; omega
theorem rat_mk {X : List Ent} {a aw ag : Addr} {s o : Int} {p : Option Int} {w g : List Int} (v : V) (ws gs : List V) (hv : oV p = v) (hw : w.map V.int = ws) (hg : g.map V.int = gs) [m0 : Mm (a, Is (.tup [.int s, .int o, v, .ref aw, .ref ag])) X] [m1 : Mm (aw, Is (.tup ws)) X] [m2 : Mm (ag, Is (.tup gs)) X] : RAt X a ⟨s, o, p, w, g⟩ := by
  subst hv hw hg
  exact ⟨aw, ag, m0.m, m1.m, m2.m⟩
theorem couple_ok {a : Cl} {H : Hp} {L : List Ent} {p : Addr} {n : Int} {Q : VK} {E : XK} (F : FH H L) (m : (p, Bag) ∈ L) (hn : 0 ≤ n ∧ n < 100000) (k : ∀ l b c r x X H', SbC L X → r.Ok 6 → x.Ok 6 → RAt X b r → RAt X c x → (l, Is (.lst [.ref b, .ref c])) ∈ X → FH H' X → Q (.ref l) H') : sp_couple a [.ref p, .int n] H Q E := by
  have mi := Mm.mk m
  refine in_couple ?_
  repeat' walk_at "y 1"
  refine mark_ok F m (by omega) fun o1 H1 a1 b1 F1 => ?_
  clear F
  repeat' walk_at "y 1"
  refine mark_ok F1 m (by omega) fun o2 H2 a2 b2 F2 => ?_
  clear F1
  repeat' walk_at "y 1"
  refine take_ok F2 m (by decide) (by decide) fun n1 H3 a3 b3 F3 => ?_
  clear F2
  repeat' walk_at "y 1"
  refine bytes_ok F3 m (by omega) fun q1 H4 xs hx hxl F4 => ?_
  clear F3
  repeat' walk_at "y 1"
  refine take_ok F4 Mm.m (by decide) (by decide) fun n2 H5 a5 b5 F5 => ?_
  clear F4
  repeat' walk_at "y 1"
  refine bytes_ok F5 Mm.m (by omega) fun q2 H6 ys hy hyl F6 => ?_
  clear F5
  repeat' walk_at "y 1"
  refine take_ok F6 Mm.m (by omega) (by rw [List.length_map]; omega) fun n3 H7 a7 b7 F7 => ?_
  clear F6
  repeat' walk_at "y 1"
  refine tsl_g (xs := ys) F7 Mm.m (by omega) fun q3 gs X1 H8 e1 l1 s1 F8 m3 => ?_
  have i3 := Mm.mk m3
  clear F7
  repeat' walk_at "y 1"
  refine take_ok F8 Mm.m (by omega) (by rw [List.length_map]; omega) fun n4 H9 a9 b9 F9 => ?_
  clear F8
  repeat' walk_at "y 1"
  refine tsl_g (xs := xs) F9 Mm.m (by omega) fun q4 hs X2 H10 e2 l2 s2 F10 m4 => ?_
  have i4 := Mm.mk m4
  clear F9
  repeat' walk_at "y 1"
  rename_i t1 J1 _ G1 t2 J2 _ G2 l J3 _ G3
  refine k l t1 t2 ⟨0, o1, some o2, xs, gs⟩ ⟨1, o2, some o1, ys, hs⟩ _ J3 ⟨(fun _ m => haveI := Mm.mk m; Mm.m)⟩ ⟨by dsimp only; omega, sm5 a1 b1, okp (sm5 a2 b2), hx, (fun x m => hy x (e1 x m)), hxl, by dsimp only; omega⟩ ⟨by dsimp only; omega, sm5 a2 b2, okp (sm5 a1 b1), hy, (fun x m => hx x (e2 x m)), hyl, by dsimp only; omega⟩ (rat_mk (aw := q1) (ag := q3) (.int o2) _ _ rfl rfl rfl) (rat_mk (aw := q2) (ag := q4) (.int o1) _ _ rfl rfl rfl) Mm.m G3
theorem single_ok {a : Cl} {H : Hp} {L : List Ent} {p : Addr} {n : Int} {Q : VK} {E : XK} (F : FH H L) (m : (p, Bag) ∈ L) (hn : 0 ≤ n ∧ n < 100000) (k : ∀ b r X H', SbC L X → r.Ok 6 → RAt X b r → FH H' X → Q (.ref b) H') : sp_single a [.ref p, .int n] H Q E := by
  have mi := Mm.mk m
  refine in_single ?_
  repeat' walk_at "y 1"
  refine take_ok F m (by decide) (by decide) fun n1 H1 a1 b1 F1 => ?_
  clear F
  repeat' (first | walk_at "y 1" | walk_at "y if")
  · refine mark_ok F1 m (by omega) fun o1 H2 a2 b2 F2 => ?_
    clear F1
    repeat' walk_at "y 1"
    refine take_ok F2 m (by decide) (by decide) fun n2 H3 a3 b3 F3 => ?_
    clear F2
    repeat' walk_at "y 1"
    refine mark_ok F3 m (by omega) fun o2 H4 a4 b4 F4 => ?_
    clear F3
    repeat' walk_at "y 1"
    refine take_ok F4 m (by decide) (by decide) fun n3 H5 a5 b5 F5 => ?_
    clear F4
    repeat' walk_at "y 1"
    refine bytes_ok F5 m (by omega) fun q1 H6 xs hx hxl F6 => ?_
    clear F5
    repeat' walk_at "y 1"
    rename_i q2 J1 _ G1 t J2 _ G2
    exact k t ⟨n2, o2, some o1, xs, []⟩ _ J2 ⟨(fun _ m => haveI := Mm.mk m; Mm.m)⟩ ⟨by dsimp only; omega, sm5 a4 b4, okp (sm5 a2 b2), hx, (fun _ z => nomatch z), hxl, Nat.zero_le _⟩ (rat_mk (aw := q1) (ag := q2) (.int o1) _ [] rfl rfl rfl) G2
  · repeat' walk_at "y 1"
    refine take_ok F1 m (by decide) (by decide) fun n2 H3 a3 b3 F3 => ?_
    clear F1
    repeat' walk_at "y 1"
    refine mark_ok F3 m (by omega) fun o2 H4 a4 b4 F4 => ?_
    clear F3
    repeat' walk_at "y 1"
    refine take_ok F4 m (by decide) (by decide) fun n3 H5 a5 b5 F5 => ?_
    clear F4
    repeat' walk_at "y 1"
    refine bytes_ok F5 m (by omega) fun q1 H6 xs hx hxl F6 => ?_
    clear F5
    repeat' walk_at "y 1"
    rename_i q2 J1 _ G1 t J2 _ G2
    exact k t ⟨n2, o2, none, xs, []⟩ _ J2 ⟨(fun _ m => haveI := Mm.mk m; Mm.m)⟩ ⟨by dsimp only; omega, sm5 a4 b4, okn, hx, (fun _ z => nomatch z), hxl, Nat.zero_le _⟩ (rat_mk (aw := q1) (ag := q2) .non _ [] rfl rfl rfl) G2

end
section
theorem mod_sm {i : Int} : sm (i % 256) := by unfold sm; omega
theorem altered_ok {a : Cl} {H : Hp} {L : List Ent} {p t : Addr} {xs : List Int} {n : Nat} {Q : VK} {E : XK} (F : FH H L) (m : (p, Bag) ∈ L) (m1 : (t, Is (.tup (xs.map V.int))) ∈ L) (hs : ∀ x ∈ xs, sm x) (hl : xs.length ≤ n) (hn : 1 ≤ n ∧ n ≤ 20) (k : ∀ (q : Addr) (zs : List Int) (X : List Ent) (H' : Hp), (∀ x ∈ zs, sm x) → zs.length ≤ n → SbC L X → FH H' X → (q, Is (.tup (zs.map V.int))) ∈ X → Q (.ref q) H') : sp_altered a [.ref p, .ref t] H Q E := by
  have mi := Mm.mk m
  have i1 := Mm.mk m1
  refine in_altered ?_
  repeat' (first | walk_at "y 1" | walk_at "y if")
  · refine take_ok F m (by decide) (by decide) fun r H1 a1 b1 F1 => ?_
    clear F
    repeat' walk_at "y 1"
    rename_i q H2 _ F2
    exact k q [r] _ H2 (fun x z => by have e : x = r := by simpa using z
                                      subst e; unfold sm; omega) (by simpa using hn.1) ⟨(fun _ m => haveI := Mm.mk m; Mm.m)⟩ F2 List.mem_cons_self
  · rename_i hne
    rw [List.length_map] at hne
    refine take_ok F m (by rw [List.length_map]; omega) (by rw [List.length_map]; omega) fun j H1 a1 b1 F1 => ?_
    rw [List.length_map] at b1
    clear F
    repeat' walk_at "y 1"
    refine tsl_g (xs := xs) F1 m1 a1 fun q1 zs X1 H2 e1 l1 s1 F2 m2 => ?_
    have i2 := Mm.mk m2
    clear F1
    repeat' walk_at "y 1"
    refine x_ixT F2 (xs := xs.map V.int) Mm.m (atI_ints a1 (by rw [List.length_map]; omega)) ?_
    repeat' walk_at "y 1"
    refine take_ok F2 Mm.m (by decide) (by decide) fun c H3 a3 b3 F3 => ?_
    clear F2
    repeat' walk_at "y 1"
    rename_i q2 H4 _ F4
    clear F3
    refine tadd_g (xs := zs) (ys := [_]) F4 Mm.m (by exact List.mem_cons_self) (by simp only [List.length_cons, List.length_nil]; omega) fun q3 X2 H5 s2 F5 m3 => ?_
    have i3 := Mm.mk m3
    clear F4
    repeat' walk_at "y 1"
    refine tsd_g (xs := xs) F5 Mm.m (by omega) fun q4 ws X3 H6 e4 l4 s3 F6 m4 => ?_
    have i4 := Mm.mk m4
    clear F5
    repeat' walk_at "y 1"
    refine tadd_g (xs := zs ++ [(xs.getD j.toNat 0 + 1 + c) % 256]) (ys := ws) F6 Mm.m Mm.m (by rw [List.length_append, List.length_cons, List.length_nil]; omega) fun q5 X4 H7 s4 F7 m5 => ?_
    refine k q5 _ X4 H7 (fun x z => ?_) ?_ ⟨(fun _ m => haveI := Mm.mk m; Mm.m)⟩ F7 m5
    · rcases List.mem_append.mp z with z | z
      · rcases List.mem_append.mp z with z | z
        · exact hs x (e1 x z)
        · have e : x = _ := List.mem_singleton.mp z
          subst e
          exact mod_sm
      · exact hs x (e4 x z)
    · rw [List.length_append, List.length_append, List.length_cons, List.length_nil]
      omega
theorem new_row_ok {a : Cl} {H : Hp} {L : List Ent} {p q q2 : Addr} {r x : Row} {c : Int} {n : Nat} {Q : VK} {E : XK} (F : FH H L) (m : (p, Bag) ∈ L) (ra : RAt L q r) (rb : RAt L q2 x) (hr : r.Ok n) (hx : x.Ok n) (hc : 0 ≤ c ∧ c < 12) (hn : n ≤ 19) (k : ∀ (b : Addr) (z : Row) (X : List Ent) (H' : Hp), SbC L X → z.Ok (n + 1) → RAt X b z → FH H' X → Q (.ref b) H') : sp_new_row a [.ref p, .ref q, .ref q2, .int c] H Q E := by
  have mi := Mm.mk m
  have h1 := hr.up (Nat.le_succ n)
  have hs := hr.s
  obtain ⟨aw, ag, m0, m1, m2⟩ := ra
  obtain ⟨bw, bg, n0, n1, n2⟩ := rb
  have i0 := Mm.mk m0
  have i1 := Mm.mk m1
  have i2 := Mm.mk m2
  have j0 := Mm.mk n0
  have j1 := Mm.mk n1
  have j2 := Mm.mk n2
  have lw := hr.lw
  have lg := hr.lg
  have lw2 := hx.lw
  refine in_new_row ?_
  repeat' walk_at "y 1"
  rename_i t H1 _ F1
  clear F
  rcases (by omega : c = 0 ∨ c = 1 ∨ c = 2 ∨ c = 3 ∨ c = 4 ∨ c = 5 ∨ c = 6 ∨ c = 7 ∨ c = 8 ∨ c = 9 ∨ c = 10 ∨ c = 11) with rfl | rfl | rfl | rfl | rfl | rfl | rfl | rfl | rfl | rfl | rfl | rfl
  all_goals repeat' (first | walk_at "y 1" | walk_at "y if")
  · refine take_ok F1 Mm.m (by decide) (by decide) fun c2 H2 a2 b2 F2 => ?_
    clear F1
    repeat' walk_at "y 1"
    rename_i u H3 _ F3
    clear F2
    refine tadd_g (xs := r.g) (ys := [c2]) F3 Mm.m (by exact List.mem_cons_self) (by simp only [List.length_cons, List.length_nil]; omega) fun q3 X9 H4 s4 F4 m4 => ?_
    have i4 := Mm.mk m4
    clear F3
    repeat' (first | walk_at "y 1" | walk_at "y if")
    rename_i b J _ G
    exact k b ⟨r.s, r.o, r.p, r.w, r.g ++ [c2]⟩ _ J ⟨(fun _ m => haveI := Mm.mk m; Mm.m)⟩ ⟨h1.s, h1.o, h1.p, h1.w, (fun x z => (List.mem_append.mp z).elim (h1.g x) (fun z => by have e := List.mem_singleton.mp z; subst e; exact sm5 a2 (by omega))), h1.lw, by dsimp only; rw [List.length_append, List.length_cons, List.length_nil]; omega⟩ (rat_mk (aw := aw) (ag := q3) (oV r.p) _ _ rfl rfl rfl) G
  · refine altered_ok (n := n + 1) F1 Mm.m (xs := r.g) Mm.m hr.g (by omega) (by omega) fun q3 zs X9 H4 e4 l4 s4 F4 m4 => ?_
    have i4 := Mm.mk m4
    clear F1
    repeat' (first | walk_at "y 1" | walk_at "y if")
    rename_i b J _ G
    exact k b ⟨r.s, r.o, r.p, r.w, zs⟩ _ J ⟨(fun _ m => haveI := Mm.mk m; Mm.m)⟩ ⟨h1.s, h1.o, h1.p, h1.w, e4, h1.lw, l4⟩ (rat_mk (aw := aw) (ag := q3) (oV r.p) _ _ rfl rfl rfl) G
  · repeat' (first | walk_at "y 1" | walk_at "y if")
    rename_i b J _ G
    exact k b ⟨r.s, x.o, r.p, r.w, r.g⟩ _ J ⟨(fun _ m => haveI := Mm.mk m; Mm.m)⟩ ⟨h1.s, hx.o, h1.p, h1.w, h1.g, h1.lw, h1.lg⟩ (rat_mk (aw := aw) (ag := ag) (oV r.p) _ _ rfl rfl rfl) G
  · repeat' (first | walk_at "y 1" | walk_at "y if")
    rename_i b J _ G
    exact k b ⟨r.s, r.o, x.p, r.w, r.g⟩ _ J ⟨(fun _ m => haveI := Mm.mk m; Mm.m)⟩ ⟨h1.s, h1.o, hx.p, h1.w, h1.g, h1.lw, h1.lg⟩ (rat_mk (aw := aw) (ag := ag) (oV x.p) _ _ rfl rfl rfl) G
  · repeat' (first | walk_at "y 1" | walk_at "y if")
    rename_i b J _ G
    exact k b ⟨1 - r.s, r.o, r.p, r.w, r.g⟩ _ J ⟨(fun _ m => haveI := Mm.mk m; Mm.m)⟩ ⟨by dsimp only; omega, h1.o, h1.p, h1.w, h1.g, h1.lw, h1.lg⟩ (rat_mk (aw := aw) (ag := ag) (oV r.p) _ _ rfl rfl rfl) G
  · refine take_ok F1 Mm.m (by omega) (by rw [List.length_map]; omega) fun c2 H2 a2 b2 F2 => ?_
    clear F1
    repeat' walk_at "y 1"
    refine tsl_g (xs := r.w) F2 Mm.m a2 fun q3 zs X9 H4 e4 l4 s4 F4 m4 => ?_
    have i4 := Mm.mk m4
    clear F2
    repeat' (first | walk_at "y 1" | walk_at "y if")
    rename_i b J _ G
    exact k b ⟨r.s, r.o, r.p, zs, r.g⟩ _ J ⟨(fun _ m => haveI := Mm.mk m; Mm.m)⟩ ⟨h1.s, h1.o, h1.p, (fun x z => h1.w x (e4 x z)), h1.g, by dsimp only; omega, h1.lg⟩ (rat_mk (aw := q3) (ag := ag) (oV r.p) _ _ rfl rfl rfl) G
  · refine altered_ok (n := n + 1) F1 Mm.m (xs := r.w) Mm.m hr.w (by omega) (by omega) fun q3 zs X9 H4 e4 l4 s4 F4 m4 => ?_
    have i4 := Mm.mk m4
    clear F1
    repeat' (first | walk_at "y 1" | walk_at "y if")
    rename_i b J _ G
    exact k b ⟨r.s, r.o, r.p, zs, r.g⟩ _ J ⟨(fun _ m => haveI := Mm.mk m; Mm.m)⟩ ⟨h1.s, h1.o, h1.p, e4, h1.g, l4, h1.lg⟩ (rat_mk (aw := q3) (ag := ag) (oV r.p) _ _ rfl rfl rfl) G
  · refine take_ok F1 Mm.m (by omega) (by rw [List.length_map]; omega) fun c2 H2 a2 b2 F2 => ?_
    clear F1
    repeat' walk_at "y 1"
    refine tsl_g (xs := x.w) F2 Mm.m (by omega) fun q3 zs X9 H4 e4 l4 s4 F4 m4 => ?_
    have i4 := Mm.mk m4
    clear F2
    repeat' (first | walk_at "y 1" | walk_at "y if")
    rename_i b J _ G
    exact k b ⟨r.s, r.o, r.p, r.w, zs⟩ _ J ⟨(fun _ m => haveI := Mm.mk m; Mm.m)⟩ ⟨h1.s, h1.o, h1.p, h1.w, (fun y z => hx.w y (e4 y z)), h1.lw, by dsimp only; omega⟩ (rat_mk (aw := aw) (ag := q3) (oV r.p) _ _ rfl rfl rfl) G
  · refine mark_ok F1 Mm.m (by decide) fun c2 H2 a2 b2 F2 => ?_
    clear F1
    repeat' (first | walk_at "y 1" | walk_at "y if")
    rename_i b J _ G
    exact k b ⟨r.s, c2, r.p, r.w, r.g⟩ _ J ⟨(fun _ m => haveI := Mm.mk m; Mm.m)⟩ ⟨h1.s, sm5 a2 b2, h1.p, h1.w, h1.g, h1.lw, h1.lg⟩ (rat_mk (aw := aw) (ag := ag) (oV r.p) _ _ rfl rfl rfl) G
  · refine mark_ok F1 Mm.m (by decide) fun c2 H2 a2 b2 F2 => ?_
    clear F1
    repeat' walk_at "y 1"
    rename_i u H3 _ F3
    clear F2
    refine take_ok F3 Mm.m (by decide) (by decide) fun c4 H4 a4 b4 F4 => ?_
    clear F3
    rcases (by omega : c4 = 0 ∨ c4 = 1) with rfl | rfl
    · repeat' walk_at "y 1"
      repeat' (first | walk_at "y 1" | walk_at "y if")
      rename_i b J _ G
      exact k b ⟨r.s, r.o, none, r.w, r.g⟩ _ J ⟨(fun _ m => haveI := Mm.mk m; Mm.m)⟩ ⟨h1.s, h1.o, okn, h1.w, h1.g, h1.lw, h1.lg⟩ (rat_mk (aw := aw) (ag := ag) .non _ _ rfl rfl rfl) G
    · repeat' walk_at "y 1"
      repeat' (first | walk_at "y 1" | walk_at "y if")
      rename_i b J _ G
      exact k b ⟨r.s, r.o, some c2, r.w, r.g⟩ _ J ⟨(fun _ m => haveI := Mm.mk m; Mm.m)⟩ ⟨h1.s, h1.o, okp (sm5 a2 b2), h1.w, h1.g, h1.lw, h1.lg⟩ (rat_mk (aw := aw) (ag := ag) (.int c2) _ _ rfl rfl rfl) G
  · refine take_ok F1 Mm.m (by omega) (by rw [List.length_map]; omega) fun c2 H2 a2 b2 F2 => ?_
    clear F1
    repeat' walk_at "y 1"
    refine tsl_g (xs := r.g) F2 Mm.m a2 fun q3 zs X9 H4 e4 l4 s4 F4 m4 => ?_
    have i4 := Mm.mk m4
    clear F2
    repeat' (first | walk_at "y 1" | walk_at "y if")
    rename_i b J _ G
    exact k b ⟨r.s, r.o, r.p, r.w, zs⟩ _ J ⟨(fun _ m => haveI := Mm.mk m; Mm.m)⟩ ⟨h1.s, h1.o, h1.p, h1.w, (fun y z => h1.g y (e4 y z)), h1.lw, by dsimp only; omega⟩ (rat_mk (aw := aw) (ag := q3) (oV r.p) _ _ rfl rfl rfl) G
  · repeat' (first | walk_at "y 1" | walk_at "y if")
    rename_i b J _ G
    exact k b ⟨r.s, r.o, some x.o, r.w, r.g⟩ _ J ⟨(fun _ m => haveI := Mm.mk m; Mm.m)⟩ ⟨h1.s, h1.o, okp hx.o, h1.w, h1.g, h1.lw, h1.lg⟩ (rat_mk (aw := aw) (ag := ag) (.int x.o) _ _ rfl rfl rfl) G

end
section
theorem cutJ {xs : List V} {j : Int} (h : 0 ≤ j) : cutV xs none (some j) = xs.take j.toNat := by
  obtain ⟨n, rfl⟩ : ∃ n : Nat, j = (n : Int) := ⟨j.toNat, by omega⟩
  exact cut_take
theorem cutJd {xs : List V} {j : Int} (h : 0 ≤ j) : cutV xs (some j) none = xs.drop j.toNat := by
  obtain ⟨n, rfl⟩ : ∃ n : Nat, j = (n : Int) := ⟨j.toNat, by omega⟩
  exact cut_drop
theorem row1_ok : (⟨0, 1, some 2, [], [5]⟩ : Row).Ok 1 := ⟨by decide, by unfold sm; decide, okp (by unfold sm; decide), (fun _ z => nomatch z), (fun x z => by have e := List.mem_singleton.mp z; subst e; unfold sm; decide), by decide, by decide⟩
theorem Row.Ok.sub {n : Nat} {rs ss : List Row} (h : ∀ r ∈ rs, r.Ok n) (s : ∀ r ∈ ss, r ∈ rs) : ∀ r ∈ ss, r.Ok n := fun r m => h r (s r m)
theorem change_ok {a : Cl} {H : Hp} {L : List Ent} {p l : Addr} {vs : List V} {rs : List Row} {c : Int} {n N : Nat} {Q : VK} {E : XK} (F : FH H L) (m : (p, Bag) ∈ L) (ml : (l, Is (.lst vs)) ∈ L) (hv : RAts L vs rs) (hz : rs.length ≤ N) (ho : ∀ r ∈ rs, r.Ok n) (hc : 0 ≤ c ∧ c < 15) (hn : n ≤ 19) (hN : N ≤ 50)
    (k : ∀ (l' : Addr) (vs' : List V) (rs' : List Row) (X : List Ent) (H' : Hp), SbC L X → (l', Is (.lst vs')) ∈ X → RAts X vs' rs' → rs'.length ≤ N + 1 → (∀ r ∈ rs', r.Ok (n + 1)) → FH H' X → Q (.ref l') H') : sp_change a [.ref p, .ref l, .int c] H Q E := by
  have mi := Mm.mk m
  have il := Mm.mk ml
  have hl := hv.len
  have ho1 : ∀ r ∈ rs, r.Ok (n + 1) := fun r z => (ho r z).up (Nat.le_succ n)
  refine in_change ?_
  repeat' walk_at "y 1"
  rename_i e0 H1 _ F1
  clear F
  refine eq_rows F1 (.tail _ ml) (hv.mono up_cons) ho List.mem_cons_self ?_
  cases hr : rs.isEmpty with
  | true =>
    repeat' walk_at "y 1"
    rename_i t1 J1 _ G1 t2 J2 _ G2 t3 J3 _ G3 t4 J4 _ G4
    refine k t4 _ [⟨0, 1, some 2, [], [5]⟩] _ J4 ⟨(fun _ m => haveI := Mm.mk m; Mm.m)⟩ List.mem_cons_self (.cons (rat_mk (aw := t1) (ag := t2) (.int 2) [] [.int 5] rfl rfl rfl) .nil) (by simp) (fun r z => by have e := List.mem_singleton.mp z; subst e; exact row1_ok.up (by omega)) G4
  | false =>
    have hpos : 0 < rs.length := by
      cases rs with
      | nil => cases hr
      | cons x xs => simp
    have up1 : SbC L ((e0, Is (.lst [])) :: L) := ⟨up_cons⟩
    repeat' walk_at "y 1"
    refine take_ok F1 Mm.m (by omega) (by omega) fun j H2 a2 b2 F2 => ?_
    clear F1
    repeat' walk_at "y 1"
    refine take_ok F2 Mm.m (by omega) (by omega) fun j2 H3 a3 b3 F3 => ?_
    clear F2
    rw [hl] at b2 b3
    obtain ⟨v, hvj⟩ : ∃ v, vs[j.toNat]? = some v := ⟨_, List.getElem?_eq_getElem (by omega)⟩
    obtain ⟨q, r, rfl, hrj, ra⟩ := hv.get hvj
    obtain ⟨v, hvj2⟩ : ∃ v, vs[j2.toNat]? = some v := ⟨_, List.getElem?_eq_getElem (by omega)⟩
    obtain ⟨q2, x, rfl, hxj, rb⟩ := hv.get hvj2
    have at1 : atI vs j = some (.ref q) := atI_at (j := j.toNat) (by omega) hvj
    have at2 : atI vs j2 = some (.ref q2) := atI_at (j := j2.toNat) (by omega) hvj2
    refine x_ixL F3 (.tail _ ml) at2 ?_
    repeat' (first | walk_at "y 1" | walk_at "y if")
    · -- a row is put anew
      rename_i u1 H4 _ F4
      rw [cutJ a2] at F4
      clear F3
      refine new_row_ok F4 Mm.m (ra.mono (fun _ m => haveI := Mm.mk m; Mm.m)) (rb.mono (fun _ m => haveI := Mm.mk m; Mm.m)) (ho r (List.mem_of_getElem? hrj)) (ho x (List.mem_of_getElem? hxj)) (by omega) hn fun b z X2 H5 s2 oz rz F5 => ?_
      clear F4
      repeat' walk_at "y 1"
      rename_i u2 H6 _ F6
      clear F5
      refine cat_g (xs := vs.take j.toNat) (ys := [.ref b]) F6 Mm.m Mm.m (by rw [List.length_take, List.length_cons, List.length_nil]; omega) fun u3 X3 H7 s3 F7 m7 => ?_
      have i7 := Mm.mk m7
      clear F6
      repeat' walk_at "y 1"
      refine sd_g (vs := vs) F7 Mm.m (by omega) fun u4 X4 H8 s4 F8 m8 => ?_
      have i8 := Mm.mk m8
      clear F7
      repeat' walk_at "y 1"
      refine cat_g (xs := vs.take j.toNat ++ [.ref b]) (ys := vs.drop (j + 1).toNat) F8 Mm.m Mm.m (by rw [List.length_append, List.length_take, List.length_drop, List.length_cons, List.length_nil]; omega) fun u5 X5 H9 s5 F9 m9 => ?_
      refine k u5 _ (rs.take j.toNat ++ [z] ++ rs.drop (j + 1).toNat) X5 H9 ⟨(fun _ m => haveI := Mm.mk m; Mm.m)⟩ m9 ((((hv.take _).mono (fun _ m => haveI := Mm.mk m; Mm.m)).app (.cons (rz.mono (fun _ m => haveI := Mm.mk m; Mm.m)) .nil)).app ((hv.drop _).mono (fun _ m => haveI := Mm.mk m; Mm.m))) ?_ (fun y hy => ?_) F9
      · rw [List.length_append, List.length_append, List.length_take, List.length_drop, List.length_cons, List.length_nil]; omega
      · rcases List.mem_append.mp hy with hy | hy
        · rcases List.mem_append.mp hy with hy | hy
          · exact ho1 y (List.mem_of_mem_take hy)
          · have e := List.mem_singleton.mp hy
            subst e
            exact oz
        · exact ho1 y (List.mem_of_mem_drop hy)
    · -- a row is left out
      rename_i u1 H4 _ F4 u4 H8 _ F8
      rw [cutJ a2, cutJd (by omega)] at F8
      clear F3 F4
      refine cat_g (xs := vs.take j.toNat) (ys := vs.drop (j + 1).toNat) F8 Mm.m Mm.m (by rw [List.length_take, List.length_drop]; omega) fun u5 X5 H9 s5 F9 m9 => ?_
      refine k u5 _ (rs.take j.toNat ++ rs.drop (j + 1).toNat) X5 H9 ⟨(fun _ m => haveI := Mm.mk m; Mm.m)⟩ m9 (((hv.take _).mono (fun _ m => haveI := Mm.mk m; Mm.m)).app ((hv.drop _).mono (fun _ m => haveI := Mm.mk m; Mm.m))) ?_ (fun y hy => ?_) F9
      · rw [List.length_append, List.length_take, List.length_drop]; omega
      · rcases List.mem_append.mp hy with hy | hy
        · exact ho1 y (List.mem_of_mem_take hy)
        · exact ho1 y (List.mem_of_mem_drop hy)
    · -- a row is moved
      rename_i u1 H4 _ F4 u4 H8 _ F8
      rw [cutJ a2, cutJd (by omega)] at F8
      clear F3 F4
      refine cat_g (xs := vs.take j.toNat) (ys := vs.drop (j + 1).toNat) F8 Mm.m Mm.m (by rw [List.length_take, List.length_drop]; omega) fun u5 X5 H9 s5 F9 m9 => ?_
      have i9 := Mm.mk m9
      have hw : RAts X5 (vs.take j.toNat ++ vs.drop (j + 1).toNat) (rs.take j.toNat ++ rs.drop (j + 1).toNat) := ((hv.take _).mono (fun _ m => haveI := Mm.mk m; Mm.m)).app ((hv.drop _).mono (fun _ m => haveI := Mm.mk m; Mm.m))
      have how : ∀ y ∈ rs.take j.toNat ++ rs.drop (j + 1).toNat, y.Ok (n + 1) := fun y hy => (List.mem_append.mp hy).elim (fun z => ho1 y (List.mem_of_mem_take z)) fun z => ho1 y (List.mem_of_mem_drop z)
      have hwl : (vs.take j.toNat ++ vs.drop (j + 1).toNat).length ≤ N := by rw [List.length_append, List.length_take, List.length_drop]; omega
      have hwl2 := hw.len
      generalize vs.take j.toNat ++ vs.drop (j + 1).toNat = ws at i9 m9 hw hwl hwl2
      generalize rs.take j.toNat ++ rs.drop (j + 1).toNat = ss at hw how hwl2
      clear F8 m9
      repeat' walk_at "y 1"
      refine take_ok F9 Mm.m (by omega) (by omega) fun j3 H5 a5 b5 F5 => ?_
      clear F9
      repeat' walk_at "y 1"
      refine sl_g (vs := ws) F5 Mm.m a5 fun v1 Y1 K1 t1 G1 n1 => ?_
      have k1 := Mm.mk n1
      clear F5
      repeat' walk_at "y 1"
      refine x_ixL (xs := vs) G1 Mm.m at1 ?_
      repeat' walk_at "y 1"
      rename_i v2 K2 _ G2
      clear G1
      refine cat_g (xs := ws.take j3.toNat) (ys := [.ref q]) G2 Mm.m Mm.m (by rw [List.length_take, List.length_cons, List.length_nil]; omega) fun v3 Y3 K3 t3 G3 n3 => ?_
      have k3 := Mm.mk n3
      clear G2
      repeat' walk_at "y 1"
      refine sd_g (vs := ws) G3 Mm.m a5 fun v4 Y4 K4 t4 G4 n4 => ?_
      have k4 := Mm.mk n4
      clear G3
      repeat' walk_at "y 1"
      refine cat_g (xs := ws.take j3.toNat ++ [.ref q]) (ys := ws.drop j3.toNat) G4 Mm.m Mm.m (by rw [List.length_append, List.length_take, List.length_drop, List.length_cons, List.length_nil]; omega) fun v5 Y5 K5 t5 G5 n5 => ?_
      refine k v5 _ (ss.take j3.toNat ++ [r] ++ ss.drop j3.toNat) Y5 K5 ⟨(fun _ m => haveI := Mm.mk m; Mm.m)⟩ n5 ((((hw.take _).mono (fun _ m => haveI := Mm.mk m; Mm.m)).app (.cons (ra.mono (fun _ m => haveI := Mm.mk m; Mm.m)) .nil)).app ((hw.drop _).mono (fun _ m => haveI := Mm.mk m; Mm.m))) ?_ (fun y hy => ?_) G5
      · rw [List.length_append, List.length_append, List.length_take, List.length_drop, List.length_cons, List.length_nil]; omega
      · rcases List.mem_append.mp hy with hy | hy
        · rcases List.mem_append.mp hy with hy | hy
          · exact how y (List.mem_of_mem_take hy)
          · have e := List.mem_singleton.mp hy
            subst e
            exact ho1 _ (List.mem_of_getElem? hrj)
        · exact how y (List.mem_of_mem_drop hy)
    · -- a row is doubled
      refine take_ok F3 Mm.m (by omega) (by omega) fun j3 H5 a5 b5 F5 => ?_
      clear F3
      repeat' walk_at "y 1"
      rename_i v1 K1 _ G1 v2 K2 _ G2
      rw [cutJ a5] at G2
      clear F5 G1
      refine cat_g (xs := vs.take j3.toNat) (ys := [.ref q]) G2 Mm.m Mm.m (by rw [List.length_take, List.length_cons, List.length_nil]; omega) fun v3 Y3 K3 t3 G3 n3 => ?_
      have k3 := Mm.mk n3
      clear G2
      repeat' walk_at "y 1"
      refine sd_g (vs := vs) G3 Mm.m a5 fun v4 Y4 K4 t4 G4 n4 => ?_
      have k4 := Mm.mk n4
      clear G3
      repeat' walk_at "y 1"
      refine cat_g (xs := vs.take j3.toNat ++ [.ref q]) (ys := vs.drop j3.toNat) G4 Mm.m Mm.m (by rw [List.length_append, List.length_take, List.length_drop, List.length_cons, List.length_nil]; omega) fun v5 Y5 K5 t5 G5 n5 => ?_
      refine k v5 _ (rs.take j3.toNat ++ [r] ++ rs.drop j3.toNat) Y5 K5 ⟨(fun _ m => haveI := Mm.mk m; Mm.m)⟩ n5 ((((hv.take _).mono (fun _ m => haveI := Mm.mk m; Mm.m)).app (.cons (ra.mono (fun _ m => haveI := Mm.mk m; Mm.m)) .nil)).app ((hv.drop _).mono (fun _ m => haveI := Mm.mk m; Mm.m))) ?_ (fun y hy => ?_) G5
      · rw [List.length_append, List.length_append, List.length_take, List.length_drop, List.length_cons, List.length_nil]; omega
      · rcases List.mem_append.mp hy with hy | hy
        · rcases List.mem_append.mp hy with hy | hy
          · exact ho1 y (List.mem_of_mem_take hy)
          · have e := List.mem_singleton.mp hy
            subst e
            exact ho1 _ (List.mem_of_getElem? hrj)
        · exact ho1 y (List.mem_of_mem_drop hy)

end
section
def okRs (n : Nat) (rs : List Row) : Prop := ∀ r ∈ rs, r.Ok n
theorem okRs.ins {n k : Nat} {rs : List Row} {r : Row} (h : okRs n rs) (o : r.Ok n) : okRs n (rs.take k ++ [r] ++ rs.drop k) := fun y hy => by
  rcases List.mem_append.mp hy with hy | hy
  · rcases List.mem_append.mp hy with hy | hy
    · exact h y (List.mem_of_mem_take hy)
    · have e := List.mem_singleton.mp hy
      subst e
      exact o
  · exact h y (List.mem_of_mem_drop hy)
theorem ins_len {α : Type} {k : Nat} {rs : List α} {r : α} : (rs.take k ++ [r] ++ rs.drop k).length = rs.length + 1 := by
  rw [List.length_append, List.length_append, List.length_take, List.length_drop, List.length_cons, List.length_nil]
  omega
/-- rows[:j] + [row] + rows[j:] -/
theorem ins_ok {S : Sta} {X : List Ent} {u : Addr} {ws : List V} {ss : List Row} {j : Int} {n1 n2 : Nat} {te : TE} {σ : L2.St} {H : Hp} {Q : VK} (F : FH H X) (m : (u, Is (.lst ws)) ∈ X) (hw : RAts X ws ss) (hz : ss.length ≤ 60) (hj : 0 ≤ j) (e1 : σ[n1]? = some (some (.ref u))) (e2 : σ[n2]? = some (some (.int j)))
    (ht : ∀ (Y : List Ent) (H1 : Hp) (Q1 : VK), SbC X Y → FH H1 Y → (∀ (b : Addr) (r : Row) (Z : List Ent) (H2 : Hp), SbC Y Z → r.Ok 6 → RAt Z b r → FH H2 Z → Q1 (.ref b) H2) → te σ H1 Q1)
    (k : ∀ (v : Addr) (zs : List V) (r : Row) (Z : List Ent) (H2 : Hp), SbC X Z → (v, Is (.lst zs)) ∈ Z → RAts Z zs (ss.take j.toNat ++ [r] ++ ss.drop j.toNat) → r.Ok 6 → FH H2 Z → Q (.ref v) H2) :
    tOp rAdd (tOp rAdd (L2.tSl (rSl S) (tVar n1) tNoPart (tPart (tVar n2))) (tLst (tCons te tNil))) (L2.tSl (rSl S) (tVar n1) (tPart (tVar n2)) tNoPart) σ H Q := by
  have im := Mm.mk m
  have hl := hw.len
  refine x_op (x_op (x_sl ⟨_, e1, ?_⟩))
  refine x_nopart ?_
  refine x_part ⟨_, e2, _, rfl, ?_⟩
  refine sl_g F m hj fun v1 Y1 K1 t1 G1 n1' => ?_
  have k1 := Mm.mk n1'
  refine x_lst (x_cons (ht Y1 K1 _ t1 G1 fun b r Z H2 t2 ok ra G2 => ?_))
  refine x_nil ?_
  refine x_lstG G2 (by show (1 : Nat) ≤ sizeLine; decide) fun v2 K2 _ G3 => ?_
  refine cat_g (xs := ws.take j.toNat) (ys := [.ref b]) G3 Mm.m Mm.m (by rw [List.length_take, List.length_cons, List.length_nil]; omega) fun v3 Y3 K3 t3 G4 n3 => ?_
  have k3 := Mm.mk n3
  refine x_sl ⟨_, e1, ?_⟩
  refine x_part ⟨_, e2, _, rfl, ?_⟩
  refine x_nopart ?_
  refine sd_g (vs := ws) G4 Mm.m hj fun v4 Y4 K4 t4 G5 n4 => ?_
  have k4 := Mm.mk n4
  refine cat_g (xs := ws.take j.toNat ++ [.ref b]) (ys := ws.drop j.toNat) G5 Mm.m Mm.m (by rw [List.length_append, List.length_take, List.length_drop, List.length_cons, List.length_nil]; omega) fun v5 Y5 K5 t5 G6 n5 => ?_
  exact k v5 _ r Y5 K5 ⟨(fun _ m => haveI := Mm.mk m; Mm.m)⟩ n5 ((((hw.take _).mono (fun _ m => haveI := Mm.mk m; Mm.m)).app (.cons (ra.mono (fun _ m => haveI := Mm.mk m; Mm.m)) .nil)).app ((hw.drop _).mono (fun _ m => haveI := Mm.mk m; Mm.m))) ok G6

end
section
theorem ledger_ok {a : Cl} {H : Hp} {L : List Ent} {p : Addr} {Q : VK} {E : XK} (F : FH H L) (m : (p, Bag) ∈ L) (k : ∀ (l : Addr) (vs : List V) (rs : List Row) (X : List Ent) (H' : Hp), SbC L X → (l, Is (.lst vs)) ∈ X → RAts X vs rs → rs.length ≤ 27 → okRs 6 rs → FH H' X → Q (.ref l) H') : sp_ledger a [.ref p] H Q E := by
  have mi := Mm.mk m
  refine in_ledger ?_
  repeat' walk_at "y 1"
  refine take_ok F m (by decide) (by decide) fun r1 H1 a1 b1 F1 => ?_
  clear F
  repeat' walk_at "y 1"
  refine take_ok F1 m (by decide) (by decide) fun r2 H2 a2 b2 F2 => ?_
  clear F1
  have main : ∀ (many : Int) (l0 : Addr) (H3 : Hp), FH H3 ((l0, Is (.lst [])) :: L) → 0 ≤ many ∧ many ≤ 12 → ForR (gName 3) (sFor a.S (tCall (sp_couple a) [] E (tCons (tVar 0) (tCons (tOp rMul (tC (.int 2)) (tVar 3)) tNil))) (gName 4) (tSeq (tAsg (tOp rSub (tCB (rLen a.S) (tCons (tVar 2) tNil)) (tCall (sp_take a) [] E (tCons (tVar 0) (tCons (tOp rAdd (tCB (rLen a.S) (tCons (tVar 2) tNil)) (tC (.int 1))) tNil)))) (gName 5))
      (tAsg (tOp rAdd (tOp rAdd (L2.tSl (rSl a.S) (tVar 2) tNoPart (tPart (tVar 5))) (tLst (tCons (tVar 4) tNil))) (L2.tSl (rSl a.S) (tVar 2) (tPart (tVar 5)) tNoPart)) (gName 2))))
      ((tSeq (sForR none (tCall (sp_take a) [] E (tCons (tVar 0) (tCons (tC (.int 4)) tNil))) (gName 3) (tSeq (tAsg (tCall (sp_take a) [] E (tCons (tVar 0) (tCons (tOp rAdd (tCB (rLen a.S) (tCons (tVar 2) tNil)) (tC (.int 1))) tNil))) (gName 5))
      (tAsg (tOp rAdd (tOp rAdd (L2.tSl (rSl a.S) (tVar 2) tNoPart (tPart (tVar 5))) (tLst (tCons (tCall (sp_single a) [] E (tCons (tVar 0) (tCons (tVar 3) tNil))) tNil))) (L2.tSl (rSl a.S) (tVar 2) (tPart (tVar 5)) tNoPart)) (gName 2))))
      (tRet (tVar 2))) ⟨fun _ H' => Q .non H', Q, fun _ _ => False, fun _ _ => False⟩) Q 0 many [some (.ref p), some (.int many), some (.ref l0), none, none, none] H3 := by
    intro many l0 H3 F3 hm
    refine forG (fun i σ H => ∃ (X : List Ent) (l : Addr) (vs : List V) (rs : List Row) (y3 y4 y5 : Option V), SbC L X ∧ σ = [some (.ref p), some (.int many), some (.ref l), y3, y4, y5] ∧ FH H X ∧ (l, Is (.lst vs)) ∈ X ∧ RAts X vs rs ∧ rs.length = 2 * i ∧ okRs 6 rs) (by omega) (by omega) ⟨_, l0, [], [], _, _, _, ⟨(fun _ m => haveI := Mm.mk m; Mm.m)⟩, rfl, F3, List.mem_cons_self, .nil, rfl, fun _ z => nomatch z⟩ ?_ ?_
    · clear F2 F3
      intro i σ H hi ⟨X, l, vs, rs, y3, y4, y5, sx, e, F, ml, hv, hz, ho⟩
      subst e
      have il := Mm.mk ml
      clear ml
      repeat' walk_at "y 1"
      refine couple_ok F Mm.m (by omega) fun l2 b c r x X1 H1 s1 o1 o2 rb rc ml2 F1 => ?_
      clear F
      have il2 := Mm.mk ml2
      refine forLU F1 ml2 ?_
      clear ml2
      have hvl := hv.len
      repeat' walk_at "y 1"
      refine take_ok F1 Mm.m (by omega) (by omega) fun j H2 a2 b2 F2 => ?_
      clear F1
      refine x_sub (x_g5 (x_asg (ins_ok (n1 := 2) (n2 := 5) F2 Mm.m (hv.mono (fun _ m => haveI := Mm.mk m; Mm.m)) (by omega) (by omega) rfl rfl (fun Y H1 Q1 sy FY hq => ⟨_, rfl, hq b r Y H1 ⟨fun _ z => z⟩ o1 (rb.mono (fun _ m => haveI := Mm.mk m; Mm.m)) FY⟩) fun v zs r2 Z H3 sz mz hzs or F3 => ?_)))
      have iv := Mm.mk mz
      clear mz F2
      have hzl := hzs.len
      rw [ins_len] at hzl
      repeat' walk_at "y 1"
      refine take_ok F3 Mm.m (by omega) (by omega) fun j3 H4 a4 b4 F4 => ?_
      clear F3
      refine x_sub (x_g5 (x_asg (ins_ok (n1 := 2) (n2 := 5) F4 Mm.m hzs (by rw [ins_len]; omega) (by omega) rfl rfl (fun Y H1 Q1 sy FY hq => ⟨_, rfl, hq c x Y H1 ⟨fun _ z => z⟩ o2 (rc.mono (fun _ m => haveI := Mm.mk m; Mm.m)) FY⟩) fun v2 zs2 r3 Z2 H5 sz2 mz2 hzs2 or2 F5 => ?_)))
      have iv2 := Mm.mk mz2
      clear F4
      repeat' walk_at "y 1"
      exact ⟨Z2, v2, zs2, _, _, _, _, ⟨(fun _ m => haveI := Mm.mk m; Mm.m)⟩, rfl, F5, mz2, hzs2, by rw [ins_len, ins_len]; omega, (ho.ins or).ins or2⟩
    · clear F2 F3
      intro σ H ⟨X, l, vs, rs, y3, y4, y5, sx, e, F, ml, hv, hz, ho⟩
      subst e
      have hz0 : rs.length ≤ 24 := by omega
      clear hz
      repeat' walk_at "y 1"
      refine take_ok F Mm.m (by decide) (by decide) fun n2 H4 a4 b4 F4 => ?_
      clear F
      repeat' walk_at "y 1"
      refine forG (fun i σ H => ∃ (X : List Ent) (l : Addr) (vs : List V) (rs : List Row) (y3 y4 y5 : Option V), SbC L X ∧ σ = [some (.ref p), some (.int many), some (.ref l), y3, y4, y5] ∧ FH H X ∧ (l, Is (.lst vs)) ∈ X ∧ RAts X vs rs ∧ rs.length ≤ 24 + i ∧ okRs 6 rs) (by omega) (by omega) ⟨X, l, vs, rs, _, _, _, sx, rfl, F4, ml, hv, hz0, ho⟩ ?_ ?_
      · clear F4 ml hv hz0 ho sx X l vs rs y3 y4 y5
        intro i σ H hi ⟨X, l, vs, rs, y3, y4, y5, sx, e, F, ml, hv, hz, ho⟩
        subst e
        have il := Mm.mk ml
        have hvl := hv.len
        clear ml
        repeat' walk_at "y 1"
        refine take_ok F Mm.m (by omega) (by omega) fun j H2 a2 b2 F2 => ?_
        clear F
        refine x_g5 (x_asg (ins_ok (n1 := 2) (n2 := 5) F2 Mm.m hv (by omega) (by omega) rfl rfl (fun Y H1 Q1 sy FY hq => ?_) fun v zs r2 Z H3 sz mz hzs or F3 => ?_))
        · repeat' walk_at "y 1"
          refine single_ok FY Mm.m (by omega) fun b r Z H3 sz o rb F3 => ?_
          exact hq b r Z H3 sz o rb F3
        · repeat' walk_at "y 1"
          exact ⟨Z, v, zs, _, _, _, _, ⟨(fun _ m => haveI := Mm.mk m; Mm.m)⟩, rfl, F3, mz, hzs, by rw [ins_len]; omega, ho.ins or⟩
      · clear F4 ml hv hz0 ho sx X l vs rs y3 y4 y5
        intro σ H ⟨X, l, vs, rs, y3, y4, y5, sx, e, F, ml, hv, hz, ho⟩
        subst e
        repeat' walk_at "y 1"
        exact k l vs rs X _ sx ml hv (by omega) ho F
  repeat' (first | walk_at "y 1" | walk_at "y if")
  · exact main 12 _ _ (by assumption) (by decide)
  · exact main _ _ _ (by assumption) (by omega)
theorem law_ok {a : Cl} {H : Hp} {q : Addr} {ns : List Int} {L : List Ent} {Q : VK} {E : XK} (F : FH H L) (m : Src a.S L q (ns.map V.int)) (hl : ns.length ≤ 63) (k : ∀ H', Q (.bl true) H') : sp_law a [.ref q] H Q E := by
  refine in_law ?_
  repeat' walk_at "y 1"
  refine bag_ok F m hl fun p H1 F1 => ?_
  clear F
  repeat' walk_at "y 1"
  rename_i l0 H2 _ F2
  clear F1
  refine holds_ok (n := 6) F2 List.mem_cons_self .nil (by decide) (fun _ z => nomatch z) (by decide) fun H3 F3 => ?_
  clear F2
  repeat' walk_at "y 1"
  refine ledger_ok F3 Mm.m fun l vs rs X H4 sx ml hv hz ho F4 => ?_
  clear F3
  repeat' walk_at "y 1"
  refine holds_ok (n := 6) F4 ml hv (by omega) ho (by decide) fun H5 F5 => ?_
  clear F4
  repeat' walk_at "y 1"
  refine take_ok F5 Mm.m (by decide) (by decide) fun n2 H6 a6 b6 F6 => ?_
  clear F5
  repeat' walk_at "y 1"
  refine forG (fun i σ H => ∃ (X : List Ent) (l : Addr) (vs : List V) (rs : List Row) (y3 : Option V), (p, Bag) ∈ X ∧ σ = [some (.ref q), some (.ref p), some (.ref l), y3] ∧ FH H X ∧ (l, Is (.lst vs)) ∈ X ∧ RAts X vs rs ∧ rs.length ≤ 27 + i ∧ okRs (6 + i) rs) (by omega) (by omega) ⟨X, l, vs, rs, _, Mm.m, rfl, F6, ml, hv, hz, ho⟩ ?_ ?_
  · clear F6 ml hv hz ho sx X l vs rs
    intro i σ H hi ⟨X, l, vs, rs, y3, mb, e, F, ml, hv, hz, ho⟩
    subst e
    repeat' walk_at "y 1"
    refine take_ok F mb (by decide) (by decide) fun c H2 a2 b2 F2 => ?_
    clear F
    repeat' walk_at "y 1"
    refine change_ok F2 mb ml hv hz ho (by omega) (by omega) (by omega) fun l' vs' rs' X' H3 sx' ml' hv' hz' ho' F3 => ?_
    have ib := Mm.mk mb
    clear F2
    repeat' walk_at "y 1"
    refine holds_ok (n := 6 + i + 1) F3 ml' hv' (by omega) ho' (by omega) fun H4 F4 => ?_
    clear F3
    repeat' walk_at "y 1"
    exact ⟨X', l', vs', rs', _, Mm.m, rfl, F4, ml', hv', by omega, ho'⟩
  · intro σ H ⟨X, l, vs, rs, y3, mb, e, F, ml, hv, hz, ho⟩
    subst e
    repeat' walk_at "y 1"
    exact k _
theorem law_holds (a : Cl) {K : PySem.W.Frag} (st : a.S = SK K) (vs : List V) (H : Hp) (Q : VK) (E : XK) (h : ∃ (p : Addr) (ns : List Int), vs = [.ref p] ∧ SqL K H p (ns.map V.int) ∧ ns.length ≤ 63 ∧ Only H ∧ ∀ H', Q (.bl true) H') : sp_law a vs H Q E := by
  obtain ⟨p, ns, rfl, hS, hl, hO, k⟩ := h
  obtain ⟨L, F, m⟩ := src_of st hS
  exact law_ok F m hl k

end
/-! ### the text, by places -/
abbrev top (i : Nat) : Stmt := PySem.Challenge.pw_lossway_k55_ledgers_judged.main.body.getD i (.Pass ⟨0, 0, 0, 0⟩)
structure Ad extends Cl where
  f_bag : Addr
  d_bag : FuncData
  f_repeats_mark : Addr
  d_repeats_mark : FuncData
  f_has_read : Addr
  d_has_read : FuncData
  f_repeats_peer : Addr
  d_repeats_peer : FuncData
  f_partner_of : Addr
  d_partner_of : FuncData
  f_is_prefix : Addr
  d_is_prefix : FuncData
  f_broken_rule : Addr
  d_broken_rule : FuncData
  f_unsound : Addr
  d_unsound : FuncData
  f_broken : Addr
  d_broken : FuncData
  f_is_whole : Addr
  d_is_whole : FuncData
  f_holds : Addr
  d_holds : FuncData
  f_take : Addr
  d_take : FuncData
  f_wide : Addr
  d_wide : FuncData
  f_mark : Addr
  d_mark : FuncData
  f_bytes : Addr
  d_bytes : FuncData
  f_couple : Addr
  d_couple : FuncData
  f_single : Addr
  d_single : FuncData
  f_ledger : Addr
  d_ledger : FuncData
  f_altered : Addr
  d_altered : FuncData
  f_new_row : Addr
  d_new_row : FuncData
  f_change : Addr
  d_change : FuncData
  f_law : Addr
  d_law : FuncData
structure Txt (P : Program) (K : PySem.W.Frag) (mg : Str → Option Value) (a : Ad) : Prop where
  st : a.S = SK K
  no_int : mg "int" = none
  mg_bag : mg "_law_bag" = some (.ref a.f_bag)
  bd_bag : Binds K a.d_bag ["_law_script"] []
  fn_bag : Fun K "_law_bag" "_law_bag" (top 9) a.f_bag a.d_bag
  no_list : mg "list" = none
  no_repr : mg "repr" = none
  no_enumerate : mg "enumerate" = none
  mg_repeats_mark : mg "repeats_mark" = some (.ref a.f_repeats_mark)
  bd_repeats_mark : Binds K a.d_repeats_mark ["row", "earlier"] []
  fn_repeats_mark : Fun K "repeats_mark" "repeats_mark" (top 2) a.f_repeats_mark a.d_repeats_mark
  no_len : mg "len" = none
  mg_has_read : mg "has_read" = some (.ref a.f_has_read)
  bd_has_read : Binds K a.d_has_read ["row"] []
  fn_has_read : Fun K "has_read" "has_read" (top 1) a.f_has_read a.d_has_read
  mg_repeats_peer : mg "repeats_peer" = some (.ref a.f_repeats_peer)
  bd_repeats_peer : Binds K a.d_repeats_peer ["row", "earlier"] []
  fn_repeats_peer : Fun K "repeats_peer" "repeats_peer" (top 3) a.f_repeats_peer a.d_repeats_peer
  mg_partner_of : mg "partner_of" = some (.ref a.f_partner_of)
  bd_partner_of : Binds K a.d_partner_of ["row", "ledger"] []
  fn_partner_of : Fun K "partner_of" "partner_of" (top 4) a.f_partner_of a.d_partner_of
  no_tuple : mg "tuple" = none
  mg_is_prefix : mg "is_prefix" = some (.ref a.f_is_prefix)
  bd_is_prefix : Binds K a.d_is_prefix ["part", "whole"] []
  fn_is_prefix : Fun K "is_prefix" "is_prefix" (top 5) a.f_is_prefix a.d_is_prefix
  mg_broken_rule : mg "broken_rule" = some (.ref a.f_broken_rule)
  bd_broken_rule : Binds K a.d_broken_rule ["row", "earlier", "ledger"] []
  fn_broken_rule : Fun K "broken_rule" "broken_rule" (top 6) a.f_broken_rule a.d_broken_rule
  mg_unsound : mg "unsound" = some (.ref a.f_unsound)
  bd_unsound : Binds K a.d_unsound ["ledger"] []
  fn_unsound : Fun K "unsound" "unsound" (top 7) a.f_unsound a.d_unsound
  no_range : mg "range" = none
  mg_broken : mg "_law_broken" = some (.ref a.f_broken)
  bd_broken : Binds K a.d_broken ["_law_rows", "_law_place"] []
  fn_broken : Fun K "_law_broken" "_law_broken" (top 21) a.f_broken a.d_broken
  no_isinstance : mg "isinstance" = none
  no_str : mg "str" = none
  no_bool : mg "bool" = none
  mg_is_whole : mg "_law_is_whole" = some (.ref a.f_is_whole)
  bd_is_whole : Binds K a.d_is_whole ["_law_value"] []
  fn_is_whole : Fun K "_law_is_whole" "_law_is_whole" (top 12) a.f_is_whole a.d_is_whole
  mg_holds : mg "_law_holds" = some (.ref a.f_holds)
  bd_holds : Binds K a.d_holds ["_law_rows"] []
  fn_holds : Fun K "_law_holds" "_law_holds" (top 22) a.f_holds a.d_holds
  mg_take : mg "_law_take" = some (.ref a.f_take)
  bd_take : Binds K a.d_take ["_law_bag_here", "_law_many"] []
  fn_take : Fun K "_law_take" "_law_take" (top 10) a.f_take a.d_take
  mg_wide : mg "_law_wide" = some (.ref a.f_wide)
  bd_wide : Binds K a.d_wide ["_law_bag_here"] []
  fn_wide : Fun K "_law_wide" "_law_wide" (top 11) a.f_wide a.d_wide
  mg_mark : mg "_law_mark" = some (.ref a.f_mark)
  bd_mark : Binds K a.d_mark ["_law_bag_here", "_law_number"] []
  fn_mark : Fun K "_law_mark" "_law_mark" (top 13) a.f_mark a.d_mark
  mg_bytes : mg "_law_bytes" = some (.ref a.f_bytes)
  bd_bytes : Binds K a.d_bytes ["_law_bag_here", "_law_many"] []
  fn_bytes : Fun K "_law_bytes" "_law_bytes" (top 14) a.f_bytes a.d_bytes
  mg_couple : mg "_law_couple" = some (.ref a.f_couple)
  bd_couple : Binds K a.d_couple ["_law_bag_here", "_law_number"] []
  fn_couple : Fun K "_law_couple" "_law_couple" (top 15) a.f_couple a.d_couple
  mg_single : mg "_law_single" = some (.ref a.f_single)
  bd_single : Binds K a.d_single ["_law_bag_here", "_law_number"] []
  fn_single : Fun K "_law_single" "_law_single" (top 16) a.f_single a.d_single
  mg_ledger : mg "_law_ledger" = some (.ref a.f_ledger)
  bd_ledger : Binds K a.d_ledger ["_law_bag_here"] []
  fn_ledger : Fun K "_law_ledger" "_law_ledger" (top 17) a.f_ledger a.d_ledger
  mg_altered : mg "_law_altered" = some (.ref a.f_altered)
  bd_altered : Binds K a.d_altered ["_law_bag_here", "_law_items"] []
  fn_altered : Fun K "_law_altered" "_law_altered" (top 18) a.f_altered a.d_altered
  mg_new_row : mg "_law_new_row" = some (.ref a.f_new_row)
  bd_new_row : Binds K a.d_new_row ["_law_bag_here", "_law_row", "_law_other", "_law_kind"] []
  fn_new_row : Fun K "_law_new_row" "_law_new_row" (top 19) a.f_new_row a.d_new_row
  mg_change : mg "_law_change" = some (.ref a.f_change)
  bd_change : Binds K a.d_change ["_law_bag_here", "_law_rows", "_law_kind"] []
  fn_change : Fun K "_law_change" "_law_change" (top 20) a.f_change a.d_change
  fn_law : Fun K "law" "law" (top 23) a.f_law a.d_law
  bd_law : Binds K a.d_law ["_law_script"] []
  mg_law : mg "law" = some (.ref a.f_law)
section
variable {P : Program} {w : World} {K : PySem.W.Frag} {mg : Str → Option Value} {base : Heap} {a : Ad}
abbrev nm_bag : List Str := ["_law_script", "_law_cell"]
theorem sc_bag : FnScope nm_bag ["_law_script"] (defScope (top 9)) := ⟨rfl, rfl, rfl, by decide +kernel, rfl, by decide +kernel, by decide +kernel⟩
theorem ok_bag (T : Txt P K mg a) : FnOk P w K mg base (L2.CX P w) 1 a.f_bag a.d_bag ["_law_script"] (sp_bag a.toCl) := by
  refine ok_body T.fn_bag sc_bag rfl rfl fun cdv A outer s H E hr => ?_
  exact (pss_one (ps_ret (pe_lst (pa_cons (pe_lcSeq (own := [("_law_cell", 1)]) T.st rfl sc_bag.nd (pe_slice (o_sl T.st) (pv 0) po_none (po_some pe_int)) (blkOk_by (own := [("_law_cell", 1)]) (N := nm_bag) (sc := defScope (top 9)) (by decide +kernel)) ⟨fun _ _ _ _ _ => (pg_name (i := 1) sc_bag.nd rfl (by first | exact Or.inl rfl | exact Or.inr rfl)), fun _ _ _ _ _ => pts_nil, fun _ _ _ _ _ => (pe_callTy c_int (by rfl) T.no_int (by decide +kernel) (pa_cons (pv 1) pa_nil))⟩) (pa_cons pe_int (pa_cons pe_int (pa_cons pe_int pa_nil)))))))
abbrev nm_repeats_mark : List Str := ["row", "earlier", "other"]
theorem sc_repeats_mark : FnScope nm_repeats_mark ["row", "earlier"] (defScope (top 2)) := ⟨rfl, rfl, rfl, by decide +kernel, rfl, by decide +kernel, by decide +kernel⟩
theorem ok_repeats_mark (T : Txt P K mg a) : FnOk P w K mg base (L2.CX P w) 1 a.f_repeats_mark a.d_repeats_mark ["row", "earlier"] (sp_repeats_mark a.toCl) := by
  refine ok_body T.fn_repeats_mark sc_repeats_mark rfl rfl fun cdv A outer s H E hr => ?_
  exact (pss_cons (ps_forSeq T.st (passes_of rfl) rfl (pv 1) (pg_name (i := 2) sc_repeats_mark.nd rfl (by first | exact Or.inl rfl | exact Or.inr rfl)) (pss_one (ps_if (PW.pt (pw_and (pt_cmpR (o_eqP T.st hr.units) (pe_ix (o_ix T.st) (pv 2) pe_int (fun _ _ => rfl)) (pe_ix (o_ix T.st) (pv 0) pe_int (fun _ _ => rfl)) (nomark _)) (pw_and1 (pt_cmpR (o_eqP T.st hr.units) (pe_ix (o_ix T.st) (pv 2) pe_int (fun _ _ => rfl)) (pe_ix (o_ix T.st) (pv 0) pe_int (fun _ _ => rfl)) (nomark _))))) (pss_one (ps_ret pe_bl)) pss_nil)))
    (pss_one (ps_ret pe_bl)))
abbrev nm_has_read : List Str := ["row"]
theorem sc_has_read : FnScope nm_has_read ["row"] (defScope (top 1)) := ⟨rfl, rfl, rfl, by decide +kernel, rfl, by decide +kernel, by decide +kernel⟩
theorem ok_has_read (T : Txt P K mg a) : FnOk P w K mg base (L2.CX P w) 1 a.f_has_read a.d_has_read ["row"] (sp_has_read a.toCl) := by
  refine ok_body T.fn_has_read sc_has_read rfl rfl fun cdv A outer s H E hr => ?_
  exact (pss_one (ps_ret (pe_cmpR o_gt (pe_callB (c_len T.st) (by rfl) T.no_len (by decide +kernel) (pa_cons (pe_ix (o_ix T.st) (pv 0) pe_int (fun _ _ => rfl)) pa_nil)) pe_int (nomark _))))
abbrev nm_repeats_peer : List Str := ["row", "earlier", "other"]
theorem sc_repeats_peer : FnScope nm_repeats_peer ["row", "earlier"] (defScope (top 3)) := ⟨rfl, rfl, rfl, by decide +kernel, rfl, by decide +kernel, by decide +kernel⟩
theorem ok_repeats_peer (T : Txt P K mg a) : FnOk P w K mg base (L2.CX P w) 2 a.f_repeats_peer a.d_repeats_peer ["row", "earlier"] (sp_repeats_peer a.toCl) := by
  refine ok_body T.fn_repeats_peer sc_repeats_peer rfl rfl fun cdv A outer s H E hr => ?_
  exact (pss_cons (ps_if (pt_not (pt_val (pe_call (ok_has_read T) (hr.mono (by decide)) rfl T.mg_has_read (T.fn_has_read).kp T.bd_has_read .nil passE (pa_cons (pv 0) pa_nil)))) (pss_one (ps_ret pe_bl)) pss_nil)
    (pss_cons (ps_forSeq T.st (passes_of rfl) rfl (pv 1) (pg_name (i := 2) sc_repeats_peer.nd rfl (by first | exact Or.inl rfl | exact Or.inr rfl)) (pss_one (ps_if (PW.pt (pw_and (pt_cmpR (o_eqP T.st hr.units) (pe_ix (o_ix T.st) (pv 2) pe_int (fun _ _ => rfl)) (pe_ix (o_ix T.st) (pv 0) pe_int (fun _ _ => rfl)) (nomark _)) (pw_and (pt_cmpR (o_eqP T.st hr.units) (pe_ix (o_ix T.st) (pv 2) pe_int (fun _ _ => rfl)) (pe_ix (o_ix T.st) (pv 0) pe_int (fun _ _ => rfl)) (nomark _)) (pw_and1 (pt_val (pe_call (ok_has_read T) (hr.mono (by decide)) rfl T.mg_has_read (T.fn_has_read).kp T.bd_has_read .nil passE (pa_cons (pv 2) pa_nil))))))) (pss_one (ps_ret pe_bl)) pss_nil)))
    (pss_one (ps_ret pe_bl))))
abbrev nm_partner_of : List Str := ["row", "ledger", "other"]
theorem sc_partner_of : FnScope nm_partner_of ["row", "ledger"] (defScope (top 4)) := ⟨rfl, rfl, rfl, by decide +kernel, rfl, by decide +kernel, by decide +kernel⟩
theorem ok_partner_of (T : Txt P K mg a) : FnOk P w K mg base (L2.CX P w) 1 a.f_partner_of a.d_partner_of ["row", "ledger"] (sp_partner_of a.toCl) := by
  refine ok_body T.fn_partner_of sc_partner_of rfl rfl fun cdv A outer s H E hr => ?_
  exact (pss_cons (ps_forSeq T.st (passes_of rfl) rfl (pv 1) (pg_name (i := 2) sc_partner_of.nd rfl (by first | exact Or.inl rfl | exact Or.inr rfl)) (pss_one (ps_if (PW.pt (pw_and (pt_cmpR (o_neP T.st hr.units) (pe_ix (o_ix T.st) (pv 2) pe_int (fun _ _ => rfl)) (pe_ix (o_ix T.st) (pv 0) pe_int (fun _ _ => rfl)) (nomark _)) (pw_and (pt_cmpR (o_eqP T.st hr.units) (pe_ix (o_ix T.st) (pv 2) pe_int (fun _ _ => rfl)) (pe_ix (o_ix T.st) (pv 0) pe_int (fun _ _ => rfl)) (nomark _)) (pw_and1 (pt_cmpR (o_eqP T.st hr.units) (pe_ix (o_ix T.st) (pv 2) pe_int (fun _ _ => rfl)) (pe_ix (o_ix T.st) (pv 0) pe_int (fun _ _ => rfl)) (nomark _)))))) (pss_one (ps_ret (pv 2))) pss_nil)))
    (pss_one (ps_ret pe_non)))
abbrev nm_is_prefix : List Str := ["part", "whole"]
theorem sc_is_prefix : FnScope nm_is_prefix ["part", "whole"] (defScope (top 5)) := ⟨rfl, rfl, rfl, by decide +kernel, rfl, by decide +kernel, by decide +kernel⟩
theorem ok_is_prefix (T : Txt P K mg a) : FnOk P w K mg base (L2.CX P w) 1 a.f_is_prefix a.d_is_prefix ["part", "whole"] (sp_is_prefix a.toCl) := by
  refine ok_body T.fn_is_prefix sc_is_prefix rfl rfl fun cdv A outer s H E hr => ?_
  exact (pss_one (ps_ret (pe_cmpR (o_eqP T.st hr.units) (pe_callTy (c_tuple T.st) (by rfl) T.no_tuple (by decide +kernel) (pa_cons (pe_slice (o_tsl T.st) (pv 1) po_none (po_some (pe_callB (c_len T.st) (by rfl) T.no_len (by decide +kernel) (pa_cons (pv 0) pa_nil)))) pa_nil)) (pe_callTy (c_tuple T.st) (by rfl) T.no_tuple (by decide +kernel) (pa_cons (pv 0) pa_nil)) (nomark _))))
abbrev nm_broken_rule : List Str := ["row", "earlier", "ledger", "partner"]
theorem sc_broken_rule : FnScope nm_broken_rule ["row", "earlier", "ledger"] (defScope (top 6)) := ⟨rfl, rfl, rfl, by decide +kernel, rfl, by decide +kernel, by decide +kernel⟩
theorem ok_broken_rule (T : Txt P K mg a) : FnOk P w K mg base (L2.CX P w) 3 a.f_broken_rule a.d_broken_rule ["row", "earlier", "ledger"] (sp_broken_rule a.toCl) := by
  refine ok_body T.fn_broken_rule sc_broken_rule rfl rfl fun cdv A outer s H E hr => ?_
  exact (pss_cons (ps_if (pt_val (pe_call (ok_repeats_mark T) (hr.mono (by decide)) rfl T.mg_repeats_mark (T.fn_repeats_mark).kp T.bd_repeats_mark .nil passE (pa_cons (pv 0) (pa_cons (pv 1) pa_nil)))) (pss_one (ps_ret pe_str)) pss_nil)
    (pss_cons (ps_if (pt_val (pe_call (ok_repeats_peer T) (hr.mono (by decide)) rfl T.mg_repeats_peer (T.fn_repeats_peer).kp T.bd_repeats_peer .nil passE (pa_cons (pv 0) (pa_cons (pv 1) pa_nil)))) (pss_one (ps_ret pe_str)) pss_nil)
    (pss_cons (ps_if (pt_not (pt_val (pe_call (ok_has_read T) (hr.mono (by decide)) rfl T.mg_has_read (T.fn_has_read).kp T.bd_has_read .nil passE (pa_cons (pv 0) pa_nil)))) (pss_one (ps_ret pe_non)) pss_nil)
    (pss_cons (ps_set (i := 3) sc_broken_rule.nd rfl (by first | exact Or.inl rfl | exact Or.inr rfl) (pe_call (ok_partner_of T) (hr.mono (by decide)) rfl T.mg_partner_of (T.fn_partner_of).kp T.bd_partner_of .nil passE (pa_cons (pv 0) (pa_cons (pv 2) pa_nil))))
    (pss_cons (ps_if (pt_cmpR o_is (pv 3) pe_non (nomark _)) (pss_one (ps_ret pe_str)) pss_nil)
    (pss_cons (ps_if (pt_not (pt_val (pe_call (ok_is_prefix T) (hr.mono (by decide)) rfl T.mg_is_prefix (T.fn_is_prefix).kp T.bd_is_prefix .nil passE (pa_cons (pe_ix (o_ix T.st) (pv 0) pe_int (fun _ _ => rfl)) (pa_cons (pe_ix (o_ix T.st) (pv 3) pe_int (fun _ _ => rfl)) pa_nil))))) (pss_one (ps_ret pe_str)) pss_nil)
    (pss_one (ps_ret pe_non))))))))
abbrev nm_unsound : List Str := ["ledger", "index", "row", "rule"]
theorem sc_unsound : FnScope nm_unsound ["ledger"] (defScope (top 7)) := ⟨rfl, rfl, rfl, by decide +kernel, rfl, by decide +kernel, by decide +kernel⟩
theorem ok_unsound (T : Txt P K mg a) : FnOk P w K mg base (L2.CX P w) 4 a.f_unsound a.d_unsound ["ledger"] (sp_unsound a.toCl) := by
  refine ok_body T.fn_unsound sc_unsound rfl rfl fun cdv A outer s H E hr => ?_
  exact (pss_cons (ps_forEn T.st (passes_of rfl) rfl rfl T.no_enumerate (pv 0) (pg_name (i := 1) sc_unsound.nd rfl (by first | exact Or.inl rfl | exact Or.inr rfl)) (pg_name (i := 2) sc_unsound.nd rfl (by first | exact Or.inl rfl | exact Or.inr rfl)) (pss_cons (ps_set (i := 3) sc_unsound.nd rfl (by first | exact Or.inl rfl | exact Or.inr rfl) (pe_call (ok_broken_rule T) (hr.mono (by decide)) rfl T.mg_broken_rule (T.fn_broken_rule).kp T.bd_broken_rule .nil passE (pa_cons (pv 2) (pa_cons (pe_slice (o_sl T.st) (pv 0) po_none (po_some (pv 1))) (pa_cons (pv 0) pa_nil)))))
    (pss_one (ps_if (pt_cmpR o_isnot (pv 3) pe_non (nomark _)) (pss_one (ps_ret (pe_tup (pa_cons (pv 1) (pa_cons (pv 3) pa_nil))))) pss_nil))))
    (pss_one (ps_ret pe_non)))
abbrev nm_broken : List Str := ["_law_rows", "_law_place", "_law_row", "_law_earlier", "_law_one", "_law_others"]
theorem sc_broken : FnScope nm_broken ["_law_rows", "_law_place"] (defScope (top 21)) := ⟨rfl, rfl, rfl, by decide +kernel, rfl, by decide +kernel, by decide +kernel⟩
theorem ok_broken (T : Txt P K mg a) : FnOk P w K mg base (L2.CX P w) 1 a.f_broken a.d_broken ["_law_rows", "_law_place"] (sp_broken a.toCl) := by
  refine ok_body T.fn_broken sc_broken rfl rfl fun cdv A outer s H E hr => ?_
  exact (pss_cons (ps_set (i := 2) sc_broken.nd rfl (by first | exact Or.inl rfl | exact Or.inr rfl) (pe_ix (o_ix T.st) (pv 0) (pv 1) (fun _ _ => rfl)))
    (pss_cons (ps_lcSeq (i := 3) (own := [("_law_one", 4)]) T.st rfl sc_broken.nd rfl rfl (sw_true rfl rfl rfl (by decide +kernel)) (pe_slice (o_sl T.st) (pv 0) po_none (po_some (pv 1))) (blkOk_by (own := [("_law_one", 4)]) (N := nm_broken) (sc := defScope (top 21)) (by decide +kernel)) ⟨fun _ _ _ _ _ => (pg_name (i := 4) sc_broken.nd rfl (by first | exact Or.inl rfl | exact Or.inr rfl)), fun _ _ _ _ _ => (pts_one (pt_cmpR (o_eqP T.st hr.units) (pe_ix (o_ix T.st) (pv 4) pe_int (fun _ _ => rfl)) (pe_ix (o_ix T.st) (pv 2) pe_int (fun _ _ => rfl)) (nomark _))), fun _ _ _ _ _ => (pv 4)⟩)
    (pss_cons (ps_if (pt_cmpR (o_neP T.st hr.units) (pe_lcSeq (own := [("_law_one", 4)]) T.st rfl sc_broken.nd (pv 3) (blkOk_by (own := [("_law_one", 4)]) (N := nm_broken) (sc := defScope (top 21)) (by decide +kernel)) ⟨fun _ _ _ _ _ => (pg_name (i := 4) sc_broken.nd rfl (by first | exact Or.inl rfl | exact Or.inr rfl)), fun _ _ _ _ _ => (pts_one (pt_cmpR (o_eqP T.st hr.units) (pe_ix (o_ix T.st) (pv 4) pe_int (fun _ _ => rfl)) (pe_ix (o_ix T.st) (pv 2) pe_int (fun _ _ => rfl)) (nomark _))), fun _ _ _ _ _ => (pv 4)⟩) (pe_lst pa_nil) (nomark _)) (pss_one (ps_ret pe_str)) pss_nil)
    (pss_cons (ps_if (pt_cmpR (o_eqP T.st hr.units) (pe_callB (c_len T.st) (by rfl) T.no_len (by decide +kernel) (pa_cons (pe_ix (o_ix T.st) (pv 2) pe_int (fun _ _ => rfl)) pa_nil)) pe_int (nomark _)) (pss_one (ps_ret pe_str)) pss_nil)
    (pss_cons (ps_if (pt_cmpR (o_neP T.st hr.units) (pe_lcSeq (own := [("_law_one", 4)]) T.st rfl sc_broken.nd (pv 3) (blkOk_by (own := [("_law_one", 4)]) (N := nm_broken) (sc := defScope (top 21)) (by decide +kernel)) ⟨fun _ _ _ _ _ => (pg_name (i := 4) sc_broken.nd rfl (by first | exact Or.inl rfl | exact Or.inr rfl)), fun _ _ _ _ _ => (pts_one (PW.pt (pw_and (pt_cmpR (o_eqP T.st hr.units) (pe_ix (o_ix T.st) (pv 4) pe_int (fun _ _ => rfl)) (pe_ix (o_ix T.st) (pv 2) pe_int (fun _ _ => rfl)) (nomark _)) (pw_and1 (pt_cmpR o_gt (pe_callB (c_len T.st) (by rfl) T.no_len (by decide +kernel) (pa_cons (pe_ix (o_ix T.st) (pv 4) pe_int (fun _ _ => rfl)) pa_nil)) pe_int (nomark _)))))), fun _ _ _ _ _ => (pv 4)⟩) (pe_lst pa_nil) (nomark _)) (pss_one (ps_ret pe_str)) pss_nil)
    (pss_cons (ps_lcSeq (i := 5) (own := [("_law_one", 4)]) T.st rfl sc_broken.nd rfl rfl (sw_true rfl rfl rfl (by decide +kernel)) (pv 0) (blkOk_by (own := [("_law_one", 4)]) (N := nm_broken) (sc := defScope (top 21)) (by decide +kernel)) ⟨fun _ _ _ _ _ => (pg_name (i := 4) sc_broken.nd rfl (by first | exact Or.inl rfl | exact Or.inr rfl)), fun _ _ _ _ _ => (pts_one (PW.pt (pw_and (pt_cmpR (o_neP T.st hr.units) (pe_ix (o_ix T.st) (pv 4) pe_int (fun _ _ => rfl)) (pe_ix (o_ix T.st) (pv 2) pe_int (fun _ _ => rfl)) (nomark _)) (pw_and (pt_cmpR (o_eqP T.st hr.units) (pe_ix (o_ix T.st) (pv 4) pe_int (fun _ _ => rfl)) (pe_ix (o_ix T.st) (pv 2) pe_int (fun _ _ => rfl)) (nomark _)) (pw_and1 (pt_cmpR (o_eqP T.st hr.units) (pe_ix (o_ix T.st) (pv 4) pe_int (fun _ _ => rfl)) (pe_ix (o_ix T.st) (pv 2) pe_int (fun _ _ => rfl)) (nomark _))))))), fun _ _ _ _ _ => (pv 4)⟩)
    (pss_cons (ps_if (pt_cmpR (o_eqP T.st hr.units) (pv 5) (pe_lst pa_nil) (nomark _)) (pss_one (ps_ret pe_str)) pss_nil)
    (pss_cons (ps_if (pt_cmpR (o_neP T.st hr.units) (pe_slice (o_tsl T.st) (pe_ix (o_ix T.st) (pe_ix (o_ix T.st) (pv 5) pe_int (fun _ _ => rfl)) pe_int (fun _ _ => rfl)) po_none (po_some (pe_callB (c_len T.st) (by rfl) T.no_len (by decide +kernel) (pa_cons (pe_ix (o_ix T.st) (pv 2) pe_int (fun _ _ => rfl)) pa_nil)))) (pe_ix (o_ix T.st) (pv 2) pe_int (fun _ _ => rfl)) (nomark _)) (pss_one (ps_ret pe_str)) pss_nil)
    (pss_one (ps_ret pe_str))))))))))
abbrev nm_is_whole : List Str := ["_law_value"]
theorem sc_is_whole : FnScope nm_is_whole ["_law_value"] (defScope (top 12)) := ⟨rfl, rfl, rfl, by decide +kernel, rfl, by decide +kernel, by decide +kernel⟩
theorem ok_is_whole (T : Txt P K mg a) : FnOk P w K mg base (L2.CX P w) 1 a.f_is_whole a.d_is_whole ["_law_value"] (sp_is_whole a.toCl) := by
  refine ok_body T.fn_is_whole sc_is_whole rfl rfl fun cdv A outer s H E hr => ?_
  exact (pss_one (ps_ret (pe_and (pe_callB c_isi (by rfl) T.no_isinstance (by decide +kernel) (pa_cons (pv 0) (pa_cons (pe_bltn (v := .ty "int") (by rfl) T.no_int (by decide +kernel) rfl) pa_nil))) (pe_one (pe_not (pe_callB c_isi (by rfl) T.no_isinstance (by decide +kernel) (pa_cons (pv 0) (pa_cons (pe_bltn (v := .ty "bool") (by rfl) T.no_bool (by decide +kernel) rfl) pa_nil))))))))
abbrev nm_holds : List Str := ["_law_rows", "_law_handed", "_law_kept", "_law_actual", "_law_place", "_law_rule"]
theorem sc_holds : FnScope nm_holds ["_law_rows"] (defScope (top 22)) := ⟨rfl, rfl, rfl, by decide +kernel, rfl, by decide +kernel, by decide +kernel⟩
theorem ok_holds (T : Txt P K mg a) : FnG P w K mg base (L2.CX P w) 5 a.f_holds a.d_holds ["_law_rows"] (sp_holds a.toCl) := by
  refine ok_bodyG T.fn_holds sc_holds rfl rfl fun cdv A outer s H E gd hr => ?_
  exact (pss_cons (ps_set (i := 1) sc_holds.nd rfl (by first | exact Or.inl rfl | exact Or.inr rfl) (pe_callTy (c_list T.st) (by rfl) T.no_list (by decide +kernel) (pa_cons (pv 0) pa_nil)))
    (pss_cons (ps_set (i := 2) sc_holds.nd rfl (by first | exact Or.inl rfl | exact Or.inr rfl) (pe_callB (c_repr T.st gd hr.units) (by rfl) T.no_repr (by decide +kernel) (pa_cons (pv 1) pa_nil)))
    (pss_cons (ps_set (i := 3) sc_holds.nd rfl (by first | exact Or.inl rfl | exact Or.inr rfl) (pe_call (ok_unsound T) (hr.mono (by decide)) rfl T.mg_unsound (T.fn_unsound).kp T.bd_unsound .nil passE (pa_cons (pv 1) pa_nil)))
    (pss_cons (ps_if (pt_cmpR (o_neP T.st hr.units) (pe_callB (c_repr T.st gd hr.units) (by rfl) T.no_repr (by decide +kernel) (pa_cons (pv 1) pa_nil)) (pv 2) (nomark _)) (pss_one (ps_ret pe_bl)) pss_nil)
    (pss_cons (ps_forR1 (passes_of rfl) rfl rfl T.no_range (pe_callB (c_len T.st) (by rfl) T.no_len (by decide +kernel) (pa_cons (pv 0) pa_nil)) (pg_name (i := 4) sc_holds.nd rfl (by first | exact Or.inl rfl | exact Or.inr rfl)) (pss_cons (ps_set (i := 5) sc_holds.nd rfl (by first | exact Or.inl rfl | exact Or.inr rfl) (pe_call (ok_broken T) (hr.mono (by decide)) rfl T.mg_broken (T.fn_broken).kp T.bd_broken .nil passE (pa_cons (pv 0) (pa_cons (pv 4) pa_nil))))
    (pss_one (ps_if (pt_cmpR (o_neP T.st hr.units) (pv 5) pe_str (nomark _)) (pss_cons (ps_if (PW.pt (pw_or (pt_not (pt_val (pe_callB c_isi (by rfl) T.no_isinstance (by decide +kernel) (pa_cons (pv 3) (pa_cons (pe_bltn (v := .ty "tuple") (by rfl) T.no_tuple (by decide +kernel) rfl) pa_nil))))) (pw_or (pt_cmpR (o_neP T.st hr.units) (pe_callB (c_len T.st) (by rfl) T.no_len (by decide +kernel) (pa_cons (pv 3) pa_nil)) pe_int (nomark _)) (pw_or1 (pt_not (pt_val (pe_callB c_isi (by rfl) T.no_isinstance (by decide +kernel) (pa_cons (pe_ix (o_ix T.st) (pv 3) pe_int (fun _ _ => rfl)) (pa_cons (pe_bltn (v := .ty "str") (by rfl) T.no_str (by decide +kernel) rfl) pa_nil))))))))) (pss_one (ps_ret pe_bl)) pss_nil)
    (pss_one (ps_ret (pe_and (pe_call (ok_is_whole T) (hr.mono (by decide)) rfl T.mg_is_whole (T.fn_is_whole).kp T.bd_is_whole .nil passE (pa_cons (pe_ix (o_ix T.st) (pv 3) pe_int (fun _ _ => rfl)) pa_nil)) (pe_and (pe_cmpR (o_eqP T.st hr.units) (pe_ix (o_ix T.st) (pv 3) pe_int (fun _ _ => rfl)) (pv 4) (nomark _)) (pe_one (pe_cmpR (o_eqP T.st hr.units) (pe_ix (o_ix T.st) (pv 3) pe_int (fun _ _ => rfl)) (pv 5) (nomark _)))))))) pss_nil))))
    (pss_one (ps_ret (pe_cmpR o_is (pv 3) pe_non (nomark _)))))))))
abbrev nm_take : List Str := ["_law_bag_here", "_law_many", "_law_cell", "_law_digit", "_law_mixed"]
theorem sc_take : FnScope nm_take ["_law_bag_here", "_law_many"] (defScope (top 10)) := ⟨rfl, rfl, rfl, by decide +kernel, rfl, by decide +kernel, by decide +kernel⟩
theorem ok_take (T : Txt P K mg a) : FnOk P w K mg base (L2.CX P w) 1 a.f_take a.d_take ["_law_bag_here", "_law_many"] (sp_take a.toCl) := by
  refine ok_body T.fn_take sc_take rfl rfl fun cdv A outer s H E hr => ?_
  exact (pss_cons (ps_if (pt_cmpR (o_eqP T.st hr.units) (pe_ix (o_ix T.st) (pv 0) pe_int (fun _ _ => rfl)) pe_int (nomark _)) (pss_cons (ps_set (i := 2) sc_take.nd rfl (by first | exact Or.inl rfl | exact Or.inr rfl) pe_int)
    (pss_cons (ps_if (pt_cmpR o_lt (pe_ix (o_ix T.st) (pv 0) pe_int (fun _ _ => rfl)) (pe_callB (c_len T.st) (by rfl) T.no_len (by decide +kernel) (pa_cons (pe_ix (o_ix T.st) (pv 0) pe_int (fun _ _ => rfl)) pa_nil)) (nomark _)) (pss_cons (ps_set (i := 2) sc_take.nd rfl (by first | exact Or.inl rfl | exact Or.inr rfl) (pe_callTy c_int (by rfl) T.no_int (by decide +kernel) (pa_cons (pe_ix (o_ix T.st) (pe_ix (o_ix T.st) (pv 0) pe_int (fun _ _ => rfl)) (pe_ix (o_ix T.st) (pv 0) pe_int (fun _ _ => rfl)) (fun _ _ => rfl)) pa_nil)))
    (pss_one (ps_asg (pe_op o_add (pe_ix (o_ix T.st) (pv 0) pe_int (fun _ _ => rfl)) pe_int) (pg_sub (pv 0) pe_int set_list)))) pss_nil)
    (pss_cons (ps_asg (pe_op o_mod (pe_callTy c_int (by rfl) T.no_int (by decide +kernel) (pa_cons (pe_op o_add (pe_op o_mul (pe_ix (o_ix T.st) (pv 0) pe_int (fun _ _ => rfl)) pe_int) (pe_op o_mul (pv 2) pe_int)) pa_nil)) pe_int) (pg_sub (pv 0) pe_int set_list))
    (pss_one (ps_if (pt_cmpR o_ge (pv 2) (pe_op o_pow pe_int pe_int) (nomark _)) (pss_one (ps_asg (pv 2) (pg_sub (pv 0) pe_int set_list))) pss_nil))))) pss_nil)
    (pss_cons (ps_if (pt_cmpR o_gt (pe_ix (o_ix T.st) (pv 0) pe_int (fun _ _ => rfl)) pe_int (nomark _)) (pss_cons (ps_set (i := 3) sc_take.nd rfl (by first | exact Or.inl rfl | exact Or.inr rfl) (pe_op o_mod (pe_callTy c_int (by rfl) T.no_int (by decide +kernel) (pa_cons (pe_ix (o_ix T.st) (pv 0) pe_int (fun _ _ => rfl)) pa_nil)) (pv 1)))
    (pss_cons (ps_asg (pe_op o_fdiv (pe_callTy c_int (by rfl) T.no_int (by decide +kernel) (pa_cons (pe_ix (o_ix T.st) (pv 0) pe_int (fun _ _ => rfl)) pa_nil)) (pv 1)) (pg_sub (pv 0) pe_int set_list))
    (pss_one (ps_ret (pv 3))))) pss_nil)
    (pss_cons (ps_set (i := 4) sc_take.nd rfl (by first | exact Or.inl rfl | exact Or.inr rfl) (pe_op o_mul (pe_op o_mod (pe_callTy c_int (by rfl) T.no_int (by decide +kernel) (pa_cons (pe_ix (o_ix T.st) (pv 0) pe_int (fun _ _ => rfl)) pa_nil)) pe_int) (pe_op o_add (pe_op o_fdiv (pe_callTy c_int (by rfl) T.no_int (by decide +kernel) (pa_cons (pe_ix (o_ix T.st) (pv 0) pe_int (fun _ _ => rfl)) pa_nil)) pe_int) pe_int)))
    (pss_one (ps_ret (pe_op o_mod (pe_op o_mod (pe_callTy c_int (by rfl) T.no_int (by decide +kernel) (pa_cons (pv 4) pa_nil)) pe_int) (pv 1)))))))
abbrev nm_wide : List Str := ["_law_bag_here", "_law_upper"]
theorem sc_wide : FnScope nm_wide ["_law_bag_here"] (defScope (top 11)) := ⟨rfl, rfl, rfl, by decide +kernel, rfl, by decide +kernel, by decide +kernel⟩
theorem ok_wide (T : Txt P K mg a) : FnOk P w K mg base (L2.CX P w) 2 a.f_wide a.d_wide ["_law_bag_here"] (sp_wide a.toCl) := by
  refine ok_body T.fn_wide sc_wide rfl rfl fun cdv A outer s H E hr => ?_
  exact (pss_cons (ps_set (i := 1) sc_wide.nd rfl (by first | exact Or.inl rfl | exact Or.inr rfl) (pe_call (ok_take T) (hr.mono (by decide)) rfl T.mg_take (T.fn_take).kp T.bd_take .nil passE (pa_cons (pv 0) (pa_cons pe_int pa_nil))))
    (pss_one (ps_ret (pe_op o_add (pe_op o_mul pe_int (pv 1)) (pe_call (ok_take T) (hr.mono (by decide)) rfl T.mg_take (T.fn_take).kp T.bd_take .nil passE (pa_cons (pv 0) (pa_cons pe_int pa_nil)))))))
abbrev nm_mark : List Str := ["_law_bag_here", "_law_number", "_law_way"]
theorem sc_mark : FnScope nm_mark ["_law_bag_here", "_law_number"] (defScope (top 13)) := ⟨rfl, rfl, rfl, by decide +kernel, rfl, by decide +kernel, by decide +kernel⟩
theorem ok_mark (T : Txt P K mg a) : FnOk P w K mg base (L2.CX P w) 3 a.f_mark a.d_mark ["_law_bag_here", "_law_number"] (sp_mark a.toCl) := by
  refine ok_body T.fn_mark sc_mark rfl rfl fun cdv A outer s H E hr => ?_
  exact (pss_cons (ps_set (i := 2) sc_mark.nd rfl (by first | exact Or.inl rfl | exact Or.inr rfl) (pe_call (ok_take T) (hr.mono (by decide)) rfl T.mg_take (T.fn_take).kp T.bd_take .nil passE (pa_cons (pv 0) (pa_cons pe_int pa_nil))))
    (pss_cons (ps_if (pt_cmpR (o_eqP T.st hr.units) (pv 2) pe_int (nomark _)) (pss_one (ps_ret (pe_op o_add pe_int (pe_op o_mod (pe_callTy c_int (by rfl) T.no_int (by decide +kernel) (pa_cons (pe_call (ok_wide T) (hr.mono (by decide)) rfl T.mg_wide (T.fn_wide).kp T.bd_wide .nil passE (pa_cons (pv 0) pa_nil)) pa_nil)) pe_int)))) pss_nil)
    (pss_cons (ps_if (pt_cmpR (o_eqP T.st hr.units) (pv 2) pe_int (nomark _)) (pss_one (ps_ret (pe_op o_add pe_int (pe_call (ok_take T) (hr.mono (by decide)) rfl T.mg_take (T.fn_take).kp T.bd_take .nil passE (pa_cons (pv 0) (pa_cons pe_int pa_nil)))))) pss_nil)
    (pss_one (ps_ret (pe_op o_add pe_int (pv 1)))))))
abbrev nm_bytes : List Str := ["_law_bag_here", "_law_many", "_law_k"]
theorem sc_bytes : FnScope nm_bytes ["_law_bag_here", "_law_many"] (defScope (top 14)) := ⟨rfl, rfl, rfl, by decide +kernel, rfl, by decide +kernel, by decide +kernel⟩
theorem ok_bytes (T : Txt P K mg a) : FnOk P w K mg base (L2.CX P w) 2 a.f_bytes a.d_bytes ["_law_bag_here", "_law_many"] (sp_bytes a.toCl) := by
  refine ok_body T.fn_bytes sc_bytes rfl rfl fun cdv A outer s H E hr => ?_
  exact (pss_one (ps_ret (pe_callTy (c_tuple T.st) (by rfl) T.no_tuple (by decide +kernel) (pa_cons (pe_lcR1 (own := [("_law_k", 2)]) rfl sc_bytes.nd rfl T.no_range (pv 1) (blkOk_by (own := [("_law_k", 2)]) (N := nm_bytes) (sc := defScope (top 14)) (by decide +kernel)) ⟨fun _ _ _ _ _ => (pg_name (i := 2) sc_bytes.nd rfl (by first | exact Or.inl rfl | exact Or.inr rfl)), fun _ _ _ _ _ => pts_nil, fun _ _ _ _ _ => (pe_call (ok_take T) (hr.mono (by decide)) rfl T.mg_take (T.fn_take).kp T.bd_take .nil passL (pa_cons (pv 0) (pa_cons pe_int pa_nil)))⟩) pa_nil))))
abbrev nm_couple : List Str := ["_law_bag_here", "_law_number", "_law_one", "_law_two", "_law_here", "_law_there", "_law_first_read", "_law_second_read"]
theorem sc_couple : FnScope nm_couple ["_law_bag_here", "_law_number"] (defScope (top 15)) := ⟨rfl, rfl, rfl, by decide +kernel, rfl, by decide +kernel, by decide +kernel⟩
theorem ok_couple (T : Txt P K mg a) : FnOk P w K mg base (L2.CX P w) 4 a.f_couple a.d_couple ["_law_bag_here", "_law_number"] (sp_couple a.toCl) := by
  refine ok_body T.fn_couple sc_couple rfl rfl fun cdv A outer s H E hr => ?_
  exact (pss_cons (ps_set (i := 2) sc_couple.nd rfl (by first | exact Or.inl rfl | exact Or.inr rfl) (pe_call (ok_mark T) (hr.mono (by decide)) rfl T.mg_mark (T.fn_mark).kp T.bd_mark .nil passE (pa_cons (pv 0) (pa_cons (pv 1) pa_nil))))
    (pss_cons (ps_set (i := 3) sc_couple.nd rfl (by first | exact Or.inl rfl | exact Or.inr rfl) (pe_call (ok_mark T) (hr.mono (by decide)) rfl T.mg_mark (T.fn_mark).kp T.bd_mark .nil passE (pa_cons (pv 0) (pa_cons (pe_op o_add (pv 1) pe_int) pa_nil))))
    (pss_cons (ps_set (i := 4) sc_couple.nd rfl (by first | exact Or.inl rfl | exact Or.inr rfl) (pe_call (ok_bytes T) (hr.mono (by decide)) rfl T.mg_bytes (T.fn_bytes).kp T.bd_bytes .nil passE (pa_cons (pv 0) (pa_cons (pe_op o_sub pe_int (pe_call (ok_take T) (hr.mono (by decide)) rfl T.mg_take (T.fn_take).kp T.bd_take .nil passE (pa_cons (pv 0) (pa_cons pe_int pa_nil)))) pa_nil))))
    (pss_cons (ps_set (i := 5) sc_couple.nd rfl (by first | exact Or.inl rfl | exact Or.inr rfl) (pe_call (ok_bytes T) (hr.mono (by decide)) rfl T.mg_bytes (T.fn_bytes).kp T.bd_bytes .nil passE (pa_cons (pv 0) (pa_cons (pe_op o_sub pe_int (pe_call (ok_take T) (hr.mono (by decide)) rfl T.mg_take (T.fn_take).kp T.bd_take .nil passE (pa_cons (pv 0) (pa_cons pe_int pa_nil)))) pa_nil))))
    (pss_cons (ps_set (i := 6) sc_couple.nd rfl (by first | exact Or.inl rfl | exact Or.inr rfl) (pe_slice (o_tsl T.st) (pv 5) po_none (po_some (pe_op o_sub (pe_callB (c_len T.st) (by rfl) T.no_len (by decide +kernel) (pa_cons (pv 5) pa_nil)) (pe_call (ok_take T) (hr.mono (by decide)) rfl T.mg_take (T.fn_take).kp T.bd_take .nil passE (pa_cons (pv 0) (pa_cons (pe_op o_add (pe_callB (c_len T.st) (by rfl) T.no_len (by decide +kernel) (pa_cons (pv 5) pa_nil)) pe_int) pa_nil)))))))
    (pss_cons (ps_set (i := 7) sc_couple.nd rfl (by first | exact Or.inl rfl | exact Or.inr rfl) (pe_slice (o_tsl T.st) (pv 4) po_none (po_some (pe_op o_sub (pe_callB (c_len T.st) (by rfl) T.no_len (by decide +kernel) (pa_cons (pv 4) pa_nil)) (pe_call (ok_take T) (hr.mono (by decide)) rfl T.mg_take (T.fn_take).kp T.bd_take .nil passE (pa_cons (pv 0) (pa_cons (pe_op o_add (pe_callB (c_len T.st) (by rfl) T.no_len (by decide +kernel) (pa_cons (pv 4) pa_nil)) pe_int) pa_nil)))))))
    (pss_one (ps_ret (pe_lst (pa_cons (pe_tup (pa_cons pe_int (pa_cons (pv 2) (pa_cons (pv 3) (pa_cons (pv 4) (pa_cons (pv 6) pa_nil)))))) (pa_cons (pe_tup (pa_cons pe_int (pa_cons (pv 3) (pa_cons (pv 2) (pa_cons (pv 5) (pa_cons (pv 7) pa_nil)))))) pa_nil)))))))))))
abbrev nm_single : List Str := ["_law_bag_here", "_law_number", "_law_peer"]
theorem sc_single : FnScope nm_single ["_law_bag_here", "_law_number"] (defScope (top 16)) := ⟨rfl, rfl, rfl, by decide +kernel, rfl, by decide +kernel, by decide +kernel⟩
theorem ok_single (T : Txt P K mg a) : FnOk P w K mg base (L2.CX P w) 4 a.f_single a.d_single ["_law_bag_here", "_law_number"] (sp_single a.toCl) := by
  refine ok_body T.fn_single sc_single rfl rfl fun cdv A outer s H E hr => ?_
  exact (pss_cons (ps_set (i := 2) sc_single.nd rfl (by first | exact Or.inl rfl | exact Or.inr rfl) pe_non)
    (pss_cons (ps_if (pt_cmpR (o_eqP T.st hr.units) (pe_call (ok_take T) (hr.mono (by decide)) rfl T.mg_take (T.fn_take).kp T.bd_take .nil passE (pa_cons (pv 0) (pa_cons pe_int pa_nil))) pe_int (nomark _)) (pss_one (ps_set (i := 2) sc_single.nd rfl (by first | exact Or.inl rfl | exact Or.inr rfl) (pe_call (ok_mark T) (hr.mono (by decide)) rfl T.mg_mark (T.fn_mark).kp T.bd_mark .nil passE (pa_cons (pv 0) (pa_cons (pv 1) pa_nil))))) pss_nil)
    (pss_one (ps_ret (pe_tup (pa_cons (pe_call (ok_take T) (hr.mono (by decide)) rfl T.mg_take (T.fn_take).kp T.bd_take .nil passE (pa_cons (pv 0) (pa_cons pe_int pa_nil))) (pa_cons (pe_call (ok_mark T) (hr.mono (by decide)) rfl T.mg_mark (T.fn_mark).kp T.bd_mark .nil passE (pa_cons (pv 0) (pa_cons (pe_op o_add pe_int (pv 1)) pa_nil))) (pa_cons (pv 2) (pa_cons (pe_call (ok_bytes T) (hr.mono (by decide)) rfl T.mg_bytes (T.fn_bytes).kp T.bd_bytes .nil passE (pa_cons (pv 0) (pa_cons (pe_call (ok_take T) (hr.mono (by decide)) rfl T.mg_take (T.fn_take).kp T.bd_take .nil passE (pa_cons (pv 0) (pa_cons pe_int pa_nil))) pa_nil))) (pa_cons (pe_tup pa_nil) pa_nil))))))))))
abbrev nm_ledger : List Str := ["_law_bag_here", "_law_many", "_law_rows", "_law_k", "_law_row", "_law_place"]
theorem sc_ledger : FnScope nm_ledger ["_law_bag_here"] (defScope (top 17)) := ⟨rfl, rfl, rfl, by decide +kernel, rfl, by decide +kernel, by decide +kernel⟩
theorem ok_ledger (T : Txt P K mg a) : FnOk P w K mg base (L2.CX P w) 5 a.f_ledger a.d_ledger ["_law_bag_here"] (sp_ledger a.toCl) := by
  refine ok_body T.fn_ledger sc_ledger rfl rfl fun cdv A outer s H E hr => ?_
  exact (pss_cons (ps_set (i := 1) sc_ledger.nd rfl (by first | exact Or.inl rfl | exact Or.inr rfl) (pe_op o_sub pe_int (pe_call (ok_take T) (hr.mono (by decide)) rfl T.mg_take (T.fn_take).kp T.bd_take .nil passE (pa_cons (pv 0) (pa_cons pe_int pa_nil)))))
    (pss_cons (ps_if (pt_cmpR (o_eqP T.st hr.units) (pe_call (ok_take T) (hr.mono (by decide)) rfl T.mg_take (T.fn_take).kp T.bd_take .nil passE (pa_cons (pv 0) (pa_cons pe_int pa_nil))) pe_int (nomark _)) (pss_one (ps_set (i := 1) sc_ledger.nd rfl (by first | exact Or.inl rfl | exact Or.inr rfl) pe_int)) pss_nil)
    (pss_cons (ps_set (i := 2) sc_ledger.nd rfl (by first | exact Or.inl rfl | exact Or.inr rfl) (pe_lst pa_nil))
    (pss_cons (ps_forR1 (passes_of rfl) rfl rfl T.no_range (pv 1) (pg_name (i := 3) sc_ledger.nd rfl (by first | exact Or.inl rfl | exact Or.inr rfl)) (pss_one (ps_forSeq T.st (passes_of rfl) rfl (pe_call (ok_couple T) (hr.mono (by decide)) rfl T.mg_couple (T.fn_couple).kp T.bd_couple .nil passE (pa_cons (pv 0) (pa_cons (pe_op o_mul pe_int (pv 3)) pa_nil))) (pg_name (i := 4) sc_ledger.nd rfl (by first | exact Or.inl rfl | exact Or.inr rfl)) (pss_cons (ps_set (i := 5) sc_ledger.nd rfl (by first | exact Or.inl rfl | exact Or.inr rfl) (pe_op o_sub (pe_callB (c_len T.st) (by rfl) T.no_len (by decide +kernel) (pa_cons (pv 2) pa_nil)) (pe_call (ok_take T) (hr.mono (by decide)) rfl T.mg_take (T.fn_take).kp T.bd_take .nil passE (pa_cons (pv 0) (pa_cons (pe_op o_add (pe_callB (c_len T.st) (by rfl) T.no_len (by decide +kernel) (pa_cons (pv 2) pa_nil)) pe_int) pa_nil)))))
    (pss_one (ps_set (i := 2) sc_ledger.nd rfl (by first | exact Or.inl rfl | exact Or.inr rfl) (pe_op o_add (pe_op o_add (pe_slice (o_sl T.st) (pv 2) po_none (po_some (pv 5))) (pe_lst (pa_cons (pv 4) pa_nil))) (pe_slice (o_sl T.st) (pv 2) (po_some (pv 5)) po_none))))))))
    (pss_cons (ps_forR1 (passes_of rfl) rfl rfl T.no_range (pe_call (ok_take T) (hr.mono (by decide)) rfl T.mg_take (T.fn_take).kp T.bd_take .nil passE (pa_cons (pv 0) (pa_cons pe_int pa_nil))) (pg_name (i := 3) sc_ledger.nd rfl (by first | exact Or.inl rfl | exact Or.inr rfl)) (pss_cons (ps_set (i := 5) sc_ledger.nd rfl (by first | exact Or.inl rfl | exact Or.inr rfl) (pe_call (ok_take T) (hr.mono (by decide)) rfl T.mg_take (T.fn_take).kp T.bd_take .nil passE (pa_cons (pv 0) (pa_cons (pe_op o_add (pe_callB (c_len T.st) (by rfl) T.no_len (by decide +kernel) (pa_cons (pv 2) pa_nil)) pe_int) pa_nil))))
    (pss_one (ps_set (i := 2) sc_ledger.nd rfl (by first | exact Or.inl rfl | exact Or.inr rfl) (pe_op o_add (pe_op o_add (pe_slice (o_sl T.st) (pv 2) po_none (po_some (pv 5))) (pe_lst (pa_cons (pe_call (ok_single T) (hr.mono (by decide)) rfl T.mg_single (T.fn_single).kp T.bd_single .nil passE (pa_cons (pv 0) (pa_cons (pv 3) pa_nil))) pa_nil))) (pe_slice (o_sl T.st) (pv 2) (po_some (pv 5)) po_none))))))
    (pss_one (ps_ret (pv 2))))))))
abbrev nm_altered : List Str := ["_law_bag_here", "_law_items", "_law_place"]
theorem sc_altered : FnScope nm_altered ["_law_bag_here", "_law_items"] (defScope (top 18)) := ⟨rfl, rfl, rfl, by decide +kernel, rfl, by decide +kernel, by decide +kernel⟩
theorem ok_altered (T : Txt P K mg a) : FnOk P w K mg base (L2.CX P w) 2 a.f_altered a.d_altered ["_law_bag_here", "_law_items"] (sp_altered a.toCl) := by
  refine ok_body T.fn_altered sc_altered rfl rfl fun cdv A outer s H E hr => ?_
  exact (pss_cons (ps_if (pt_cmpR (o_eqP T.st hr.units) (pe_callB (c_len T.st) (by rfl) T.no_len (by decide +kernel) (pa_cons (pv 1) pa_nil)) pe_int (nomark _)) (pss_one (ps_ret (pe_tup (pa_cons (pe_call (ok_take T) (hr.mono (by decide)) rfl T.mg_take (T.fn_take).kp T.bd_take .nil passE (pa_cons (pv 0) (pa_cons pe_int pa_nil))) pa_nil)))) pss_nil)
    (pss_cons (ps_set (i := 2) sc_altered.nd rfl (by first | exact Or.inl rfl | exact Or.inr rfl) (pe_call (ok_take T) (hr.mono (by decide)) rfl T.mg_take (T.fn_take).kp T.bd_take .nil passE (pa_cons (pv 0) (pa_cons (pe_callB (c_len T.st) (by rfl) T.no_len (by decide +kernel) (pa_cons (pv 1) pa_nil)) pa_nil))))
    (pss_one (ps_ret (pe_op (o_tadd T.st) (pe_op (o_tadd T.st) (pe_slice (o_tsl T.st) (pv 1) po_none (po_some (pv 2))) (pe_tup (pa_cons (pe_op o_mod (pe_callTy c_int (by rfl) T.no_int (by decide +kernel) (pa_cons (pe_op o_add (pe_op o_add (pe_ix (o_ix T.st) (pv 1) (pv 2) (fun _ _ => rfl)) pe_int) (pe_call (ok_take T) (hr.mono (by decide)) rfl T.mg_take (T.fn_take).kp T.bd_take .nil passE (pa_cons (pv 0) (pa_cons pe_int pa_nil)))) pa_nil)) pe_int) pa_nil))) (pe_slice (o_tsl T.st) (pv 1) (po_some (pe_op o_add (pv 2) pe_int)) po_none))))))
abbrev nm_new_row : List Str := ["_law_bag_here", "_law_row", "_law_other", "_law_kind", "_law_side", "_law_own", "_law_peer", "_law_wrote", "_law_got"]
theorem sc_new_row : FnScope nm_new_row ["_law_bag_here", "_law_row", "_law_other", "_law_kind"] (defScope (top 19)) := ⟨rfl, rfl, rfl, by decide +kernel, rfl, by decide +kernel, by decide +kernel⟩
theorem ok_new_row (T : Txt P K mg a) : FnOk P w K mg base (L2.CX P w) 4 a.f_new_row a.d_new_row ["_law_bag_here", "_law_row", "_law_other", "_law_kind"] (sp_new_row a.toCl) := by
  refine ok_body T.fn_new_row sc_new_row rfl rfl fun cdv A outer s H E hr => ?_
  exact (pss_cons (ps_asg (pe_tup (pa_cons (pe_ix (o_ix T.st) (pv 1) pe_int (fun _ _ => rfl)) (pa_cons (pe_ix (o_ix T.st) (pv 1) pe_int (fun _ _ => rfl)) (pa_cons (pe_ix (o_ix T.st) (pv 1) pe_int (fun _ _ => rfl)) (pa_cons (pe_ix (o_ix T.st) (pv 1) pe_int (fun _ _ => rfl)) (pa_cons (pe_ix (o_ix T.st) (pv 1) pe_int (fun _ _ => rfl)) pa_nil)))))) (pg_tupS T.st rfl (pgs_cons (pg_name (i := 4) sc_new_row.nd rfl (by first | exact Or.inl rfl | exact Or.inr rfl)) (pgs_cons (pg_name (i := 5) sc_new_row.nd rfl (by first | exact Or.inl rfl | exact Or.inr rfl)) (pgs_cons (pg_name (i := 6) sc_new_row.nd rfl (by first | exact Or.inl rfl | exact Or.inr rfl)) (pgs_cons (pg_name (i := 7) sc_new_row.nd rfl (by first | exact Or.inl rfl | exact Or.inr rfl)) (pgs_cons (pg_name (i := 8) sc_new_row.nd rfl (by first | exact Or.inl rfl | exact Or.inr rfl)) pgs_nil)))))))
    (pss_cons (ps_if (pt_cmpR (o_eqP T.st hr.units) (pv 3) pe_int (nomark _)) (pss_one (ps_set (i := 8) sc_new_row.nd rfl (by first | exact Or.inl rfl | exact Or.inr rfl) (pe_op (o_tadd T.st) (pv 8) (pe_tup (pa_cons (pe_call (ok_take T) (hr.mono (by decide)) rfl T.mg_take (T.fn_take).kp T.bd_take .nil passE (pa_cons (pv 0) (pa_cons pe_int pa_nil))) pa_nil))))) pss_nil)
    (pss_cons (ps_if (pt_cmpR (o_eqP T.st hr.units) (pv 3) pe_int (nomark _)) (pss_one (ps_set (i := 8) sc_new_row.nd rfl (by first | exact Or.inl rfl | exact Or.inr rfl) (pe_call (ok_altered T) (hr.mono (by decide)) rfl T.mg_altered (T.fn_altered).kp T.bd_altered .nil passE (pa_cons (pv 0) (pa_cons (pv 8) pa_nil))))) pss_nil)
    (pss_cons (ps_if (pt_cmpR (o_eqP T.st hr.units) (pv 3) pe_int (nomark _)) (pss_one (ps_set (i := 5) sc_new_row.nd rfl (by first | exact Or.inl rfl | exact Or.inr rfl) (pe_ix (o_ix T.st) (pv 2) pe_int (fun _ _ => rfl)))) pss_nil)
    (pss_cons (ps_if (pt_cmpR (o_eqP T.st hr.units) (pv 3) pe_int (nomark _)) (pss_one (ps_set (i := 6) sc_new_row.nd rfl (by first | exact Or.inl rfl | exact Or.inr rfl) (pe_ix (o_ix T.st) (pv 2) pe_int (fun _ _ => rfl)))) pss_nil)
    (pss_cons (ps_if (pt_cmpR (o_eqP T.st hr.units) (pv 3) pe_int (nomark _)) (pss_one (ps_set (i := 4) sc_new_row.nd rfl (by first | exact Or.inl rfl | exact Or.inr rfl) (pe_op o_sub pe_int (pv 4)))) pss_nil)
    (pss_cons (ps_if (pt_cmpR (o_eqP T.st hr.units) (pv 3) pe_int (nomark _)) (pss_one (ps_set (i := 7) sc_new_row.nd rfl (by first | exact Or.inl rfl | exact Or.inr rfl) (pe_slice (o_tsl T.st) (pv 7) po_none (po_some (pe_call (ok_take T) (hr.mono (by decide)) rfl T.mg_take (T.fn_take).kp T.bd_take .nil passE (pa_cons (pv 0) (pa_cons (pe_op o_add (pe_callB (c_len T.st) (by rfl) T.no_len (by decide +kernel) (pa_cons (pv 7) pa_nil)) pe_int) pa_nil))))))) pss_nil)
    (pss_cons (ps_if (pt_cmpR (o_eqP T.st hr.units) (pv 3) pe_int (nomark _)) (pss_one (ps_set (i := 7) sc_new_row.nd rfl (by first | exact Or.inl rfl | exact Or.inr rfl) (pe_call (ok_altered T) (hr.mono (by decide)) rfl T.mg_altered (T.fn_altered).kp T.bd_altered .nil passE (pa_cons (pv 0) (pa_cons (pv 7) pa_nil))))) pss_nil)
    (pss_cons (ps_if (pt_cmpR (o_eqP T.st hr.units) (pv 3) pe_int (nomark _)) (pss_one (ps_set (i := 8) sc_new_row.nd rfl (by first | exact Or.inl rfl | exact Or.inr rfl) (pe_slice (o_tsl T.st) (pe_ix (o_ix T.st) (pv 2) pe_int (fun _ _ => rfl)) po_none (po_some (pe_op o_sub (pe_callB (c_len T.st) (by rfl) T.no_len (by decide +kernel) (pa_cons (pe_ix (o_ix T.st) (pv 2) pe_int (fun _ _ => rfl)) pa_nil)) (pe_call (ok_take T) (hr.mono (by decide)) rfl T.mg_take (T.fn_take).kp T.bd_take .nil passE (pa_cons (pv 0) (pa_cons (pe_op o_add (pe_callB (c_len T.st) (by rfl) T.no_len (by decide +kernel) (pa_cons (pe_ix (o_ix T.st) (pv 2) pe_int (fun _ _ => rfl)) pa_nil)) pe_int) pa_nil)))))))) pss_nil)
    (pss_cons (ps_if (pt_cmpR (o_eqP T.st hr.units) (pv 3) pe_int (nomark _)) (pss_one (ps_set (i := 5) sc_new_row.nd rfl (by first | exact Or.inl rfl | exact Or.inr rfl) (pe_call (ok_mark T) (hr.mono (by decide)) rfl T.mg_mark (T.fn_mark).kp T.bd_mark .nil passE (pa_cons (pv 0) (pa_cons pe_int pa_nil))))) pss_nil)
    (pss_cons (ps_if (pt_cmpR (o_eqP T.st hr.units) (pv 3) pe_int (nomark _)) (pss_one (ps_set (i := 6) sc_new_row.nd rfl (by first | exact Or.inl rfl | exact Or.inr rfl) (pe_ix (o_ix T.st) (pe_lst (pa_cons pe_non (pa_cons (pe_call (ok_mark T) (hr.mono (by decide)) rfl T.mg_mark (T.fn_mark).kp T.bd_mark .nil passE (pa_cons (pv 0) (pa_cons pe_int pa_nil))) pa_nil))) (pe_call (ok_take T) (hr.mono (by decide)) rfl T.mg_take (T.fn_take).kp T.bd_take .nil passE (pa_cons (pv 0) (pa_cons pe_int pa_nil))) (fun _ _ => rfl)))) pss_nil)
    (pss_cons (ps_if (pt_cmpR (o_eqP T.st hr.units) (pv 3) pe_int (nomark _)) (pss_one (ps_set (i := 8) sc_new_row.nd rfl (by first | exact Or.inl rfl | exact Or.inr rfl) (pe_slice (o_tsl T.st) (pv 8) po_none (po_some (pe_call (ok_take T) (hr.mono (by decide)) rfl T.mg_take (T.fn_take).kp T.bd_take .nil passE (pa_cons (pv 0) (pa_cons (pe_op o_add (pe_callB (c_len T.st) (by rfl) T.no_len (by decide +kernel) (pa_cons (pv 8) pa_nil)) pe_int) pa_nil))))))) pss_nil)
    (pss_cons (ps_if (pt_cmpR (o_eqP T.st hr.units) (pv 3) pe_int (nomark _)) (pss_one (ps_set (i := 6) sc_new_row.nd rfl (by first | exact Or.inl rfl | exact Or.inr rfl) (pe_ix (o_ix T.st) (pv 2) pe_int (fun _ _ => rfl)))) pss_nil)
    (pss_one (ps_ret (pe_tup (pa_cons (pv 4) (pa_cons (pv 5) (pa_cons (pv 6) (pa_cons (pv 7) (pa_cons (pv 8) pa_nil)))))))))))))))))))))
abbrev nm_change : List Str := ["_law_bag_here", "_law_rows", "_law_kind", "_law_place", "_law_other", "_law_rest_rows", "_law_at"]
theorem sc_change : FnScope nm_change ["_law_bag_here", "_law_rows", "_law_kind"] (defScope (top 20)) := ⟨rfl, rfl, rfl, by decide +kernel, rfl, by decide +kernel, by decide +kernel⟩
theorem ok_change (T : Txt P K mg a) : FnOk P w K mg base (L2.CX P w) 5 a.f_change a.d_change ["_law_bag_here", "_law_rows", "_law_kind"] (sp_change a.toCl) := by
  refine ok_body T.fn_change sc_change rfl rfl fun cdv A outer s H E hr => ?_
  exact (pss_cons (ps_if (pt_cmpR (o_eqP T.st hr.units) (pv 1) (pe_lst pa_nil) (nomark _)) (pss_one (ps_ret (pe_lst (pa_cons (pe_tup (pa_cons pe_int (pa_cons pe_int (pa_cons pe_int (pa_cons (pe_tup pa_nil) (pa_cons (pe_tup (pa_cons pe_int pa_nil)) pa_nil)))))) pa_nil)))) pss_nil)
    (pss_cons (ps_set (i := 3) sc_change.nd rfl (by first | exact Or.inl rfl | exact Or.inr rfl) (pe_call (ok_take T) (hr.mono (by decide)) rfl T.mg_take (T.fn_take).kp T.bd_take .nil passE (pa_cons (pv 0) (pa_cons (pe_callB (c_len T.st) (by rfl) T.no_len (by decide +kernel) (pa_cons (pv 1) pa_nil)) pa_nil))))
    (pss_cons (ps_set (i := 4) sc_change.nd rfl (by first | exact Or.inl rfl | exact Or.inr rfl) (pe_ix (o_ix T.st) (pv 1) (pe_call (ok_take T) (hr.mono (by decide)) rfl T.mg_take (T.fn_take).kp T.bd_take .nil passE (pa_cons (pv 0) (pa_cons (pe_callB (c_len T.st) (by rfl) T.no_len (by decide +kernel) (pa_cons (pv 1) pa_nil)) pa_nil))) (fun _ _ => rfl)))
    (pss_cons (ps_if (pt_cmpR o_lt (pv 2) pe_int (nomark _)) (pss_one (ps_ret (pe_op o_add (pe_op o_add (pe_slice (o_sl T.st) (pv 1) po_none (po_some (pv 3))) (pe_lst (pa_cons (pe_call (ok_new_row T) (hr.mono (by decide)) rfl T.mg_new_row (T.fn_new_row).kp T.bd_new_row .nil passE (pa_cons (pv 0) (pa_cons (pe_ix (o_ix T.st) (pv 1) (pv 3) (fun _ _ => rfl)) (pa_cons (pv 4) (pa_cons (pv 2) pa_nil))))) pa_nil))) (pe_slice (o_sl T.st) (pv 1) (po_some (pe_op o_add (pv 3) pe_int)) po_none)))) pss_nil)
    (pss_cons (ps_if (pt_cmpR (o_eqP T.st hr.units) (pv 2) pe_int (nomark _)) (pss_one (ps_ret (pe_op o_add (pe_slice (o_sl T.st) (pv 1) po_none (po_some (pv 3))) (pe_slice (o_sl T.st) (pv 1) (po_some (pe_op o_add (pv 3) pe_int)) po_none)))) pss_nil)
    (pss_cons (ps_set (i := 5) sc_change.nd rfl (by first | exact Or.inl rfl | exact Or.inr rfl) (pv 1))
    (pss_cons (ps_if (pt_cmpR (o_eqP T.st hr.units) (pv 2) pe_int (nomark _)) (pss_one (ps_set (i := 5) sc_change.nd rfl (by first | exact Or.inl rfl | exact Or.inr rfl) (pe_op o_add (pe_slice (o_sl T.st) (pv 1) po_none (po_some (pv 3))) (pe_slice (o_sl T.st) (pv 1) (po_some (pe_op o_add (pv 3) pe_int)) po_none)))) pss_nil)
    (pss_cons (ps_set (i := 6) sc_change.nd rfl (by first | exact Or.inl rfl | exact Or.inr rfl) (pe_call (ok_take T) (hr.mono (by decide)) rfl T.mg_take (T.fn_take).kp T.bd_take .nil passE (pa_cons (pv 0) (pa_cons (pe_op o_add (pe_callB (c_len T.st) (by rfl) T.no_len (by decide +kernel) (pa_cons (pv 5) pa_nil)) pe_int) pa_nil))))
    (pss_one (ps_ret (pe_op o_add (pe_op o_add (pe_slice (o_sl T.st) (pv 5) po_none (po_some (pv 6))) (pe_lst (pa_cons (pe_ix (o_ix T.st) (pv 1) (pv 3) (fun _ _ => rfl)) pa_nil))) (pe_slice (o_sl T.st) (pv 5) (po_some (pv 6)) po_none))))))))))))
abbrev nm_law : List Str := ["_law_script", "_law_bag_here", "_law_rows", "_law_k"]
theorem sc_law : FnScope nm_law ["_law_script"] (defScope (top 23)) := ⟨rfl, rfl, rfl, by decide +kernel, rfl, by decide +kernel, by decide +kernel⟩
theorem ok_law (T : Txt P K mg a) : FnG P w K mg base (L2.CX P w) 6 a.f_law a.d_law ["_law_script"] (sp_law a.toCl) := by
  refine ok_bodyG T.fn_law sc_law rfl rfl fun cdv A outer s H E gd hr => ?_
  exact (pss_cons (ps_set (i := 1) sc_law.nd rfl (by first | exact Or.inl rfl | exact Or.inr rfl) (pe_call (ok_bag T) (hr.mono (by decide)) rfl T.mg_bag (T.fn_bag).kp T.bd_bag .nil passE (pa_cons (pv 0) pa_nil)))
    (pss_cons (ps_if (pt_not (pt_val (pe_callG (ok_holds T) gd (hr.mono (by decide)) rfl T.mg_holds (T.fn_holds).kp T.bd_holds passE (pa_cons (pe_lst pa_nil) pa_nil)))) (pss_one (ps_ret pe_bl)) pss_nil)
    (pss_cons (ps_set (i := 2) sc_law.nd rfl (by first | exact Or.inl rfl | exact Or.inr rfl) (pe_call (ok_ledger T) (hr.mono (by decide)) rfl T.mg_ledger (T.fn_ledger).kp T.bd_ledger .nil passE (pa_cons (pv 1) pa_nil)))
    (pss_cons (ps_if (pt_not (pt_val (pe_callG (ok_holds T) gd (hr.mono (by decide)) rfl T.mg_holds (T.fn_holds).kp T.bd_holds passE (pa_cons (pv 2) pa_nil)))) (pss_one (ps_ret pe_bl)) pss_nil)
    (pss_cons (ps_forR1 (passes_of rfl) rfl rfl T.no_range (pe_op o_add pe_int (pe_call (ok_take T) (hr.mono (by decide)) rfl T.mg_take (T.fn_take).kp T.bd_take .nil passE (pa_cons (pv 1) (pa_cons pe_int pa_nil)))) (pg_name (i := 3) sc_law.nd rfl (by first | exact Or.inl rfl | exact Or.inr rfl)) (pss_cons (ps_set (i := 2) sc_law.nd rfl (by first | exact Or.inl rfl | exact Or.inr rfl) (pe_call (ok_change T) (hr.mono (by decide)) rfl T.mg_change (T.fn_change).kp T.bd_change .nil passE (pa_cons (pv 1) (pa_cons (pv 2) (pa_cons (pe_op o_mod (pe_callTy c_int (by rfl) T.no_int (by decide +kernel) (pa_cons (pe_op o_add (pe_call (ok_take T) (hr.mono (by decide)) rfl T.mg_take (T.fn_take).kp T.bd_take .nil passE (pa_cons (pv 1) (pa_cons pe_int pa_nil))) (pv 3)) pa_nil)) pe_int) pa_nil)))))
    (pss_one (ps_if (pt_not (pt_val (pe_callG (ok_holds T) gd (hr.mono (by decide)) rfl T.mg_holds (T.fn_holds).kp T.bd_holds passE (pa_cons (pv 2) pa_nil)))) (pss_one (ps_ret pe_bl)) pss_nil))))
    (pss_one (ps_ret pe_bl)))))))
end
/-! ### what the top has written -/
theorem useFn {R : Prop} {K : PySem.W.Frag} {h : Heap} {mg : Str → Option Value} (X : K.In h) (G : h.Ns mainGlobals mg) {x : Str} {st : Stmt} {f : Addr} {ps : List Str} {oc kV doc pm cd ct : Value} {od an : Option Addr} {sl : Array (Option Value)}
    (n : PySem.W.nsIn K mainGlobals x = some (some (.ref f))) (l : K.lookup f = some ⟨oc, od, .func (PySem.W.fnOf x x (defArgs st) (defBody st) (defScope st) .none kV doc pm an cd ct), sl⟩) (c : PySem.W.codeIn K cd x = true) (k : PySem.W.keepIn K (.ref f) = true)
    (hb : ∀ (kV doc pm : Value) (an : Option Addr) (cdv ct : Value) (us : List Value), us.length = ps.length → bindArgs (PySem.W.fnOf x x (defArgs st) (defBody st) (defScope st) .none kV doc pm an cdv ct) ⟨us, []⟩ = pure (ps.zip us))
    (r : ∀ (f : Addr) (fd : FuncData), mg x = some (.ref f) → Fun K x x st f fd → (∀ us : List Value, us.length = ps.length → bindArgs fd ⟨us, []⟩ = pure (ps.zip us)) → R) : R :=
  r f _ (PySem.W.mg_of X G n) (fun_mk l c k) fun us hl => hb kV doc pm an cd ct us hl
theorem useConst {R : Prop} {K : PySem.W.Frag} {h : Heap} {mg : Str → Option Value} (X : K.In h) (G : h.Ns mainGlobals mg) {x : Str} {i : Int} {t : Tok} (n : PySem.W.nsIn K mainGlobals x = some (some (.int i t))) (r : (∃ t, mg x = some (.int i t)) → R) : R := r ⟨t, PySem.W.mg_of X G n⟩
def spLaw (K : PySem.W.Frag) : Sp := fun vs H Q _ => ∃ (a : Addr) (ns : List Int), vs = [.ref a] ∧ SqL K H a (ns.map V.int) ∧ ns.length ≤ 63 ∧ Only H ∧ ∀ H', Q (.bl true) H'
theorem walk {l : PySem.W.OpenLaw} {q : Program} {loose : List Str} {XP : (Str → Option Value) → Heap → Prop} {YP : World → Heap → Prop} {d : DefRec} {K : Params → PySem.W.Frag} (hn : l.most = some 63) (hdf : d.params.defaults = [])
    (hY : ∀ (w : World) (h : Heap), YP w h → (K w.params).In h)
    (F : ∀ (w : World) (mg : Str → Option Value) (fa : Addr) (h : Heap), (K w.params).In h → h.Ns mainGlobals mg → mg d.name = some (.ref fa) →
      ∃ fd : FuncData, (∀ (s : Shared) (u : Value), BindsTo s fd ⟨[u], []⟩ [("_law_script", u)]) ∧ ∀ base : Heap, (K w.params).In base → base.Ns mainGlobals mg → FnG l.prog w (K w.params) mg base (L2.CX l.prog w) 6 fa fd ["_law_script"] (spLaw (K w.params))) :
    PySem.W.WalkO q loose XP YP l.row.toRowW d [] (fun f vs => PySem.call f vs) :=
  walk_ofG (n := 63) (k := 6) (x := "_law_script") (CX := fun w => L2.CX l.prog w) (sp := fun w => spLaw (K w.params)) hn (by decide) hdf ⟨rfl, by decide, by decide⟩ hY F (fun _ _ a ns hl hO hS => ⟨a, ns, rfl, hS, hl, hO, fun _ => rfl⟩) fun w H s e s' z => by
    obtain ⟨_, _, _, _, _, _, _, _, _, _, _, _, z⟩ := z
    exact z.elim
end Y.k55
open PySem PySem.W PyProof.Rows
set_option maxRecDepth 100000 in
set_option maxHeartbeats 0 in
theorem PySem.Challenge.cw_lossway_k55_ledgers_judged_holds : PySem.Challenge.rw_lossway_k55_ledgers_judged.Holds := by
  w_on; o_law; k_head; (case hw => w_witness2)
  k_fill
  refine Y.k55.walk (l := PySem.Challenge.rw_lossway_k55_ledgers_judged) rfl rfl (fun w h Y => PySem.W.kIn_of Y) ?F
  case F =>
    intro w mg fa h KX G hmg
    refine' Y.k55.useFn KX G (x := "_law_bag") (st := Y.k55.top 9) (ps := ["_law_script"]) ?nbag ?lbag ?cbag ?kbag (fun _ _ _ _ _ _ us hl => match us, hl with | [_], _ => rfl) ?rbag
    (case nbag => k_is); (case lbag => k_is); (case cbag => k_is); (case kbag => k_is)
    intro f_bag d_bag m_bag F_bag b_bag
    refine' Y.k55.useFn KX G (x := "repeats_mark") (st := Y.k55.top 2) (ps := ["row", "earlier"]) ?nrepeats_mark ?lrepeats_mark ?crepeats_mark ?krepeats_mark (fun _ _ _ _ _ _ us hl => match us, hl with | [_, _], _ => rfl) ?rrepeats_mark
    (case nrepeats_mark => k_is); (case lrepeats_mark => k_is); (case crepeats_mark => k_is); (case krepeats_mark => k_is)
    intro f_repeats_mark d_repeats_mark m_repeats_mark F_repeats_mark b_repeats_mark
    refine' Y.k55.useFn KX G (x := "has_read") (st := Y.k55.top 1) (ps := ["row"]) ?nhas_read ?lhas_read ?chas_read ?khas_read (fun _ _ _ _ _ _ us hl => match us, hl with | [_], _ => rfl) ?rhas_read
    (case nhas_read => k_is); (case lhas_read => k_is); (case chas_read => k_is); (case khas_read => k_is)
    intro f_has_read d_has_read m_has_read F_has_read b_has_read
    refine' Y.k55.useFn KX G (x := "repeats_peer") (st := Y.k55.top 3) (ps := ["row", "earlier"]) ?nrepeats_peer ?lrepeats_peer ?crepeats_peer ?krepeats_peer (fun _ _ _ _ _ _ us hl => match us, hl with | [_, _], _ => rfl) ?rrepeats_peer
    (case nrepeats_peer => k_is); (case lrepeats_peer => k_is); (case crepeats_peer => k_is); (case krepeats_peer => k_is)
    intro f_repeats_peer d_repeats_peer m_repeats_peer F_repeats_peer b_repeats_peer
    refine' Y.k55.useFn KX G (x := "partner_of") (st := Y.k55.top 4) (ps := ["row", "ledger"]) ?npartner_of ?lpartner_of ?cpartner_of ?kpartner_of (fun _ _ _ _ _ _ us hl => match us, hl with | [_, _], _ => rfl) ?rpartner_of
    (case npartner_of => k_is); (case lpartner_of => k_is); (case cpartner_of => k_is); (case kpartner_of => k_is)
    intro f_partner_of d_partner_of m_partner_of F_partner_of b_partner_of
    refine' Y.k55.useFn KX G (x := "is_prefix") (st := Y.k55.top 5) (ps := ["part", "whole"]) ?nis_prefix ?lis_prefix ?cis_prefix ?kis_prefix (fun _ _ _ _ _ _ us hl => match us, hl with | [_, _], _ => rfl) ?ris_prefix
    (case nis_prefix => k_is); (case lis_prefix => k_is); (case cis_prefix => k_is); (case kis_prefix => k_is)
    intro f_is_prefix d_is_prefix m_is_prefix F_is_prefix b_is_prefix
    refine' Y.k55.useFn KX G (x := "broken_rule") (st := Y.k55.top 6) (ps := ["row", "earlier", "ledger"]) ?nbroken_rule ?lbroken_rule ?cbroken_rule ?kbroken_rule (fun _ _ _ _ _ _ us hl => match us, hl with | [_, _, _], _ => rfl) ?rbroken_rule
    (case nbroken_rule => k_is); (case lbroken_rule => k_is); (case cbroken_rule => k_is); (case kbroken_rule => k_is)
    intro f_broken_rule d_broken_rule m_broken_rule F_broken_rule b_broken_rule
    refine' Y.k55.useFn KX G (x := "unsound") (st := Y.k55.top 7) (ps := ["ledger"]) ?nunsound ?lunsound ?cunsound ?kunsound (fun _ _ _ _ _ _ us hl => match us, hl with | [_], _ => rfl) ?runsound
    (case nunsound => k_is); (case lunsound => k_is); (case cunsound => k_is); (case kunsound => k_is)
    intro f_unsound d_unsound m_unsound F_unsound b_unsound
    refine' Y.k55.useFn KX G (x := "_law_broken") (st := Y.k55.top 21) (ps := ["_law_rows", "_law_place"]) ?nbroken ?lbroken ?cbroken ?kbroken (fun _ _ _ _ _ _ us hl => match us, hl with | [_, _], _ => rfl) ?rbroken
    (case nbroken => k_is); (case lbroken => k_is); (case cbroken => k_is); (case kbroken => k_is)
    intro f_broken d_broken m_broken F_broken b_broken
    refine' Y.k55.useFn KX G (x := "_law_is_whole") (st := Y.k55.top 12) (ps := ["_law_value"]) ?nis_whole ?lis_whole ?cis_whole ?kis_whole (fun _ _ _ _ _ _ us hl => match us, hl with | [_], _ => rfl) ?ris_whole
    (case nis_whole => k_is); (case lis_whole => k_is); (case cis_whole => k_is); (case kis_whole => k_is)
    intro f_is_whole d_is_whole m_is_whole F_is_whole b_is_whole
    refine' Y.k55.useFn KX G (x := "_law_holds") (st := Y.k55.top 22) (ps := ["_law_rows"]) ?nholds ?lholds ?cholds ?kholds (fun _ _ _ _ _ _ us hl => match us, hl with | [_], _ => rfl) ?rholds
    (case nholds => k_is); (case lholds => k_is); (case cholds => k_is); (case kholds => k_is)
    intro f_holds d_holds m_holds F_holds b_holds
    refine' Y.k55.useFn KX G (x := "_law_take") (st := Y.k55.top 10) (ps := ["_law_bag_here", "_law_many"]) ?ntake ?ltake ?ctake ?ktake (fun _ _ _ _ _ _ us hl => match us, hl with | [_, _], _ => rfl) ?rtake
    (case ntake => k_is); (case ltake => k_is); (case ctake => k_is); (case ktake => k_is)
    intro f_take d_take m_take F_take b_take
    refine' Y.k55.useFn KX G (x := "_law_wide") (st := Y.k55.top 11) (ps := ["_law_bag_here"]) ?nwide ?lwide ?cwide ?kwide (fun _ _ _ _ _ _ us hl => match us, hl with | [_], _ => rfl) ?rwide
    (case nwide => k_is); (case lwide => k_is); (case cwide => k_is); (case kwide => k_is)
    intro f_wide d_wide m_wide F_wide b_wide
    refine' Y.k55.useFn KX G (x := "_law_mark") (st := Y.k55.top 13) (ps := ["_law_bag_here", "_law_number"]) ?nmark ?lmark ?cmark ?kmark (fun _ _ _ _ _ _ us hl => match us, hl with | [_, _], _ => rfl) ?rmark
    (case nmark => k_is); (case lmark => k_is); (case cmark => k_is); (case kmark => k_is)
    intro f_mark d_mark m_mark F_mark b_mark
    refine' Y.k55.useFn KX G (x := "_law_bytes") (st := Y.k55.top 14) (ps := ["_law_bag_here", "_law_many"]) ?nbytes ?lbytes ?cbytes ?kbytes (fun _ _ _ _ _ _ us hl => match us, hl with | [_, _], _ => rfl) ?rbytes
    (case nbytes => k_is); (case lbytes => k_is); (case cbytes => k_is); (case kbytes => k_is)
    intro f_bytes d_bytes m_bytes F_bytes b_bytes
    refine' Y.k55.useFn KX G (x := "_law_couple") (st := Y.k55.top 15) (ps := ["_law_bag_here", "_law_number"]) ?ncouple ?lcouple ?ccouple ?kcouple (fun _ _ _ _ _ _ us hl => match us, hl with | [_, _], _ => rfl) ?rcouple
    (case ncouple => k_is); (case lcouple => k_is); (case ccouple => k_is); (case kcouple => k_is)
    intro f_couple d_couple m_couple F_couple b_couple
    refine' Y.k55.useFn KX G (x := "_law_single") (st := Y.k55.top 16) (ps := ["_law_bag_here", "_law_number"]) ?nsingle ?lsingle ?csingle ?ksingle (fun _ _ _ _ _ _ us hl => match us, hl with | [_, _], _ => rfl) ?rsingle
    (case nsingle => k_is); (case lsingle => k_is); (case csingle => k_is); (case ksingle => k_is)
    intro f_single d_single m_single F_single b_single
    refine' Y.k55.useFn KX G (x := "_law_ledger") (st := Y.k55.top 17) (ps := ["_law_bag_here"]) ?nledger ?lledger ?cledger ?kledger (fun _ _ _ _ _ _ us hl => match us, hl with | [_], _ => rfl) ?rledger
    (case nledger => k_is); (case lledger => k_is); (case cledger => k_is); (case kledger => k_is)
    intro f_ledger d_ledger m_ledger F_ledger b_ledger
    refine' Y.k55.useFn KX G (x := "_law_altered") (st := Y.k55.top 18) (ps := ["_law_bag_here", "_law_items"]) ?naltered ?laltered ?caltered ?kaltered (fun _ _ _ _ _ _ us hl => match us, hl with | [_, _], _ => rfl) ?raltered
    (case naltered => k_is); (case laltered => k_is); (case caltered => k_is); (case kaltered => k_is)
    intro f_altered d_altered m_altered F_altered b_altered
    refine' Y.k55.useFn KX G (x := "_law_new_row") (st := Y.k55.top 19) (ps := ["_law_bag_here", "_law_row", "_law_other", "_law_kind"]) ?nnew_row ?lnew_row ?cnew_row ?knew_row (fun _ _ _ _ _ _ us hl => match us, hl with | [_, _, _, _], _ => rfl) ?rnew_row
    (case nnew_row => k_is); (case lnew_row => k_is); (case cnew_row => k_is); (case knew_row => k_is)
    intro f_new_row d_new_row m_new_row F_new_row b_new_row
    refine' Y.k55.useFn KX G (x := "_law_change") (st := Y.k55.top 20) (ps := ["_law_bag_here", "_law_rows", "_law_kind"]) ?nchange ?lchange ?cchange ?kchange (fun _ _ _ _ _ _ us hl => match us, hl with | [_, _, _], _ => rfl) ?rchange
    (case nchange => k_is); (case lchange => k_is); (case cchange => k_is); (case kchange => k_is)
    intro f_change d_change m_change F_change b_change
    refine' Y.k55.useFn KX G (x := "law") (st := Y.k55.top 23) (ps := ["_law_script"]) ?nlaw ?llaw ?claw ?klaw (fun _ _ _ _ _ _ us hl => match us, hl with | [_], _ => rfl) ?rlaw
    (case nlaw => k_is); (case llaw => k_is); (case claw => k_is); (case klaw => k_is)
    intro f_law d_law m_law F_law b_law
    have x_no_int : mg "int" = none := by
      refine' PySem.W.mg_none_of KX G ?nno_int
      (case nno_int => k_is)
    have x_no_list : mg "list" = none := by
      refine' PySem.W.mg_none_of KX G ?nno_list
      (case nno_list => k_is)
    have x_no_repr : mg "repr" = none := by
      refine' PySem.W.mg_none_of KX G ?nno_repr
      (case nno_repr => k_is)
    have x_no_enumerate : mg "enumerate" = none := by
      refine' PySem.W.mg_none_of KX G ?nno_enumerate
      (case nno_enumerate => k_is)
    have x_no_len : mg "len" = none := by
      refine' PySem.W.mg_none_of KX G ?nno_len
      (case nno_len => k_is)
    have x_no_tuple : mg "tuple" = none := by
      refine' PySem.W.mg_none_of KX G ?nno_tuple
      (case nno_tuple => k_is)
    have x_no_range : mg "range" = none := by
      refine' PySem.W.mg_none_of KX G ?nno_range
      (case nno_range => k_is)
    have x_no_isinstance : mg "isinstance" = none := by
      refine' PySem.W.mg_none_of KX G ?nno_isinstance
      (case nno_isinstance => k_is)
    have x_no_str : mg "str" = none := by
      refine' PySem.W.mg_none_of KX G ?nno_str
      (case nno_str => k_is)
    have x_no_bool : mg "bool" = none := by
      refine' PySem.W.mg_none_of KX G ?nno_bool
      (case nno_bool => k_is)
    have e := hmg.symm.trans m_law
    cases e
    refine ⟨d_law, fun s u => .of_eq (b_law [u] rfl), fun base hb hg => ?_⟩
    exact (Y.k55.ok_law (a := { S := Y.SK _, f_bag := f_bag, d_bag := d_bag, f_repeats_mark := f_repeats_mark, d_repeats_mark := d_repeats_mark, f_has_read := f_has_read, d_has_read := d_has_read, f_repeats_peer := f_repeats_peer, d_repeats_peer := d_repeats_peer, f_partner_of := f_partner_of, d_partner_of := d_partner_of, f_is_prefix := f_is_prefix, d_is_prefix := d_is_prefix, f_broken_rule := f_broken_rule, d_broken_rule := d_broken_rule, f_unsound := f_unsound, d_unsound := d_unsound, f_broken := f_broken, d_broken := d_broken, f_is_whole := f_is_whole, d_is_whole := d_is_whole, f_holds := f_holds, d_holds := d_holds, f_take := f_take, d_take := d_take, f_wide := f_wide, d_wide := d_wide, f_mark := f_mark, d_mark := d_mark, f_bytes := f_bytes, d_bytes := d_bytes, f_couple := f_couple, d_couple := d_couple, f_single := f_single, d_single := d_single, f_ledger := f_ledger, d_ledger := d_ledger, f_altered := f_altered, d_altered := d_altered, f_new_row := f_new_row, d_new_row := d_new_row, f_change := f_change, d_change := d_change, f_law := _, d_law := d_law }) { st := rfl, no_int := x_no_int, mg_bag := m_bag, bd_bag := .all b_bag, fn_bag := F_bag, no_list := x_no_list, no_repr := x_no_repr, no_enumerate := x_no_enumerate, mg_repeats_mark := m_repeats_mark, bd_repeats_mark := .all b_repeats_mark, fn_repeats_mark := F_repeats_mark, no_len := x_no_len, mg_has_read := m_has_read, bd_has_read := .all b_has_read, fn_has_read := F_has_read, mg_repeats_peer := m_repeats_peer, bd_repeats_peer := .all b_repeats_peer, fn_repeats_peer := F_repeats_peer, mg_partner_of := m_partner_of, bd_partner_of := .all b_partner_of, fn_partner_of := F_partner_of, no_tuple := x_no_tuple, mg_is_prefix := m_is_prefix, bd_is_prefix := .all b_is_prefix, fn_is_prefix := F_is_prefix, mg_broken_rule := m_broken_rule, bd_broken_rule := .all b_broken_rule, fn_broken_rule := F_broken_rule, mg_unsound := m_unsound, bd_unsound := .all b_unsound, fn_unsound := F_unsound, no_range := x_no_range, mg_broken := m_broken, bd_broken := .all b_broken, fn_broken := F_broken, no_isinstance := x_no_isinstance, no_str := x_no_str, no_bool := x_no_bool, mg_is_whole := m_is_whole, bd_is_whole := .all b_is_whole, fn_is_whole := F_is_whole, mg_holds := m_holds, bd_holds := .all b_holds, fn_holds := F_holds, mg_take := m_take, bd_take := .all b_take, fn_take := F_take, mg_wide := m_wide, bd_wide := .all b_wide, fn_wide := F_wide, mg_mark := m_mark, bd_mark := .all b_mark, fn_mark := F_mark, mg_bytes := m_bytes, bd_bytes := .all b_bytes, fn_bytes := F_bytes, mg_couple := m_couple, bd_couple := .all b_couple, fn_couple := F_couple, mg_single := m_single, bd_single := .all b_single, fn_single := F_single, mg_ledger := m_ledger, bd_ledger := .all b_ledger, fn_ledger := F_ledger, mg_altered := m_altered, bd_altered := .all b_altered, fn_altered := F_altered, mg_new_row := m_new_row, bd_new_row := .all b_new_row, fn_new_row := F_new_row, mg_change := m_change, bd_change := .all b_change, fn_change := F_change, fn_law := F_law, bd_law := .all b_law, mg_law := m_law }).imp fun vs H Q E h => Y.k55.law_holds _ rfl vs H Q E h

